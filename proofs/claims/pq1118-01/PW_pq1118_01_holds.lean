import PyProof.Rows.All
import PyProof.AttrMissHeap
import PyProof.AutoIntOps
import PyProof.ExcArgsOwn
import PyProof.ExcBaseAll.Exception
import PyProof.ExcAttrAll.Exception
import PyProof.ExcInit
import PyProof.StationsW
import PyProof.InstLoad
import PyProof.InstStoreFacts
import PyProof.Rows.TupDisplay
import PyProof.Rows.SortWalk
import OpenK.KMore
import KE.IntBitsLaws
import KE.KDictList
import KE.KEqDat
import Wide.FinOn
import OpenK.AllK
import Wide.All
import PySem.Challenge.RW_pq1118_01
set_option Elab.async false
set_option tactic.hygienic false
set_option bootstrap.genMatcherCode false
set_option genInjectivity false
set_option genSizeOf false
set_option maxRecDepth 100000
set_option maxHeartbeats 100000000
set_option linter.unusedSimpArgs false
set_option linter.unusedVariables false
namespace Mine.Internal
section
theorem alS{α:Type _}{a b:α}(h:some a=some b):a=b:=Option.some.inj h
theorem alA{a b:Bool}(h:(a&&b)=true):a=true/\b=true:=Bool.and_eq_true_iff.mp h
theorem alB{a b:Bool}(h:a=true/\b=true):(a&&b)=true:=Bool.and_eq_true_iff.mpr h
theorem alC{α:Type _}{a b:α}{l:List α}(h:a∈b::l):a=b\/a∈l:=List.mem_cons.mp h
theorem alD{α β:Type _}{f:α->β}{x:Option α}{b:β}(h:x.map f=some b):∃a,x=some a/\f a=b:=Option.map_eq_some_iff.mp h
theorem alE{n m:Nat}(h:Nat.ble n m=true):n<=m:=Nat.le_of_ble_eq_true h
theorem alF{α β:Type _}{l:List α}(f:α->β):(l.map f).length=l.length:=List.length_map f
theorem alG{p:Prop}[i:Decidable p](h:p):decide p=true:=decide_eq_true h
theorem alH{p:Prop}[i:Decidable p](h:decide p=true):p:=of_decide_eq_true h
theorem alI{n m k:Nat}(h:n<=m)(g:m<k):n<k:=Nat.lt_of_le_of_lt h g
theorem alJ{n m k:Nat}(h:n<=m)(g:m<=k):n<=k:=Nat.le_trans h g
theorem alK{α:Type _}{a b:α}(h:a∈[b]):a=b:=List.mem_singleton.mp h
theorem alL{α:Type _}{p:α->Bool}{l:List α}{a:α}(h:a∈l.filter p):a∈l/\p a=true:=List.mem_filter.mp h
theorem alN{α:Type _}{p:α->Bool}{l:List α}(h:l.all p=true):∀x,x∈l->p x=true:=List.all_eq_true.mp h
theorem alO{b:Bool}(h:b≠true):b=false:=Bool.eq_false_iff.mpr h
theorem alP{n m:Nat}(h:Nat.beq n m=true):n=m:=Nat.eq_of_beq_eq_true h
theorem alQ{α β:Sort _}{a b:α}(f:α->β)(h:a=b):f a=f b:=congrArg f h
theorem xA{P0:Prop}{P1:Prop}{G:Prop}(h:P0/\P1)(k:P0->P1->G):G:=k h.1 h.2
theorem xE{α0:Sort _}{P0:α0->Prop}{G:Prop}(h:∃a0,P0 a0)(k:∀a0,P0 a0->G):G:=h.elim λa0 h0=>k a0 h0
theorem xAA{P0:Prop}{P1:Prop}{P2:Prop}{G:Prop}(h:P0/\P1/\P2)(k:P0->P1->P2->G):G:=k h.1 h.2.1 h.2.2
theorem xAE{α0:Sort _}{P0:Prop}{P1:α0->Prop}{G:Prop}(h:P0/\∃a0,P1 a0)(k:P0->∀a0,P1 a0->G):G:=h.2.elim λa0 h0=>k h.1 a0 h0
theorem xEA{α0:Sort _}{P0:α0->Prop}{P1:α0->Prop}{G:Prop}(h:∃a0,P0 a0/\P1 a0)(k:∀a0,P0 a0->P1 a0->G):G:=h.elim λa0 h0=>k a0 h0.1 h0.2
theorem xEE{α0 α1:Sort _}{P0:α0->α1->Prop}{G:Prop}(h:∃a0,∃a1,P0 a0 a1)(k:∀a0,∀a1,P0 a0 a1->G):G:=h.elim λa0 h0=>h0.elim λa1 h1=>k a0 a1 h1
theorem KT{P0:Prop}{P1:Prop}{P2:Prop}{P3:Prop}{G:Prop}(h:P0/\P1/\P2/\P3)(k:P0->P1->P2->P3->G):G:=k h.1 h.2.1 h.2.2.1 h.2.2.2
theorem Ed{α0:Sort _}{P0:Prop}{P1:α0->Prop}{P2:α0->Prop}{G:Prop}(h:P0/\∃a0,P1 a0/\P2 a0)(k:P0->∀a0,P1 a0->P2 a0->G):G:=h.2.elim λa0 h0=>k h.1 a0 h0.1 h0.2
theorem eO{α0:Sort _}{P0:α0->Prop}{P1:α0->Prop}{P2:α0->Prop}{G:Prop}(h:∃a0,P0 a0/\P1 a0/\P2 a0)(k:∀a0,P0 a0->P1 a0->P2 a0->G):G:=h.elim λa0 h0=>k a0 h0.1 h0.2.1 h0.2.2
theorem Qd{α0 α1:Sort _}{P0:α0->Prop}{P1:α0->α1->Prop}{G:Prop}(h:∃a0,P0 a0/\∃a1,P1 a0 a1)(k:∀a0,P0 a0->∀a1,P1 a0 a1->G):G:=h.elim λa0 h0=>h0.2.elim λa1 h1=>k a0 h0.1 a1 h1
theorem vE{α0 α1:Sort _}{P0:α0->α1->Prop}{P1:α0->α1->Prop}{G:Prop}(h:∃a0,∃a1,P0 a0 a1/\P1 a0 a1)(k:∀a0,∀a1,P0 a0 a1->P1 a0 a1->G):G:=h.elim λa0 h0=>h0.elim λa1 h1=>k a0 a1 h1.1 h1.2
theorem OV{α0 α1 α2:Sort _}{P0:α0->α1->α2->Prop}{G:Prop}(h:∃a0,∃a1,∃a2,P0 a0 a1 a2)(k:∀a0,∀a1,∀a2,P0 a0 a1 a2->G):G:=h.elim λa0 h0=>h0.elim λa1 h1=>h1.elim λa2 h2=>k a0 a1 a2 h2
theorem Od{P0:Prop}{P1:Prop}{P2:Prop}{P3:Prop}{P4:Prop}{G:Prop}(h:P0/\P1/\P2/\P3/\P4)(k:P0->P1->P2->P3->P4->G):G:=k h.1 h.2.1 h.2.2.1 h.2.2.2.1 h.2.2.2.2
theorem LT{α0:Sort _}{P0:Prop}{P1:Prop}{P2:α0->Prop}{P3:α0->Prop}{G:Prop}(h:P0/\P1/\∃a0,P2 a0/\P3 a0)(k:P0->P1->∀a0,P2 a0->P3 a0->G):G:=h.2.2.elim λa0 h0=>k h.1 h.2.1 a0 h0.1 h0.2
theorem dE{α0 α1:Sort _}{P0:Prop}{P1:α0->α1->Prop}{P2:α0->α1->Prop}{G:Prop}(h:P0/\∃a0,∃a1,P1 a0 a1/\P2 a0 a1)(k:P0->∀a0,∀a1,P1 a0 a1->P2 a0 a1->G):G:=h.2.elim λa0 h0=>h0.elim λa1 h1=>k h.1 a0 a1 h1.1 h1.2
theorem Gj{α0:Sort _}{P0:α0->Prop}{P1:α0->Prop}{P2:α0->Prop}{P3:α0->Prop}{G:Prop}(h:∃a0,P0 a0/\P1 a0/\P2 a0/\P3 a0)(k:∀a0,P0 a0->P1 a0->P2 a0->P3 a0->G):G:=h.elim λa0 h0=>k a0 h0.1 h0.2.1 h0.2.2.1 h0.2.2.2
theorem mV{α0 α1:Sort _}{P0:α0->Prop}{P1:α0->Prop}{P2:α0->α1->Prop}{G:Prop}(h:∃a0,P0 a0/\P1 a0/\∃a1,P2 a0 a1)(k:∀a0,P0 a0->P1 a0->∀a1,P2 a0 a1->G):G:=h.elim λa0 h0=>h0.2.2.elim λa1 h1=>k a0 h0.1 h0.2.1 a1 h1
theorem Mt{α0 α1:Sort _}{P0:α0->Prop}{P1:α0->α1->Prop}{P2:α0->α1->Prop}{G:Prop}(h:∃a0,P0 a0/\∃a1,P1 a0 a1/\P2 a0 a1)(k:∀a0,P0 a0->∀a1,P1 a0 a1->P2 a0 a1->G):G:=h.elim λa0 h0=>h0.2.elim λa1 h1=>k a0 h0.1 a1 h1.1 h1.2
theorem yW{α0 α1:Sort _}{P0:α0->α1->Prop}{P1:α0->α1->Prop}{P2:α0->α1->Prop}{G:Prop}(h:∃a0,∃a1,P0 a0 a1/\P1 a0 a1/\P2 a0 a1)(k:∀a0,∀a1,P0 a0 a1->P1 a0 a1->P2 a0 a1->G):G:=h.elim λa0 h0=>h0.elim λa1 h1=>k a0 a1 h1.1 h1.2.1 h1.2.2
theorem Hk{α0 α1 α2:Sort _}{P0:α0->α1->α2->Prop}{P1:α0->α1->α2->Prop}{G:Prop}(h:∃a0,∃a1,∃a2,P0 a0 a1 a2/\P1 a0 a1 a2)(k:∀a0,∀a1,∀a2,P0 a0 a1 a2->P1 a0 a1 a2->G):G:=h.elim λa0 h0=>h0.elim λa1 h1=>h1.elim λa2 h2=>k a0 a1 a2 h2.1 h2.2
theorem nI{α0 α1 α2 α3:Sort _}{P0:α0->α1->α2->α3->Prop}{G:Prop}(h:∃a0,∃a1,∃a2,∃a3,P0 a0 a1 a2 a3)(k:∀a0,∀a1,∀a2,∀a3,P0 a0 a1 a2 a3->G):G:=h.elim λa0 h0=>h0.elim λa1 h1=>h1.elim λa2 h2=>h2.elim λa3 h3=>k a0 a1 a2 a3 h3
theorem E4{P0:Prop}{P1:Prop}{P2:Prop}{P3:Prop}{P4:Prop}{P5:Prop}{G:Prop}(h:P0/\P1/\P2/\P3/\P4/\P5)(k:P0->P1->P2->P3->P4->P5->G):G:=k h.1 h.2.1 h.2.2.1 h.2.2.2.1 h.2.2.2.2.1 h.2.2.2.2.2
theorem xN{α0 α1:Sort _}{P0:Prop}{P1:α0->α1->Prop}{P2:α0->α1->Prop}{P3:α0->α1->Prop}{G:Prop}(h:P0/\∃a0,∃a1,P1 a0 a1/\P2 a0 a1/\P3 a0 a1)(k:P0->∀a0,∀a1,P1 a0 a1->P2 a0 a1->P3 a0 a1->G):G:=h.2.elim λa0 h0=>h0.elim λa1 h1=>k h.1 a0 a1 h1.1 h1.2.1 h1.2.2
theorem Ki{α0 α1 α2 α3:Sort _}{P0:Prop}{P1:α0->α1->α2->α3->Prop}{G:Prop}(h:P0/\∃a0,∃a1,∃a2,∃a3,P1 a0 a1 a2 a3)(k:P0->∀a0,∀a1,∀a2,∀a3,P1 a0 a1 a2 a3->G):G:=h.2.elim λa0 h0=>h0.elim λa1 h1=>h1.elim λa2 h2=>h2.elim λa3 h3=>k h.1 a0 a1 a2 a3 h3
theorem eJ{α0 α1:Sort _}{P0:α0->α1->Prop}{P1:α0->α1->Prop}{P2:α0->α1->Prop}{P3:α0->α1->Prop}{G:Prop}(h:∃a0,∃a1,P0 a0 a1/\P1 a0 a1/\P2 a0 a1/\P3 a0 a1)(k:∀a0,∀a1,P0 a0 a1->P1 a0 a1->P2 a0 a1->P3 a0 a1->G):G:=h.elim λa0 h0=>h0.elim λa1 h1=>k a0 a1 h1.1 h1.2.1 h1.2.2.1 h1.2.2.2
theorem oN{α0 α1 α2:Sort _}{P0:α0->α1->α2->Prop}{P1:α0->α1->α2->Prop}{P2:α0->α1->α2->Prop}{G:Prop}(h:∃a0,∃a1,∃a2,P0 a0 a1 a2/\P1 a0 a1 a2/\P2 a0 a1 a2)(k:∀a0,∀a1,∀a2,P0 a0 a1 a2->P1 a0 a1 a2->P2 a0 a1 a2->G):G:=h.elim λa0 h0=>h0.elim λa1 h1=>h1.elim λa2 h2=>k a0 a1 a2 h2.1 h2.2.1 h2.2.2
theorem Ie{α0 α1 α2 α3:Sort _}{P0:α0->α1->α2->α3->Prop}{P1:α0->α1->α2->α3->Prop}{G:Prop}(h:∃a0,∃a1,∃a2,∃a3,P0 a0 a1 a2 a3/\P1 a0 a1 a2 a3)(k:∀a0,∀a1,∀a2,∀a3,P0 a0 a1 a2 a3->P1 a0 a1 a2 a3->G):G:=h.elim λa0 h0=>h0.elim λa1 h1=>h1.elim λa2 h2=>h2.elim λa3 h3=>k a0 a1 a2 a3 h3.1 h3.2
theorem xK{α0:Sort _}{P0:Prop}{P1:Prop}{P2:Prop}{P3:Prop}{P4:α0->Prop}{P5:α0->Prop}{G:Prop}(h:P0/\P1/\P2/\P3/\∃a0,P4 a0/\P5 a0)(k:P0->P1->P2->P3->∀a0,P4 a0->P5 a0->G):G:=h.2.2.2.2.elim λa0 h0=>k h.1 h.2.1 h.2.2.1 h.2.2.2.1 a0 h0.1 h0.2
theorem vA{α0 α1:Sort _}{P0:Prop}{P1:α0->α1->Prop}{P2:α0->α1->Prop}{P3:α0->α1->Prop}{P4:α0->α1->Prop}{G:Prop}(h:P0/\∃a0,∃a1,P1 a0 a1/\P2 a0 a1/\P3 a0 a1/\P4 a0 a1)(k:P0->∀a0,∀a1,P1 a0 a1->P2 a0 a1->P3 a0 a1->P4 a0 a1->G):G:=h.2.elim λa0 h0=>h0.elim λa1 h1=>k h.1 a0 a1 h1.1 h1.2.1 h1.2.2.1 h1.2.2.2
theorem As{α0:Sort _}{P0:α0->Prop}{P1:α0->Prop}{P2:α0->Prop}{P3:α0->Prop}{P4:α0->Prop}{P5:α0->Prop}{G:Prop}(h:∃a0,P0 a0/\P1 a0/\P2 a0/\P3 a0/\P4 a0/\P5 a0)(k:∀a0,P0 a0->P1 a0->P2 a0->P3 a0->P4 a0->P5 a0->G):G:=h.elim λa0 h0=>k a0 h0.1 h0.2.1 h0.2.2.1 h0.2.2.2.1 h0.2.2.2.2.1 h0.2.2.2.2.2
theorem EV{α0 α1 α2:Sort _}{P0:α0->Prop}{P1:α0->α1->Prop}{P2:α0->α1->α2->Prop}{P3:α0->α1->α2->Prop}{G:Prop}(h:∃a0,P0 a0/\∃a1,P1 a0 a1/\∃a2,P2 a0 a1 a2/\P3 a0 a1 a2)(k:∀a0,P0 a0->∀a1,P1 a0 a1->∀a2,P2 a0 a1 a2->P3 a0 a1 a2->G):G:=h.elim λa0 h0=>h0.2.elim λa1 h1=>h1.2.elim λa2 h2=>k a0 h0.1 a1 h1.1 a2 h2.1 h2.2
theorem EN{α0 α1:Sort _}{P0:α0->α1->Prop}{P1:α0->α1->Prop}{P2:α0->α1->Prop}{P3:α0->α1->Prop}{P4:α0->α1->Prop}{G:Prop}(h:∃a0,∃a1,P0 a0 a1/\P1 a0 a1/\P2 a0 a1/\P3 a0 a1/\P4 a0 a1)(k:∀a0,∀a1,P0 a0 a1->P1 a0 a1->P2 a0 a1->P3 a0 a1->P4 a0 a1->G):G:=h.elim λa0 h0=>h0.elim λa1 h1=>k a0 a1 h1.1 h1.2.1 h1.2.2.1 h1.2.2.2.1 h1.2.2.2.2
theorem AJ{α0 α1 α2 α3:Sort _}{P0:α0->α1->Prop}{P1:α0->α1->α2->α3->Prop}{P2:α0->α1->α2->α3->Prop}{G:Prop}(h:∃a0,∃a1,P0 a0 a1/\∃a2,∃a3,P1 a0 a1 a2 a3/\P2 a0 a1 a2 a3)(k:∀a0,∀a1,P0 a0 a1->∀a2,∀a3,P1 a0 a1 a2 a3->P2 a0 a1 a2 a3->G):G:=h.elim λa0 h0=>h0.elim λa1 h1=>h1.2.elim λa2 h2=>h2.elim λa3 h3=>k a0 a1 h1.1 a2 a3 h3.1 h3.2
theorem e8{α0 α1 α2:Sort _}{P0:α0->α1->α2->Prop}{P1:α0->α1->α2->Prop}{P2:α0->α1->α2->Prop}{P3:α0->α1->α2->Prop}{G:Prop}(h:∃a0,∃a1,∃a2,P0 a0 a1 a2/\P1 a0 a1 a2/\P2 a0 a1 a2/\P3 a0 a1 a2)(k:∀a0,∀a1,∀a2,P0 a0 a1 a2->P1 a0 a1 a2->P2 a0 a1 a2->P3 a0 a1 a2->G):G:=h.elim λa0 h0=>h0.elim λa1 h1=>h1.elim λa2 h2=>k a0 a1 a2 h2.1 h2.2.1 h2.2.2.1 h2.2.2.2
theorem FA{α0 α1 α2 α3:Sort _}{P0:α0->α1->α2->α3->Prop}{P1:α0->α1->α2->α3->Prop}{P2:α0->α1->α2->α3->Prop}{G:Prop}(h:∃a0,∃a1,∃a2,∃a3,P0 a0 a1 a2 a3/\P1 a0 a1 a2 a3/\P2 a0 a1 a2 a3)(k:∀a0,∀a1,∀a2,∀a3,P0 a0 a1 a2 a3->P1 a0 a1 a2 a3->P2 a0 a1 a2 a3->G):G:=h.elim λa0 h0=>h0.elim λa1 h1=>h1.elim λa2 h2=>h2.elim λa3 h3=>k a0 a1 a2 a3 h3.1 h3.2.1 h3.2.2
theorem qI{α0 α1 α2 α3 α4:Sort _}{P0:α0->α1->α2->α3->α4->Prop}{P1:α0->α1->α2->α3->α4->Prop}{G:Prop}(h:∃a0,∃a1,∃a2,∃a3,∃a4,P0 a0 a1 a2 a3 a4/\P1 a0 a1 a2 a3 a4)(k:∀a0,∀a1,∀a2,∀a3,∀a4,P0 a0 a1 a2 a3 a4->P1 a0 a1 a2 a3 a4->G):G:=h.elim λa0 h0=>h0.elim λa1 h1=>h1.elim λa2 h2=>h2.elim λa3 h3=>h3.elim λa4 h4=>k a0 a1 a2 a3 a4 h4.1 h4.2
theorem pN{α0 α1:Sort _}{P0:Prop}{P1:Prop}{P2:α0->α1->Prop}{P3:α0->α1->Prop}{P4:α0->α1->Prop}{P5:α0->α1->Prop}{G:Prop}(h:P0/\P1/\∃a0,∃a1,P2 a0 a1/\P3 a0 a1/\P4 a0 a1/\P5 a0 a1)(k:P0->P1->∀a0,∀a1,P2 a0 a1->P3 a0 a1->P4 a0 a1->P5 a0 a1->G):G:=h.2.2.elim λa0 h0=>h0.elim λa1 h1=>k h.1 h.2.1 a0 a1 h1.1 h1.2.1 h1.2.2.1 h1.2.2.2
theorem oK{α0 α1:Sort _}{P0:Prop}{P1:α0->α1->Prop}{P2:α0->α1->Prop}{P3:α0->α1->Prop}{P4:α0->α1->Prop}{P5:α0->α1->Prop}{G:Prop}(h:P0/\∃a0,∃a1,P1 a0 a1/\P2 a0 a1/\P3 a0 a1/\P4 a0 a1/\P5 a0 a1)(k:P0->∀a0,∀a1,P1 a0 a1->P2 a0 a1->P3 a0 a1->P4 a0 a1->P5 a0 a1->G):G:=h.2.elim λa0 h0=>h0.elim λa1 h1=>k h.1 a0 a1 h1.1 h1.2.1 h1.2.2.1 h1.2.2.2.1 h1.2.2.2.2
theorem eX{α0 α1:Sort _}{P0:α0->α1->Prop}{P1:α0->α1->Prop}{P2:α0->α1->Prop}{P3:α0->α1->Prop}{P4:α0->α1->Prop}{P5:α0->α1->Prop}{G:Prop}(h:∃a0,∃a1,P0 a0 a1/\P1 a0 a1/\P2 a0 a1/\P3 a0 a1/\P4 a0 a1/\P5 a0 a1)(k:∀a0,∀a1,P0 a0 a1->P1 a0 a1->P2 a0 a1->P3 a0 a1->P4 a0 a1->P5 a0 a1->G):G:=h.elim λa0 h0=>h0.elim λa1 h1=>k a0 a1 h1.1 h1.2.1 h1.2.2.1 h1.2.2.2.1 h1.2.2.2.2.1 h1.2.2.2.2.2
theorem bL{α0 α1 α2:Sort _}{P0:α0->α1->α2->Prop}{P1:α0->α1->α2->Prop}{P2:α0->α1->α2->Prop}{P3:α0->α1->α2->Prop}{P4:α0->α1->α2->Prop}{G:Prop}(h:∃a0,∃a1,∃a2,P0 a0 a1 a2/\P1 a0 a1 a2/\P2 a0 a1 a2/\P3 a0 a1 a2/\P4 a0 a1 a2)(k:∀a0,∀a1,∀a2,P0 a0 a1 a2->P1 a0 a1 a2->P2 a0 a1 a2->P3 a0 a1 a2->P4 a0 a1 a2->G):G:=h.elim λa0 h0=>h0.elim λa1 h1=>h1.elim λa2 h2=>k a0 a1 a2 h2.1 h2.2.1 h2.2.2.1 h2.2.2.2.1 h2.2.2.2.2
theorem rG{α0 α1 α2 α3:Sort _}{P0:α0->α1->α2->α3->Prop}{P1:α0->α1->α2->α3->Prop}{P2:α0->α1->α2->α3->Prop}{P3:α0->α1->α2->α3->Prop}{G:Prop}(h:∃a0,∃a1,∃a2,∃a3,P0 a0 a1 a2 a3/\P1 a0 a1 a2 a3/\P2 a0 a1 a2 a3/\P3 a0 a1 a2 a3)(k:∀a0,∀a1,∀a2,∀a3,P0 a0 a1 a2 a3->P1 a0 a1 a2 a3->P2 a0 a1 a2 a3->P3 a0 a1 a2 a3->G):G:=h.elim λa0 h0=>h0.elim λa1 h1=>h1.elim λa2 h2=>h2.elim λa3 h3=>k a0 a1 a2 a3 h3.1 h3.2.1 h3.2.2.1 h3.2.2.2
theorem qX{α0 α1 α2 α3 α4:Sort _}{P0:α0->α1->α2->α3->α4->Prop}{P1:α0->α1->α2->α3->α4->Prop}{P2:α0->α1->α2->α3->α4->Prop}{G:Prop}(h:∃a0,∃a1,∃a2,∃a3,∃a4,P0 a0 a1 a2 a3 a4/\P1 a0 a1 a2 a3 a4/\P2 a0 a1 a2 a3 a4)(k:∀a0,∀a1,∀a2,∀a3,∀a4,P0 a0 a1 a2 a3 a4->P1 a0 a1 a2 a3 a4->P2 a0 a1 a2 a3 a4->G):G:=h.elim λa0 h0=>h0.elim λa1 h1=>h1.elim λa2 h2=>h2.elim λa3 h3=>h3.elim λa4 h4=>k a0 a1 a2 a3 a4 h4.1 h4.2.1 h4.2.2
theorem DD{α0 α1 α2 α3 α4 α5:Sort _}{P0:α0->α1->α2->α3->α4->α5->Prop}{P1:α0->α1->α2->α3->α4->α5->Prop}{G:Prop}(h:∃a0,∃a1,∃a2,∃a3,∃a4,∃a5,P0 a0 a1 a2 a3 a4 a5/\P1 a0 a1 a2 a3 a4 a5)(k:∀a0,∀a1,∀a2,∀a3,∀a4,∀a5,P0 a0 a1 a2 a3 a4 a5->P1 a0 a1 a2 a3 a4 a5->G):G:=h.elim λa0 h0=>h0.elim λa1 h1=>h1.elim λa2 h2=>h2.elim λa3 h3=>h3.elim λa4 h4=>h4.elim λa5 h5=>k a0 a1 a2 a3 a4 a5 h5.1 h5.2
theorem AP{α0 α1 α2 α3:Sort _}{P0:α0->α1->α2->α3->Prop}{P1:α0->α1->α2->α3->Prop}{P2:α0->α1->α2->α3->Prop}{P3:α0->α1->α2->α3->Prop}{P4:α0->α1->α2->α3->Prop}{G:Prop}(h:∃a0,∃a1,∃a2,∃a3,P0 a0 a1 a2 a3/\P1 a0 a1 a2 a3/\P2 a0 a1 a2 a3/\P3 a0 a1 a2 a3/\P4 a0 a1 a2 a3)(k:∀a0,∀a1,∀a2,∀a3,P0 a0 a1 a2 a3->P1 a0 a1 a2 a3->P2 a0 a1 a2 a3->P3 a0 a1 a2 a3->P4 a0 a1 a2 a3->G):G:=h.elim λa0 h0=>h0.elim λa1 h1=>h1.elim λa2 h2=>h2.elim λa3 h3=>k a0 a1 a2 a3 h3.1 h3.2.1 h3.2.2.1 h3.2.2.2.1 h3.2.2.2.2
theorem tL{α0 α1:Sort _}{P0:α0->Prop}{P1:α0->Prop}{P2:α0->α1->Prop}{P3:α0->α1->Prop}{P4:α0->α1->Prop}{P5:α0->α1->Prop}{P6:α0->α1->Prop}{P7:α0->α1->Prop}{G:Prop}(h:∃a0,P0 a0/\P1 a0/\∃a1,P2 a0 a1/\P3 a0 a1/\P4 a0 a1/\P5 a0 a1/\P6 a0 a1/\P7 a0 a1)(k:∀a0,P0 a0->P1 a0->∀a1,P2 a0 a1->P3 a0 a1->P4 a0 a1->P5 a0 a1->P6 a0 a1->P7 a0 a1->G):G:=h.elim λa0 h0=>h0.2.2.elim λa1 h1=>k a0 h0.1 h0.2.1 a1 h1.1 h1.2.1 h1.2.2.1 h1.2.2.2.1 h1.2.2.2.2.1 h1.2.2.2.2.2
theorem tH{α0 α1 α2 α3 α4:Sort _}{P0:α0->α1->α2->α3->α4->Prop}{P1:α0->α1->α2->α3->α4->Prop}{P2:α0->α1->α2->α3->α4->Prop}{P3:α0->α1->α2->α3->α4->Prop}{P4:α0->α1->α2->α3->α4->Prop}{G:Prop}(h:∃a0,∃a1,∃a2,∃a3,∃a4,P0 a0 a1 a2 a3 a4/\P1 a0 a1 a2 a3 a4/\P2 a0 a1 a2 a3 a4/\P3 a0 a1 a2 a3 a4/\P4 a0 a1 a2 a3 a4)(k:∀a0,∀a1,∀a2,∀a3,∀a4,P0 a0 a1 a2 a3 a4->P1 a0 a1 a2 a3 a4->P2 a0 a1 a2 a3 a4->P3 a0 a1 a2 a3 a4->P4 a0 a1 a2 a3 a4->G):G:=h.elim λa0 h0=>h0.elim λa1 h1=>h1.elim λa2 h2=>h2.elim λa3 h3=>h3.elim λa4 h4=>k a0 a1 a2 a3 a4 h4.1 h4.2.1 h4.2.2.1 h4.2.2.2.1 h4.2.2.2.2
theorem lE{α0 α1 α2 α3 α4 α5 α6:Sort _}{P0:α0->α1->α2->α3->α4->α5->α6->Prop}{P1:α0->α1->α2->α3->α4->α5->α6->Prop}{P2:α0->α1->α2->α3->α4->α5->α6->Prop}{P3:α0->α1->α2->α3->α4->α5->α6->Prop}{P4:α0->α1->α2->α3->α4->α5->α6->Prop}{G:Prop}(h:∃a0,∃a1,∃a2,∃a3,∃a4,∃a5,∃a6,P0 a0 a1 a2 a3 a4 a5 a6/\P1 a0 a1 a2 a3 a4 a5 a6/\P2 a0 a1 a2 a3 a4 a5 a6/\P3 a0 a1 a2 a3 a4 a5 a6/\P4 a0 a1 a2 a3 a4 a5 a6)(k:∀a0,∀a1,∀a2,∀a3,∀a4,∀a5,∀a6,P0 a0 a1 a2 a3 a4 a5 a6->P1 a0 a1 a2 a3 a4 a5 a6->P2 a0 a1 a2 a3 a4 a5 a6->P3 a0 a1 a2 a3 a4 a5 a6->P4 a0 a1 a2 a3 a4 a5 a6->G):G:=h.elim λa0 h0=>h0.elim λa1 h1=>h1.elim λa2 h2=>h2.elim λa3 h3=>h3.elim λa4 h4=>h4.elim λa5 h5=>h5.elim λa6 h6=>k a0 a1 a2 a3 a4 a5 a6 h6.1 h6.2.1 h6.2.2.1 h6.2.2.2.1 h6.2.2.2.2
theorem eZ{P0:Prop}{P1:Prop}{P2:Prop}{P3:Prop}{P4:Prop}{P5:Prop}{P6:Prop}{P7:Prop}{P8:Prop}{P9:Prop}{P10:Prop}{P11:Prop}{P12:Prop}{G:Prop}(h:P0/\P1/\P2/\P3/\P4/\P5/\P6/\P7/\P8/\P9/\P10/\P11/\P12)(k:P0->P1->P2->P3->P4->P5->P6->P7->P8->P9->P10->P11->P12->G):G:=k h.1 h.2.1 h.2.2.1 h.2.2.2.1 h.2.2.2.2.1 h.2.2.2.2.2.1 h.2.2.2.2.2.2.1 h.2.2.2.2.2.2.2.1 h.2.2.2.2.2.2.2.2.1 h.2.2.2.2.2.2.2.2.2.1 h.2.2.2.2.2.2.2.2.2.2.1 h.2.2.2.2.2.2.2.2.2.2.2.1 h.2.2.2.2.2.2.2.2.2.2.2.2
theorem dN{α0 α1 α2 α3 α4 α5 α6:Sort _}{P0:α0->α1->α2->α3->α4->α5->α6->Prop}{P1:α0->α1->α2->α3->α4->α5->α6->Prop}{P2:α0->α1->α2->α3->α4->α5->α6->Prop}{P3:α0->α1->α2->α3->α4->α5->α6->Prop}{P4:α0->α1->α2->α3->α4->α5->α6->Prop}{P5:α0->α1->α2->α3->α4->α5->α6->Prop}{P6:α0->α1->α2->α3->α4->α5->α6->Prop}{G:Prop}(h:∃a0,∃a1,∃a2,∃a3,∃a4,∃a5,∃a6,P0 a0 a1 a2 a3 a4 a5 a6/\P1 a0 a1 a2 a3 a4 a5 a6/\P2 a0 a1 a2 a3 a4 a5 a6/\P3 a0 a1 a2 a3 a4 a5 a6/\P4 a0 a1 a2 a3 a4 a5 a6/\P5 a0 a1 a2 a3 a4 a5 a6/\P6 a0 a1 a2 a3 a4 a5 a6)(k:∀a0,∀a1,∀a2,∀a3,∀a4,∀a5,∀a6,P0 a0 a1 a2 a3 a4 a5 a6->P1 a0 a1 a2 a3 a4 a5 a6->P2 a0 a1 a2 a3 a4 a5 a6->P3 a0 a1 a2 a3 a4 a5 a6->P4 a0 a1 a2 a3 a4 a5 a6->P5 a0 a1 a2 a3 a4 a5 a6->P6 a0 a1 a2 a3 a4 a5 a6->G):G:=h.elim λa0 h0=>h0.elim λa1 h1=>h1.elim λa2 h2=>h2.elim λa3 h3=>h3.elim λa4 h4=>h4.elim λa5 h5=>h5.elim λa6 h6=>k a0 a1 a2 a3 a4 a5 a6 h6.1 h6.2.1 h6.2.2.1 h6.2.2.2.1 h6.2.2.2.2.1 h6.2.2.2.2.2.1 h6.2.2.2.2.2.2
theorem dH{α0 α1 α2 α3 α4:Sort _}{P0:α0->α1->α2->α3->α4->Prop}{P1:α0->α1->α2->α3->α4->Prop}{P2:α0->α1->α2->α3->α4->Prop}{P3:α0->α1->α2->α3->α4->Prop}{P4:α0->α1->α2->α3->α4->Prop}{P5:α0->α1->α2->α3->α4->Prop}{P6:α0->α1->α2->α3->α4->Prop}{P7:α0->α1->α2->α3->α4->Prop}{P8:α0->α1->α2->α3->α4->Prop}{P9:α0->α1->α2->α3->α4->Prop}{G:Prop}(h:∃a0,∃a1,∃a2,∃a3,∃a4,P0 a0 a1 a2 a3 a4/\P1 a0 a1 a2 a3 a4/\P2 a0 a1 a2 a3 a4/\P3 a0 a1 a2 a3 a4/\P4 a0 a1 a2 a3 a4/\P5 a0 a1 a2 a3 a4/\P6 a0 a1 a2 a3 a4/\P7 a0 a1 a2 a3 a4/\P8 a0 a1 a2 a3 a4/\P9 a0 a1 a2 a3 a4)(k:∀a0,∀a1,∀a2,∀a3,∀a4,P0 a0 a1 a2 a3 a4->P1 a0 a1 a2 a3 a4->P2 a0 a1 a2 a3 a4->P3 a0 a1 a2 a3 a4->P4 a0 a1 a2 a3 a4->P5 a0 a1 a2 a3 a4->P6 a0 a1 a2 a3 a4->P7 a0 a1 a2 a3 a4->P8 a0 a1 a2 a3 a4->P9 a0 a1 a2 a3 a4->G):G:=h.elim λa0 h0=>h0.elim λa1 h1=>h1.elim λa2 h2=>h2.elim λa3 h3=>h3.elim λa4 h4=>k a0 a1 a2 a3 a4 h4.1 h4.2.1 h4.2.2.1 h4.2.2.2.1 h4.2.2.2.2.1 h4.2.2.2.2.2.1 h4.2.2.2.2.2.2.1 h4.2.2.2.2.2.2.2.1 h4.2.2.2.2.2.2.2.2.1 h4.2.2.2.2.2.2.2.2.2
theorem aX{α0 α1 α2 α3 α4 α5 α6 α7 α8 α9 α10 α11 α12:Sort _}{P0:Prop}{P1:α0->α1->α2->α3->α4->α5->α6->α7->α8->α9->α10->α11->α12->Prop}{P2:α0->α1->α2->α3->α4->α5->α6->α7->α8->α9->α10->α11->α12->Prop}{G:Prop}(h:P0/\∃a0,∃a1,∃a2,∃a3,∃a4,∃a5,∃a6,∃a7,∃a8,∃a9,∃a10,∃a11,∃a12,P1 a0 a1 a2 a3 a4 a5 a6 a7 a8 a9 a10 a11 a12/\P2 a0 a1 a2 a3 a4 a5 a6 a7 a8 a9 a10 a11 a12)(k:P0->∀a0,∀a1,∀a2,∀a3,∀a4,∀a5,∀a6,∀a7,∀a8,∀a9,∀a10,∀a11,∀a12,P1 a0 a1 a2 a3 a4 a5 a6 a7 a8 a9 a10 a11 a12->P2 a0 a1 a2 a3 a4 a5 a6 a7 a8 a9 a10 a11 a12->G):G:=h.2.elim λa0 h0=>h0.elim λa1 h1=>h1.elim λa2 h2=>h2.elim λa3 h3=>h3.elim λa4 h4=>h4.elim λa5 h5=>h5.elim λa6 h6=>h6.elim λa7 h7=>h7.elim λa8 h8=>h8.elim λa9 h9=>h9.elim λa10 h10=>h10.elim λa11 h11=>h11.elim λa12 h12=>k h.1 a0 a1 a2 a3 a4 a5 a6 a7 a8 a9 a10 a11 a12 h12.1 h12.2
end
section
open PySem (Str Addr NameKind Operator CmpOp BoolOp)
noncomputable section
inductive Al2{α β:Type}(P:α->β->Prop):List α->List β->Prop
 |nil:Al2 P [] []
 |cons {a b as bs}:P a b->Al2 P as bs->Al2 P (a::as) (b::bs)
namespace Al2
variable{α β:Type}{P Q:α->β->Prop}
theorem imp'{as:List α}{bs:List β}(h:Al2 P as bs):(∀a b,a∈as->b∈bs->P a b->Q a b)->Al2 Q as bs:=by
 induction h with
 |nil=>exactλJ=> .nil
 |cons p _ ih=>exactλf=> .cons (f _ _ (.head _) (.head _) p) (ih λa b ha hb=>f a b (.tail _ ha) (.tail _ hb))
theorem map{as:List α}{bs:List β}(h:Al2 P as bs)(f:∀a b,P a b->Q a b):Al2 Q as bs:=h.imp' λa b J J=>f a b
theorem length{as:List α}{bs:List β}(h:Al2 P as bs):as.length=bs.length:=by
 induction h with
 |nil=>rfl
 |cons _ _ ih=>exact alQ Nat.succ ih
theorem append{as as':List α}{bs bs':List β}(h:Al2 P as bs)(k:Al2 P as' bs'):Al2 P (as++as') (bs++bs'):=by
 induction h with
 |nil=>exact k
 |cons p _ ih=>exact .cons p ih
theorem flip{as:List α}{bs:List β}(h:Al2 P as bs):Al2 (λb a=>P a b) bs as:=by
 induction h with
 |nil=>exact .nil
 |cons p _ ih=>exact .cons p ih
theorem get{as:List α}{bs:List β}(h:Al2 P as bs):∀{i:Nat} {a:α},as[i]?=some a->∃b,bs[i]?=some b/\P a b:=by
 induction h with
 |nil=>exactλq=>nomatch q
 |cons p _ ih=>
  intro i;cases i with
  |zero=>exactλq=>⟨_,rfl,alS q▸p⟩
  |succ i=>exactλq=>ih (i:=i) q
theorem get'{as:List α}{bs:List β}(h:Al2 P as bs){i:Nat}{b:β}(q:bs[i]?=some b):∃a,as[i]?=some a/\P a b:=h.flip.get q
theorem mem{as:List α}{bs:List β}(h:Al2 P as bs){a:α}(q:a∈as):∃b,b∈bs/\P a b:=by
 refine xE (List.mem_iff_getElem?.mp q) λi hi=> ?_
 refine xEA (h.get hi) λb hb p=> ?_
 exact⟨b,List.mem_of_getElem? hb,p⟩
theorem mem'{as:List α}{bs:List β}(h:Al2 P as bs){b:β}(q:b∈bs):∃a,a∈as/\P a b:=h.flip.mem q
theorem modify{f:α->α}{g:β->β}{as:List α}{bs:List β}(h:Al2 P as bs)(k:∀a b,P a b->P (f a) (g b)):∀{i:Nat},Al2 P (as.modify i f) (bs.modify i g):=by
 induction h with
 |nil=>intro i;cases i<;>exact .nil
 |cons p r ih=>
  intro i;cases i with
  |zero=>exact .cons (k _ _ p) r
  |succ i=>exact .cons p ih
theorem erase{as:List α}{bs:List β}(h:Al2 P as bs):∀{i:Nat},Al2 P (as.eraseIdx i) (bs.eraseIdx i):=by
 induction h with
 |nil=>intro i;cases i<;>exact .nil
 |cons p r ih=>
  intro i;cases i with
  |zero=>exact r
  |succ i=>exact .cons p ih
theorem reverse{as:List α}{bs:List β}(h:Al2 P as bs):Al2 P as.reverse bs.reverse:=by
 induction h with
 |nil=>exact .nil
 |cons p _ ih=>rw[List.reverse_cons,List.reverse_cons];exact ih.append (.cons p .nil)
theorem set{as:List α}{bs:List β}(h:Al2 P as bs){a:α}{b:β}(p:P a b):∀{i:Nat},Al2 P (as.set i a) (bs.set i b):=by
 induction h with
 |nil=>exact .nil
 |cons q r ih=>
  intro i;cases i with
  |zero=>exact .cons p r
  |succ i=>exact .cons q ih
theorem take{as:List α}{bs:List β}(h:Al2 P as bs):∀{i:Nat},Al2 P (as.take i) (bs.take i):=by
 induction h with
 |nil=>intro i;cases i<;>exact .nil
 |cons p r ih=>intro i;cases i with
  |zero=>exact .nil
  |succ i=>exact .cons p ih
theorem drop{as:List α}{bs:List β}(h:Al2 P as bs):∀{i:Nat},Al2 P (as.drop i) (bs.drop i):=by
 induction h with
 |nil=>intro i;cases i<;>exact .nil
 |cons p r ih=>intro i;cases i with
  |zero=>exact .cons p r
  |succ i=>exact ih
end Al2
structure Loc where
 k:Nat
 i:Nat
noncomputable def Loc.R3(a b:Loc):Bool:= @Bool.rec (λJ=>Bool) false (Nat.beq a.i b.i) (Nat.beq a.k b.k)
theorem Loc.eqb_self(a:Loc):a.R3 a=true:=by unfold Loc.R3;rw[Nat.beq_refl,Nat.beq_refl]
theorem Loc.eqb_iff(a b:Loc):a.R3 b=true↔a=b:=by
 refine⟨λh=> ?_,λh=>h▸a.eqb_self⟩
 unfold Loc.R3 at h
 obtain⟨k,i⟩:=a
 obtain⟨k',i'⟩:=b
 cases e:Nat.beq k k' with
 |false=>rw[e] at h;exact Bool.noConfusion h
 |true=>
  rw[e] at h
  have e1:k=k':=alP e
  have e2:i=i':=alP h
  rw[e1,e2]
theorem Loc.eqb_ne{a b:Loc}(h:a≠b):a.R3 b=false:=alO λq=>h ((Loc.eqb_iff a b).mp q)
instance:DecidableEq Loc:=λa b=>decidable_of_iff (a.R3 b=true) (Loc.eqb_iff a b)
set_option genInjectivity true in
inductive V where
 |none|bool (b:Bool)|int (i:Int)|str (s:Nat)|bytes (b:List Nat)
 |Q1 (l:List V)|QN (l:List V)|Rt (n:Nat)|c (l:Loc)|obj (a:Nat)|ty (n:String)|bi (id:String)
set_option genInjectivity true in
inductive zU where
 |list (vs:List V)|dict (es:List (V×V))|Qz (C:Nat) (fs:List (Nat×V))|QA (bs:List Nat)
structure St where
 kd:Nat
 next:Nat
 get:Loc->Option zU
noncomputable def St.fr(U:St):Loc:=⟨U.kd,U.next⟩
noncomputable def St.Q6(U:St)(l:Loc)(o:zU):St:=⟨U.kd,U.next,λx=> @Bool.rec (λJ=>Option zU) (U.get x) (some o) (x.R3 l)⟩
noncomputable def St.new(U:St)(o:zU):St:=⟨U.kd,U.next+1,λx=> @Bool.rec (λJ=>Option zU) (U.get x) (some o) (x.R3 U.fr)⟩
noncomputable def V.Rr(v:V):Option Bool:= @V.casesOn (λJ=>Option Bool) v Option.none some (λJ=>Option.none) (λJ=>Option.none) (λJ=>Option.none) (λJ=>Option.none) (λJ=>Option.none) (λJ=>Option.none) (λJ=>Option.none) (λJ=>Option.none) (λJ=>Option.none) (λJ=>Option.none)
noncomputable def V.QO(v:V):Option Int:= @V.casesOn (λJ=>Option Int) v Option.none (λJ=>Option.none) some (λJ=>Option.none) (λJ=>Option.none) (λJ=>Option.none) (λJ=>Option.none) (λJ=>Option.none) (λJ=>Option.none) (λJ=>Option.none) (λJ=>Option.none) (λJ=>Option.none)
noncomputable def V.asStr(v:V):Option Nat:= @V.casesOn (λJ=>Option Nat) v Option.none (λJ=>Option.none) (λJ=>Option.none) some (λJ=>Option.none) (λJ=>Option.none) (λJ=>Option.none) (λJ=>Option.none) (λJ=>Option.none) (λJ=>Option.none) (λJ=>Option.none) (λJ=>Option.none)
noncomputable def V.Rj(v:V):Option (List Nat):= @V.casesOn (λJ=>Option (List Nat)) v Option.none (λJ=>Option.none) (λJ=>Option.none) (λJ=>Option.none) some (λJ=>Option.none) (λJ=>Option.none) (λJ=>Option.none) (λJ=>Option.none) (λJ=>Option.none) (λJ=>Option.none) (λJ=>Option.none)
noncomputable def V.Ru(v:V):Option (List V):= @V.casesOn (λJ=>Option (List V)) v Option.none (λJ=>Option.none) (λJ=>Option.none) (λJ=>Option.none) (λJ=>Option.none) some (λJ=>Option.none) (λJ=>Option.none) (λJ=>Option.none) (λJ=>Option.none) (λJ=>Option.none) (λJ=>Option.none)
noncomputable def V.asLst(v:V):Option (List V):= @V.casesOn (λJ=>Option (List V)) v Option.none (λJ=>Option.none) (λJ=>Option.none) (λJ=>Option.none) (λJ=>Option.none) (λJ=>Option.none) some (λJ=>Option.none) (λJ=>Option.none) (λJ=>Option.none) (λJ=>Option.none) (λJ=>Option.none)
noncomputable def V.asRng(v:V):Option Nat:= @V.casesOn (λJ=>Option Nat) v Option.none (λJ=>Option.none) (λJ=>Option.none) (λJ=>Option.none) (λJ=>Option.none) (λJ=>Option.none) (λJ=>Option.none) some (λJ=>Option.none) (λJ=>Option.none) (λJ=>Option.none) (λJ=>Option.none)
noncomputable def V.QD(v:V):Option Loc:= @V.casesOn (λJ=>Option Loc) v Option.none (λJ=>Option.none) (λJ=>Option.none) (λJ=>Option.none) (λJ=>Option.none) (λJ=>Option.none) (λJ=>Option.none) (λJ=>Option.none) some (λJ=>Option.none) (λJ=>Option.none) (λJ=>Option.none)
noncomputable def V.Rx(v:V):Option Nat:= @V.casesOn (λJ=>Option Nat) v Option.none (λJ=>Option.none) (λJ=>Option.none) (λJ=>Option.none) (λJ=>Option.none) (λJ=>Option.none) (λJ=>Option.none) (λJ=>Option.none) (λJ=>Option.none) some (λJ=>Option.none) (λJ=>Option.none)
noncomputable def V.RS(v:V):Option String:= @V.casesOn (λJ=>Option String) v Option.none (λJ=>Option.none) (λJ=>Option.none) (λJ=>Option.none) (λJ=>Option.none) (λJ=>Option.none) (λJ=>Option.none) (λJ=>Option.none) (λJ=>Option.none) (λJ=>Option.none) some (λJ=>Option.none)
noncomputable def V.RQ(v:V):Option String:= @V.casesOn (λJ=>Option String) v Option.none (λJ=>Option.none) (λJ=>Option.none) (λJ=>Option.none) (λJ=>Option.none) (λJ=>Option.none) (λJ=>Option.none) (λJ=>Option.none) (λJ=>Option.none) (λJ=>Option.none) (λJ=>Option.none) some
noncomputable def V.isNone(v:V):Bool:= @V.casesOn (λJ=>Bool) v true (λJ=>false) (λJ=>false) (λJ=>false) (λJ=>false) (λJ=>false) (λJ=>false) (λJ=>false) (λJ=>false) (λJ=>false) (λJ=>false) (λJ=>false)
theorem zG{α:Type}{x:α}{G:Prop}(h:(none:Option α)=some x):G:=nomatch h
theorem jG{G:Prop}(h:false=true):G:=nomatch h
theorem nM{v:V}{b:Bool}(h:v.Rr=some b){G:V->Prop}(k:G (.bool b)):G v:=by cases v<;>first|exact zG h|exact alS h▸k
theorem dD{v:V}{b:Bool}(h:v.Rr=some b):v= .bool b:=by apply nM h;rfl
theorem tJ{v:V}{b:Int}(h:v.QO=some b){G:V->Prop}(k:G (.int b)):G v:=by cases v<;>first|exact zG h|exact alS h▸k
theorem uX{v:V}{b:Int}(h:v.QO=some b):v= .int b:=by apply tJ h;rfl
theorem sQ{v:V}{b:Nat}(h:v.asStr=some b){G:V->Prop}(k:G (.str b)):G v:=by cases v<;>first|exact zG h|exact alS h▸k
theorem pZ{v:V}{b:Nat}(h:v.asStr=some b):v= .str b:=by apply sQ h;rfl
theorem lB{v:V}{b:List Nat}(h:v.Rj=some b){G:V->Prop}(k:G (.bytes b)):G v:=by cases v<;>first|exact zG h|exact alS h▸k
theorem d8{v:V}{b:List Nat}(h:v.Rj=some b):v= .bytes b:=by apply lB h;rfl
theorem rR{v:V}{b:List V}(h:v.Ru=some b){G:V->Prop}(k:G (.Q1 b)):G v:=by cases v<;>first|exact zG h|exact alS h▸k
theorem fY{v:V}{b:List V}(h:v.Ru=some b):v= .Q1 b:=by apply rR h;rfl
theorem sF{v:V}{b:List V}(h:v.asLst=some b){G:V->Prop}(k:G (.QN b)):G v:=by cases v<;>first|exact zG h|exact alS h▸k
theorem C1{v:V}{b:List V}(h:v.asLst=some b):v= .QN b:=by apply sF h;rfl
theorem sH{v:V}{b:Nat}(h:v.asRng=some b){G:V->Prop}(k:G (.Rt b)):G v:=by cases v<;>first|exact zG h|exact alS h▸k
theorem Dg{v:V}{b:Nat}(h:v.asRng=some b):v= .Rt b:=by apply sH h;rfl
theorem rZ{v:V}{b:Loc}(h:v.QD=some b){G:V->Prop}(k:G (.c b)):G v:=by cases v<;>first|exact zG h|exact alS h▸k
theorem qG{v:V}{b:Loc}(h:v.QD=some b):v= .c b:=by apply rZ h;rfl
theorem sR{v:V}{b:Nat}(h:v.Rx=some b){G:V->Prop}(k:G (.obj b)):G v:=by cases v<;>first|exact zG h|exact alS h▸k
theorem n7{v:V}{b:Nat}(h:v.Rx=some b):v= .obj b:=by apply sR h;rfl
theorem x7{v:V}{b:String}(h:v.RS=some b){G:V->Prop}(k:G (.ty b)):G v:=by cases v<;>first|exact zG h|exact alS h▸k
theorem Aa{v:V}{b:String}(h:v.RS=some b):v= .ty b:=by apply x7 h;rfl
theorem x8{v:V}{b:String}(h:v.RQ=some b){G:V->Prop}(k:G (.bi b)):G v:=by cases v<;>first|exact zG h|exact alS h▸k
theorem AX{v:V}{b:String}(h:v.RQ=some b):v= .bi b:=by apply x8 h;rfl
theorem mY{v:V}(h:v.isNone=true){G:V->Prop}(k:G .none):G v:=by cases v<;>first|exact k|exact jG h
theorem dA{v:V}(h:v.isNone=true):v= .none:=by apply mY h;rfl
noncomputable def eqO{α:Type}[DecidableEq α](o:Option α)(x:α):Bool:=match o with
 |some y=>decide (x=y)
 |none=>false
theorem yP{α:Type}[DecidableEq α]{o:Option α}{x:α}:eqO o x=true↔o=some x:=by
 cases o with
 |none=>exact⟨jG,zG⟩
 |some y=>exact⟨λh=>alQ _ (alH h).symm,λh=>alG (alS h).symm⟩
noncomputable def inO{α:Type}(o:Option α)(p:α->Bool):Bool:=match o with
 |some y=>p y
 |none=>false
theorem xT{α:Type}{o:Option α}{p:α->Bool}{x:α}(h:∀y,p y=true↔x=y):inO o p=true↔o=some x:=by
 cases o with
 |none=>exact⟨jG,zG⟩
 |some y=>exact⟨λq=>alQ _ ((h y).mp q).symm,λq=>(h y).mpr (alS q).symm⟩
mutual
noncomputable def V.beq:V->V->Bool
 | .none,v=>v.isNone
 | .bool a,v=>eqO v.Rr a
 | .int a,v=>eqO v.QO a
 | .str a,v=>eqO v.asStr a
 | .bytes a,v=>eqO v.Rj a
 | .Q1 a,v=>inO v.Ru (V.RP a)
 | .QN a,v=>inO v.asLst (V.RP a)
 | .Rt a,v=>eqO v.asRng a
 | .c a,v=>eqO v.QD a
 | .obj a,v=>eqO v.Rx a
 | .ty a,v=>eqO v.RS a
 | .bi a,v=>eqO v.RQ a
noncomputable def V.RP:List V->List V->Bool
 |[],b=>b.isEmpty
 |a::as,b=>match b with
  |[]=>false
  |b::bs=>V.beq a b&&V.RP as bs
end
theorem qK{α β:Type}{p:Prop}{o:Option α}{x:α}{a b:β}(h:p↔o=some x)(e:o=some x->b=a)(k:a=b->o=some x):p↔a=b:=⟨λq=>(e (h.mp q)).symm,λq=>h.mpr (k q)⟩
theorem V.QM(a:V):∀b:V,V.beq a b=true↔a=b:=by
 refine V.rec (motive_1:=λa=>∀b:V,V.beq a b=true↔a=b) (motive_2:=λa=>∀b:List V,V.RP a b=true↔a=b) ?_ ?_ ?_ ?_ ?_ ?_ ?_ ?_ ?_ ?_ ?_ ?_ ?_ ?_ a
 ·exactλb=>⟨λh=>(dA h).symm,λh=>h▸rfl⟩
 ·exactλx b=>qK yP dD λh=>h▸rfl
 ·exactλx b=>qK yP uX λh=>h▸rfl
 ·exactλx b=>qK yP pZ λh=>h▸rfl
 ·exactλx b=>qK yP d8 λh=>h▸rfl
 ·exactλx ih b=>qK (xT ih) fY λh=>h▸rfl
 ·exactλx ih b=>qK (xT ih) C1 λh=>h▸rfl
 ·exactλx b=>qK yP Dg λh=>h▸rfl
 ·exactλx b=>qK yP qG λh=>h▸rfl
 ·exactλx b=>qK yP n7 λh=>h▸rfl
 ·exactλx b=>qK yP Aa λh=>h▸rfl
 ·exactλx b=>qK yP AX λh=>h▸rfl
 ·intro b;cases b
  ·exact⟨λJ=>rfl,λJ=>rfl⟩
  ·exact⟨jG,λh=>nomatch h⟩
 ·intro x r h1 h2 b;cases b with
  |nil=>exact⟨jG,λh=>nomatch h⟩
  |cons y q=>
   refine Iff.trans (Bool.and_eq_true_iff (x:=V.beq x y) (y:=V.RP r q)) (Iff.trans (and_congr (h1 y) (h2 q)) ?_)
   exact⟨λh=>h.1▸h.2▸rfl,λh=>List.cons.inj h⟩
end
noncomputable instance:DecidableEq V:=λa b=>decidable_of_iff (V.beq a b=true) (V.QM a b)
noncomputable section
theorem DK(a:V):V.beq a a=true:=(V.QM a a).mpr rfl
noncomputable def Eg(o:zU):Option (List V):= @zU.casesOn (λJ=>Option (List V)) o some (λJ=>none) (λJ J=>none) (λJ=>none)
noncomputable def EI(o:zU):Option (List (V×V)):= @zU.casesOn (λJ=>Option (List (V×V))) o (λJ=>none) some (λJ J=>none) (λJ=>none)
noncomputable def Au(o:zU):Option (Nat×List (Nat×V)):= @zU.casesOn (λJ=>Option (Nat×List (Nat×V))) o (λJ=>none) (λJ=>none) (λc f=>some (c,f)) (λJ=>none)
noncomputable def Ef(o:zU):Option (List Nat):= @zU.casesOn (λJ=>Option (List Nat)) o (λJ=>none) (λJ=>none) (λJ J=>none) some
theorem Ac{o:zU}{l:List V}(h:Eg o=some l):o= .list l:=by cases o<;>first|exact zG h|exact alQ _ (alS h)
theorem Bm{o:zU}{l:List (V×V)}(h:EI o=some l):o= .dict l:=by cases o<;>first|exact zG h|exact alQ _ (alS h)
theorem hV{o:zU}{c:Nat}{l:List (Nat×V)}(h:Au o=some (c,l)):o= .Qz c l:=by
 cases o<;>first|exact zG h|exact alQ (λp:Nat×List (Nat×V)=>zU.Qz p.1 p.2) (alS h)
theorem xU{o:zU}{l:List Nat}(h:Ef o=some l):o= .QA l:=by cases o<;>first|exact zG h|exact alQ _ (alS h)
noncomputable def zU.beq(o:zU)(v:zU):Bool:= @zU.casesOn (λJ=>Bool) o (λa=>eqO (Eg v) a) (λa=>eqO (EI v) a) (λc f=>eqO (Au v) (c,f)) (λa=>eqO (Ef v) a)
theorem zU.QM(a b:zU):zU.beq a b=true↔a=b:=by
 cases a
 ·exact qK yP Ac λh=>h▸rfl
 ·exact qK yP Bm λh=>h▸rfl
 ·exact qK yP hV λh=>h▸rfl
 ·exact qK yP xU λh=>h▸rfl
end
noncomputable instance:DecidableEq zU:=λa b=>decidable_of_iff (zU.beq a b=true) (zU.QM a b)
noncomputable section
variable{α β γ:Type}
abbrev R(α:Type):=Option (α×St)
noncomputable def pur(o:Option α)(f:α->Option β):Option β:=match o with
 |none=>none
 |some x=>f x
theorem zB{o:Option α}{f:α->Option β}{r:β}{G:Prop}(h:pur o f=some r)(k:∀x,o=some x->f x=some r->G):G:=by
 cases o with
 |none=>exact zG h
 |some p=>exact k p rfl h
theorem HT{o:Option α}{f:α->Option β}{x:α}(h:o=some x):pur o f=f x:=h▸rfl
theorem fE{v v':α}{U U':β}(h:some (v,U)=some (v',U')){P:α->β->Prop}(k:P v U):P v' U':=(Prod.mk.inj (alS h)).1▸(Prod.mk.inj (alS h)).2▸k
theorem jT{v v':α}(h:some v=some v'){P:α->Prop}(k:P v):P v':=alS h▸k
theorem zK{c:Prop}[Decidable c]{m:Option α}{r:α}{G:Prop}(h:(if c then m else none)=some r)(k:c->m=some r->G):G:=by
 by_cases q:c
 ·exact k q ((if_pos q).symm.trans h)
 ·exact zG ((if_neg q).symm.trans h)
theorem kE{c:Prop}[Decidable c]{m:Option α}{r:α}{G:Prop}(h:(if c then none else m)=some r)(k:¬c->m=some r->G):G:=by
 by_cases q:c
 ·exact zG ((if_pos q).symm.trans h)
 ·exact k q ((if_neg q).symm.trans h)
theorem j8{c:Prop}[Decidable c]{m m':Option α}{r:α}{G:Prop}(h:(if c then m else m')=some r)(k:c->m=some r->G)(k':¬c->m'=some r->G):G:=by
 by_cases q:c
 ·exact k q ((if_pos q).symm.trans h)
 ·exact k' q ((if_neg q).symm.trans h)
noncomputable def no{α β:Type}:α->Option β:=λJ=>none
noncomputable def QQ{α β:Type}(l:List α)(f:α->Option β):Option β:=match l with
 |[]=>none
 |a::r=>if r.isEmpty then f a else none
theorem yU{l:List α}{f:α->Option β}{r:β}{G:Prop}(h:QQ l f=some r)(k:∀a,l=[a]->f a=some r->G):G:=by
 cases l with
 |nil=>exact zG h
 |cons a l=>exact zK h λe h=>k a (List.isEmpty_iff.mp e▸rfl) h
noncomputable def V.pick{α:Type}(v:V)(fi:Int->Option α)(fb:List Nat->Option α)(ft:List V->Option α)(fr:Nat->Option α)(fl:Loc->Option α):Option α:= @V.casesOn (λJ=>Option α) v Option.none (λJ=>Option.none) fi (λJ=>Option.none) fb ft (λJ=>Option.none) fr fl (λJ=>Option.none) (λJ=>Option.none) (λJ=>Option.none)
theorem yN{α:Type}{v:V}{fi:Int->Option α}{fb:List Nat->Option α}{ft:List V->Option α}{fr:Nat->Option α}{fl:Loc->Option α}{r:α}{G:Prop}(h:v.pick fi fb ft fr fl=some r)
  (ki:∀x,v= .int x->fi x=some r->G)(kb:∀x,v= .bytes x->fb x=some r->G)(kt:∀x,v= .Q1 x->ft x=some r->G)(kr:∀x,v= .Rt x->fr x=some r->G)(kl:∀x,v= .c x->fl x=some r->G):G:=by
 cases v<;>first|exact zG h|exact ki _ rfl h|exact kb _ rfl h|exact kt _ rfl h|exact kr _ rfl h|exact kl _ rfl h
noncomputable def jV{α:Type}(o:Option zU)(fl:List V->Option α)(fd:List (V×V)->Option α)(fb:List Nat->Option α):Option α:=match o with
 |none=>none
 |some o=> @zU.casesOn (λJ=>Option α) o fl fd (λJ J=>none) fb
theorem jM{α:Type}{o:Option zU}{fl:List V->Option α}{fd:List (V×V)->Option α}{fb:List Nat->Option α}{r:α}{G:Prop}(h:jV o fl fd fb=some r)
  (kl:∀x,o=some (.list x)->fl x=some r->G)(kd:∀x,o=some (.dict x)->fd x=some r->G)(kb:∀x,o=some (.QA x)->fb x=some r->G):G:=by
 cases o with
 |none=>exact zG h
 |some o=>cases o<;>first|exact zG h|exact kl _ rfl h|exact kd _ rfl h|exact kb _ rfl h
noncomputable def gL(U:St)(x:Loc):Option (List V):=jV (U.get x) some no no
noncomputable def gD(U:St)(x:Loc):Option (List (V×V)):=jV (U.get x) no some no
noncomputable def gI(U:St)(x:Loc):Option (Nat×List (Nat×V)):=(U.get x).bind Au
theorem i8{U:St}{x:Loc}{l:List V}(h:gL U x=some l):U.get x=some (.list l):=jM h (λJ e h=>alS h▸e) (λJ J h=>zG h) (λJ J h=>zG h)
theorem tK{U:St}{x:Loc}{l:List (V×V)}(h:gD U x=some l):U.get x=some (.dict l):=jM h (λJ J h=>zG h) (λJ e h=>alS h▸e) (λJ J h=>zG h)
theorem JW{U:St}{x:Loc}{c:Nat}{l:List (Nat×V)}(h:gI U x=some (c,l)):U.get x=some (.Qz c l):=by
 unfold gI at h
 cases q:U.get x with
 |none=>rw[q] at h;exact zG h
 |some o=>rw[q] at h;exact alQ _ (hV h)
theorem iM{U:St}{x:Loc}{l:List V}(h:U.get x=some (.list l)):gL U x=some l:=by unfold gL;rw[h];rfl
theorem Bp{U:St}{x:Loc}{l:List (V×V)}(h:U.get x=some (.dict l)):gD U x=some l:=by unfold gD;rw[h];rfl
theorem IE{U:St}{x:Loc}{c:Nat}{l:List (Nat×V)}(h:U.get x=some (.Qz c l)):gI U x=some (c,l):=by unfold gI;rw[h];rfl
noncomputable def lR{α:Type}(a b:V)(f:Int->Int->Option α):Option α:=pur a.QO λx=>pur b.QO λy=>f x y
theorem iK{α:Type}{a b:V}{f:Int->Int->Option α}{r:α}{G:Prop}(h:lR a b f=some r)(k:∀x y,a= .int x->b= .int y->f x y=some r->G):G:=
 zB h λx e h=>zB h λy e' h=>k x y (uX e) (uX e') h
noncomputable def uF:Nat->V->Bool
 |_,.int _=>true
 |_,.str _=>true
 |n+1,.Q1 l=>l.all (uF n)
 |_,_=>false
noncomputable def u9:Nat->V->Bool
 |_,.none=>true
 |_,.int _=>true
 |_,.str _=>true
 |n+1,.Q1 l=>l.all (u9 n)
 |_,_=>false
noncomputable def dQ(U:St):Nat->V->Option V
 |_,.none=>some .none
 |_,.int i=>some (.int i)
 |_,.str s=>some (.str s)
 |n+1,.Q1 l=>pur (l.mapM (dQ U n)) λl=>some (.Q1 l)
 |n+1,.c l=>pur (gL U l) λvs=>pur (vs.mapM (dQ U n)) λl=>some (.QN l)
 |_,_=>none
noncomputable def tT{κ:Type}(q:κ->κ->Bool)(k:κ):List (κ×V)->Option V
 |[]=>none
 |e::r=> @Prod.rec κ V (λJ=>Option V) (λa v=> @Bool.rec (λJ=>Option V) (tT q k r) (some v) (q a k)) e
noncomputable def lT{κ:Type}(q:κ->κ->Bool)(k:κ)(w:V):List (κ×V)->List (κ×V)
 |[]=>[(k,w)]
 |e::r=> @Prod.rec κ V (λJ=>List (κ×V)) (λa v=> @Bool.rec (λJ=>List (κ×V)) ((a,v)::lT q k w r) ((a,w)::r) (q a k)) e
noncomputable def Da{κ:Type}(q:κ->κ->Bool)(k:κ):List (κ×V)->List (κ×V)
 |[]=>[]
 |e::r=> @Prod.rec κ V (λJ=>List (κ×V)) (λa v=> @Bool.rec (λJ=>List (κ×V)) ((a,v)::Da q k r) r (q a k)) e
noncomputable abbrev yA(es:List (V×V))(k:V):Option V:=tT V.beq k es
noncomputable abbrev uG(es:List (V×V))(k v:V):List (V×V):=lT V.beq k v es
noncomputable abbrev Hc(es:List (V×V))(k:V):List (V×V):=Da V.beq k es
noncomputable abbrev kR(fs:List (Nat×V))(k:Nat):Option V:=tT Nat.beq k fs
noncomputable abbrev tI(fs:List (Nat×V))(k:Nat)(v:V):List (Nat×V):=lT Nat.beq k v fs
inductive IR where
 |l (v:V)|v (i:Nat)
 |Q1 (es:List IR)|QN (es:List IR)|Rl (ks vs:List IR)
 |Qy (e:IR) (a:Nat)|sub (e i:IR)|RN (e:IR) (lo hi:IR)
 |QB (op:Operator) (a b:IR)|neg (a:IR)|not (a:IR)
 |Q4 (a:IR) (ops:List CmpOp) (bs:List IR)|QT (op:BoolOp) (es:List IR)|ite (c a b:IR)
 |call (f:IR) (as:List IR)|Rs (o:IR) (m:Nat) (as:List IR)
 |comp (elt:IR) (tg:List Nat) (isTup:Bool) (it:IR) (ifs:List IR)
inductive Tg where
 |v (i:Nat)|Qy (e:IR) (a:Nat)|sub (e i:IR)|Q1 (l:List Tg)
inductive IS where
 |Q0 (t:Tg) (e:IR)|aug (i:Nat) (op:Operator) (e:IR)|expr (e:IR)|ret (e:IR)
 |QC (c:IR) (a b:List IS)|QL (tg:List Nat) (isTup:Bool) (it:IR) (body:List IS)|Se (c:IR) (body:List IS)
 |RW (e i:IR)|brk|bad
 |R5 (t g p:Nat)
inductive Fl where
 |next|ret (v:V)|brk
abbrev Env:=List (Option V)
abbrev Cp(α:Type):=(α->St->Prop)->Prop
abbrev Orc:=Nat->List V->St->Cp V
abbrev KF:=Fl->Env->St->Prop
noncomputable abbrev Cp2:=(Env->St->Prop)->Prop
noncomputable def wR{α:Type}(o:Option α)(k:α->Prop):Prop:= @Option.rec α (λJ=>Prop) False k o
noncomputable def dL(b:Bool)(p q:Prop):Prop:= @Bool.rec (λJ=>Prop) q p b
noncomputable def unP{α:Type}(K:α->St->Prop)(p:α×St):Prop:= @Prod.rec α St (λJ=>Prop) K p
noncomputable def E7{α:Type}(r:Option (α×St))(K:α->St->Prop):Prop:= @Option.rec (α×St) (λJ=>Prop) False (unP K) r
noncomputable def kP:Env->Nat->Option V
 |[],_=>none
 |a::r,i=> @Nat.rec (λJ=>Option V) a (λi J=>kP r i) i
theorem zQ{α:Type}{o:Option α}{k:α->Prop}{G:Prop}(h:wR o k)(g:∀a,o=some a->k a->G):G:=by
 cases o with
 |none=>exact h.elim
 |some a=>exact g a rfl h
theorem j0{α:Type}{o:R α}{k:α->St->Prop}{G:Prop}(h:E7 o k)(g:∀a U,o=some (a,U)->k a U->G):G:=by
 cases o with
 |none=>exact h.elim
 |some a=>exact g a.1 a.2 rfl h
theorem BH{b:Bool}{p q:Prop}{G:Prop}(h:dL b p q)(h1:b=true->p->G)(h2:b=false->q->G):G:=by
 cases b with
 |false=>exact h2 rfl h
 |true=>exact h1 rfl h
theorem j1{b:Bool}{p:Prop}{G:Prop}(h:dL b p False)(h1:b=true->p->G):G:=BH h h1 λJ h=>h.elim
theorem uY:∀{Y:Env} {i:Nat} {v:V},kP Y i=some v->Y[i]?=some (some v)
 |[],_,_,h=>zG h
 |a::r,0,_,h=>alQ some (show a=_ from h)
 |a::r,i+1,_,h=>uY (Y:=r) h
noncomputable def tr:V->Option Bool
 | .none=>some false
 | .bool b=>some b
 | .int i=>some (i !=0)
 |_=>none
noncomputable def aA(n:Nat)(m:R V):R V:=if n<1000 then m else none
noncomputable def mkL(us:List V)(U:St):R V:=some (.c U.fr,U.new (.list us))
noncomputable def OT(a b:V)(U:St):R V:=a.pick (λx=>pur b.QO λy=>some (.int (x+y),U)) (λx=>pur b.Rj λy=>aA (x.length+y.length) (some (.bytes (x++y),U))) no no
 λx=>pur b.QD λy=>pur (gL U x) λu=>pur (gL U y) λv=>aA (u.length+v.length) (mkL (u++v) U)
noncomputable def Ph(a b:V)(U:St):R V:=a.pick (λx=>pur b.QO λy=>if y.natAbs<2 ^ 62 then some (.int (x*y),U) else none) no no no
 λx=>pur b.QO λy=>pur (gL U x) λl=>QQ l λu=>if decide (0<=y)&&decide (y<1000) then mkL (List.replicate y.toNat u) U else none
noncomputable def tN(op:Operator)(a b:V)(U:St):R V:=match op with
 | .Add=>OT a b U
 | .Sub=>lR a b λx y=>some (.int (x-y),U)
 | .Mult=>Ph a b U
 | .FloorDiv=>lR a b λx y=>if y=0 then none else if y.natAbs<2 ^ 29 then some (.int (Int.fdiv x y),U) else none
 | .Mod=>lR a b λx y=>if y=0 then none else some (.int (Int.fmod x y),U)
 | .LShift=>lR a b λx y=>if 0<=y/\y<=1000/\PySem.Builtin.Int.intBits x<=1000 then some (.int (x*2 ^ y.toNat),U) else none
 | .RShift=>lR a b λx y=>if 0<=y then some (.int (Int.fdiv x (2 ^ y.toNat)),U) else none
 | .BitOr=>lR a b λx y=>some (.int (PySem.Builtin.bitOr x y),U)
 | .BitAnd=>lR a b λx y=>some (.int (PySem.Builtin.bitAnd x y),U)
 |_=>none
noncomputable def yY(v:V):Bool:=u9 8 v
noncomputable def yZ(v:V):Bool:=uF 6 v
noncomputable def jR:V->Nat
 | .int _=>0
 | .str _=>1
 | .Q1 _=>2
 |_=>3
noncomputable def jD:List (V×V)->Bool
 |[]=>true
 |p::r=>yZ p.1&&r.all (λq=>yZ q.1&&jR q.1==jR p.1)
noncomputable def yD(es:List (V×V))(k:V):Bool:=yZ k&&es.all λe=>jR e.1==jR k
noncomputable def Jt(v:V):Bool:=v.Rx.isSome
noncomputable def pR(x y:Loc)(u v:List (V×V)):Option Bool:=
 if(u++v).all (λe=>yY e.2)&&jD (u++v) then some (u.length==v.length&&u.all λe=>decide (yA v e.1=some e.2))
 else if decide (x=y)&&jD u&&u.all (λe=>yY e.2||Jt e.2) then some true
 else none
noncomputable def Lk(U:St)(x y:Loc):Option Bool:=jV (U.get x)
 (λJ=>pur (gL U y) λJ=>pur (dQ U 8 (.c x)) λp=>pur (dQ U 8 (.c y)) λq=>some (decide (p=q)))
 (λu=>pur (gD U y) λv=>pR x y u v) no
noncomputable def nC(U:St)(a b:V):Option Bool:=if yY a&&yY b then some (decide (a=b)) else
 match a.Rr with
 |some x=>pur b.Rr λy=>some (x==y)
 |none=>pur a.QD λx=>pur b.QD λy=>Lk U x y
noncomputable def n5(v:V):Option Bool:=if v.isNone then some true else if v.QD.isSome||v.Ru.isSome then some false else none
noncomputable def isSame(U:St)(a b:V):Option Bool:=pur (n5 a) λp=>pur (n5 b) λq=>if p||q then some (p&&q) else
 pur a.QD λx=>pur b.QD λy=>if(U.get x).isSome&&(U.get y).isSome then some (decide (x=y)) else none
noncomputable def Ou(U:St)(a b:V):Option Bool:=b.pick no no (λl=>if l.all yY&&yY a then some (l.any λx=>decide (x=a)) else none) no
 λl=>jV (U.get l) (λvs=>if vs.all yY&&yY a then some (vs.any λx=>decide (x=a)) else none) (λes=>if yD es a then some (es.any λe=>decide (e.1=a)) else none) no
noncomputable def Hb(o:Option Bool):Option Bool:=pur o λb=>some !b
noncomputable def cG(op:CmpOp)(a b:V)(U:St):Option Bool:=match op with
 | .Eq=>nC U a b
 | .NotEq=>Hb (nC U a b)
 | .Is=>isSame U a b
 | .IsNot=>Hb (isSame U a b)
 | .In=>Ou U a b
 | .NotIn=>Hb (Ou U a b)
 | .Lt=>lR a b λx y=>some (decide (x<y))
 | .LtE=>lR a b λx y=>some (decide (x<=y))
 | .Gt=>lR a b λx y=>some (decide (y<x))
 | .GtE=>lR a b λx y=>some (decide (y<=x))
noncomputable def It{α:Type}(k:Int)(f:Nat->Option α):Option α:= @Int.rec (λJ=>Option α) (λn=> @Bool.rec (λJ=>Option α) none (f n) (Nat.ble n 4611686018427387903)) (λJ=>none) k
noncomputable def idx{α:Type}(i:V)(f:Nat->Option α):Option α:=pur i.QO λk=>It k f
noncomputable def wT(n:Nat):V:= .int (n:Int)
noncomputable def getItem(a i:V)(U:St):Option V:=a.pick no (λl=>idx i λk=>(l[k]?).map wT) (λl=>idx i λk=>l[k]?) no
 λx=>jV (U.get x) (λvs=>idx i λk=>vs[k]?) (λes=>if yD es i then yA es i else none) λbs=>idx i λk=>(bs[k]?).map wT
noncomputable def setItem(a i v:V)(U:St):Option St:=pur a.QD λx=>jV (U.get x)
 (λvs=>pur i.QO λk=>if 0<=k/\k.toNat<vs.length/\vs.length<1000 then some (U.Q6 x (.list (vs.set k.toNat v))) else none)
 (λes=>if yD es i&&decide (es.length<1000) then some (U.Q6 x (.dict (uG es i v))) else none) no
noncomputable def delItem(a i:V)(U:St):Option St:=pur a.QD λx=>pur (gD U x) λes=>if yD es i&&(yA es i).isSome&&decide (es.length<1000) then some (U.Q6 x (.dict (Hc es i))) else none
noncomputable def cut(l:List α)(lo hi:Nat):List α:=(l.take hi).drop lo
noncomputable def Gr(d:Nat)(v:V):Option Nat:=if v.isNone then some d else idx v some
noncomputable def xD(n:Nat)(lo hi:V)(f:Nat->Nat->R V):R V:=
 if n<1000 then pur (Gr 0 lo) λp=>pur (Gr n hi) λq=>f p q else none
noncomputable def cN(a lo hi:V)(U:St):R V:=a.pick no (λl=>xD l.length lo hi λp q=>some (.bytes (cut l p q),U)) no no
 λx=>jV (U.get x) (λvs=>xD vs.length lo hi λp q=>mkL (cut vs p q) U) no λbs=>xD bs.length lo hi λp q=>some (.c U.fr,U.new (.QA (cut bs p q)))
noncomputable def qM(a:V)(U:St):Option (List V×Option Loc):=a.pick no (λl=>some (l.map wT,none)) (λl=>some (l,none)) (λk=>if k<1000 then some ((List.range k).map wT,none) else none)
 λx=>jV (U.get x) (λvs=>some (vs,some x)) no λbs=>some (bs.map wT,some x)
noncomputable def kN(U U':St):Option Loc->Bool
 |none=>true
 |some x=>decide (U'.get x=U.get x)
noncomputable def EF(v:V):Option Nat:=pur v.QO λk=>if 0<=k/\k<256 then some k.toNat else none
noncomputable def eI(v:V):Option (V×V):=pur v.Ru λl=>match l with
 |[]=>none
 |a::r=>QQ r λb=>if yZ a then some (a,b) else none
noncomputable def rL(n:Nat)(U:St):R V:=aA n (some (.int n,U))
noncomputable def O4(U:St)(a:V):R V:=a.pick no (λl=>rL l.length U) (λl=>rL l.length U) no λx=>jV (U.get x) (λl=>rL l.length U) (λl=>rL l.length U) λl=>rL l.length U
noncomputable def mkD(ps:List (V×V))(U:St):R V:=some (.c U.fr,U.new (.dict (ps.foldl (λd p=>uG d p.1 p.2) [])))
noncomputable def DX(s:String)(U:St)(a:V):R V:=if s="len" then O4 U a else if s="sorted" then pur a.QD λx=>pur (gD U x) λes=>if es.isEmpty then mkL [] U else none else none
noncomputable def lH(s:String)(U:St)(a:V):R V:=
 if s="range" then pur a.QO λk=>if 0<=k/\k<1000 then some (.Rt k.toNat,U) else none
 else if s="list" then pur a.QD λx=>pur (gD U x) λes=>aA es.length (mkL (es.map (·.1)) U)
 else if s="dict" then pur a.QD λx=>pur (gL U x) λvs=>aA vs.length (pur (vs.mapM eI) λps=>if jD ps then mkD ps U else none)
 else if s="bytes" then pur a.QD λx=>pur (gL U x) λvs=>aA vs.length (pur (vs.mapM EF) λbs=>some (.bytes bs,U))
 else if s="bytearray" then pur a.Rj λl=>aA l.length (some (.c U.fr,U.new (.QA l)))
 else none
noncomputable def iQ(f:V)(as:List V)(U:St):R V:=match f.RQ with
 |some s=>QQ as (DX s U)
 |none=>pur f.RS λs=>QQ as (lH s U)
noncomputable def CC(QU QS:Nat)(o:V)(m:Nat)(as:List V)(U:St):R V:=pur o.QD λx=>QQ as λa=>jV (U.get x)
 (λvs=>if m=QU/\vs.length<1000 then some (.none,U.Q6 x (.list (vs++[a]))) else none) (λes=>if m=QS/\yD es a then some ((yA es a).getD .none,U) else none) no
noncomputable def pV(QU QS:Nat)(o:V)(m:Nat)(U:St):Option Unit:=pur o.QD λx=>jV (U.get x) (λJ=>if m=QU then some () else none) (λJ=>if m=QS then some () else none) no
noncomputable def uM(op:BoolOp)(b:Bool):Bool:=match op with
 | .And=> !b
 | .Or=>b
noncomputable def OP(Y:Env)(p:Nat×V):Env:= @Prod.rec Nat V (λJ=>Env) (λi v=>Y.set i (some v)) p
noncomputable def Kj(l:List (Nat×V))(Y:Env):Env:=l.foldl OP Y
noncomputable def aL(tg:List Nat)(isTup:Bool)(v:V)(Y:Env):Option Env:=
 if isTup then pur v.Ru λvs=>if tg.length=vs.length/\tg.all (λi=>decide (i<Y.length)) then some (Kj (tg.zip vs) Y) else none
 else QQ tg λi=>if i<Y.length then some (Y.set i (some v)) else none
structure jY where
 QU:Nat
 QS:Nat
noncomputable def Fa:List V->Option (List (V×V))
 |[]=>some []
 |[_]=>none
 |a::b::r=>(Fa r).map ((a,b):: ·)
noncomputable def getAttr(v:V)(a:Nat)(U:St):Option V:=pur v.QD λx=>pur (gI U x) λp=>kR p.2 a
noncomputable def setAttr(o:V)(a:Nat)(v:V)(U:St):Option St:=pur o.QD λx=>pur (gI U x) λp=>if p.2.length<900 then some (U.Q6 x (.Qz p.1 (tI p.2 a v))) else none
noncomputable def DV(ps:List (V×V))(U:St):R V:=if jD ps then mkD ps U else none
noncomputable def Ij(us:List V)(U:St):R V:=aA us.length (some (.Q1 us,U))
noncomputable def eK(us:List V)(U:St):R V:=aA us.length (mkL us U)
noncomputable def pP(tg:List Nat)(Y:Env)(s:V)(U:St):Option (List V×Option Loc):=
 if tg.all λi=>(kP Y i).isNone then pur (qM s U) λr=>if r.1.length<1000 then some r else none else none
noncomputable def O2(v:V)(U:St):R V:=pur v.QO λx=>some (.int (-x),U)
noncomputable def bC(v:V)(U:St):Option (List V):=v.pick no no some no λx=>gL U x
noncomputable def gB(v:List (V×V))(p:Nat)(Y:Env):Env:=v.foldl (λY e=>Y.set p (some e.1)) Y
noncomputable def jD8(t g p:Nat)(Y:Env)(U:St):R (Fl×Env):=pur (kP Y t) λa=>pur (kP Y g) λb=>pur a.QD λx=>pur b.QD λy=>pur (gD U x) λu=>pur (gD U y) λv=>
 if x≠y/\jD (u++v)=true/\u.length+v.length<1000/\t≠p/\g≠p/\p<Y.length then some ((.next,gB v p Y),U.Q6 x (.dict (v.foldl (λd e=>uG d e.1 e.2) u))) else none
noncomputable def JH:Operator->Bool
 | .Add=>true
 |_=>false
noncomputable def jI(U:St)(lo:Option Loc)(U':St):Bool:=kN U U' lo
noncomputable def K4{α:Type}(K:α->St->Prop)(U:St)(v:α):Prop:=K v U
noncomputable def pE{α β:Type}(g:α->St->R β)(K:β->St->Prop)(v:α)(U:St):Prop:=E7 (g v U) K
noncomputable abbrev EvF:=IR->St->Cp V
noncomputable def MS(v:V)(K:List V->St->Prop)(vs:List V)(U:St):Prop:=K (v::vs) U
noncomputable def Qq(g:St->Cp (List V))(K:List V->St->Prop)(v:V)(U:St):Prop:=g U (MS v K)
noncomputable def evs(f:EvF):List IR->St->Cp (List V)
 |[],U,K=>K [] U
 |e::r,U,K=>f e U (Qq (evs f r) K)
noncomputable def MV(g:St->Cp V)(op:BoolOp)(v:V)(U:St)(K:V->St->Prop)(b:Bool):Prop:=dL (uM op b) (K v U) (g U K)
noncomputable def PP(g:St->Cp V)(op:BoolOp)(K:V->St->Prop)(v:V)(U:St):Prop:=wR (tr v) (MV g op v U K)
noncomputable def evb(f:EvF)(op:BoolOp):List IR->St->Cp V
 |[],_,_=>False
 |e::r,U,K=>dL r.isEmpty (f e U K) (f e U (PP (evb f op r) op K))
noncomputable def LY(g:V->St->Cp V)(last:Bool)(b:V)(U:St)(K:V->St->Prop)(r:Bool):Prop:=dL last (K (.bool r) U) (dL r (g b U K) (K (.bool false) U))
noncomputable def PB(g:V->St->Cp V)(op:CmpOp)(last:Bool)(a:V)(K:V->St->Prop)(b:V)(U:St):Prop:=wR (cG op a b U) (LY g last b U K)
noncomputable def evc(f:EvF):List IR->List CmpOp->V->St->Cp V
 |[],_,_,_,_=>False
 |e::es,ops,a,U,K=>match ops with
  |[]=>False
  |op::ops=>f e U (PB (evc f es ops) op (ops.isEmpty&&es.isEmpty) a K)
noncomputable def L8(g:St->Cp Bool)(U:St)(K:Bool->St->Prop)(b:Bool):Prop:=dL b (g U K) (K false U)
noncomputable def Pt(g:St->Cp Bool)(K:Bool->St->Prop)(v:V)(U:St):Prop:=wR (tr v) (L8 g U K)
noncomputable def tQ(f:EvF):List IR->St->Cp Bool
 |[],U,K=>K true U
 |e::r,U,K=>f e U (Pt (tQ f r) K)
noncomputable def Ll(o:Option V)(r:List V):List V:= @Option.rec V (λJ=>List V) r (λx=>x::r) o
noncomputable def Pu(o:Option V)(K:List V->St->Prop)(r:List V)(U:St):Prop:=K (Ll o r) U
noncomputable def kCl(g:St->Cp (List V))(chk:St->Bool)(K:List V->St->Prop)(o:Option V)(U:St):Prop:=dL (chk U) (g U (Pu o K)) False
noncomputable def fQ(step:V->St->Cp (Option V))(chk:St->Bool):List V->St->Cp (List V)
 |[],U,K=>K [] U
 |v::vs,U,K=>step v U (kCl (fQ step chk vs) chk K)
noncomputable def KR(K:Option V->St->Prop)(u:V)(U:St):Prop:=K (some u) U
noncomputable def Qt(f:EvF)(elt:IR)(K:Option V->St->Prop)(b:Bool)(U:St):Prop:=dL b (f elt U (KR K)) (K none U)
noncomputable def PD(F:Env->EvF)(ifs:List IR)(elt:IR)(U:St)(K:Option V->St->Prop)(Y:Env):Prop:=tQ (F Y) ifs U (Qt (F Y) elt K)
noncomputable def yV(F:Env->EvF)(tg:List Nat)(b:Bool)(ifs:List IR)(elt:IR)(Y:Env)(v:V)(U:St)(K:Option V->St->Prop):Prop:=wR (aL tg b v Y) (PD F ifs elt U K)
noncomputable def Of(Φ:Orc)(g:V)(vs:List V)(U:St):Cp V:=λK=> @Option.rec Nat (λJ=>Prop) (E7 (iQ g vs U) K) (λa=>Φ a vs U K) g.Rx
noncomputable def MG(U:St)(K:V->St->Prop)(ps:List (V×V)):Prop:=E7 (DV ps U) K
noncomputable def Pf(K:V->St->Prop)(us:List V)(U:St):Prop:=wR (Fa us) (MG U K)
noncomputable def Io(a:Nat)(K:V->St->Prop)(v:V)(U:St):Prop:=wR (getAttr v a U) (K4 K U)
noncomputable def Ik(a:V)(K:V->St->Prop)(k:V)(U:St):Prop:=wR (getItem a k U) (K4 K U)
noncomputable def OJ(f:EvF)(i:IR)(K:V->St->Prop)(a:V)(U:St):Prop:=f i U (Ik a K)
noncomputable def Py(f:EvF)(hi:IR)(a:V)(K:V->St->Prop)(p:V)(U:St):Prop:=f hi U (pE (cN a p) K)
noncomputable def kSl(f:EvF)(lo hi:IR)(K:V->St->Prop)(a:V)(U:St):Prop:=f lo U (Py f hi a K)
noncomputable def Qm(f:EvF)(op:Operator)(b:IR)(K:V->St->Prop)(x:V)(U:St):Prop:=f b U (pE (tN op x) K)
noncomputable def Mj(U:St)(K:V->St->Prop)(b:Bool):Prop:=K (.bool (!b)) U
noncomputable def LV(K:V->St->Prop)(v:V)(U:St):Prop:=wR (tr v) (Mj U K)
noncomputable def Jy(g:V->St->Cp V)(K:V->St->Prop)(v:V)(U:St):Prop:=g v U K
noncomputable def Lz{κ:Type}(p q:St->κ->Prop)(U:St)(K:κ)(t:Bool):Prop:=dL t (p U K) (q U K)
noncomputable def Kq{κ:Type}(p q:St->κ->Prop)(K:κ)(v:V)(U:St):Prop:=wR (tr v) (Lz p q U K)
noncomputable def Hm(Φ:Orc)(K:V->St->Prop)(g:V)(vs:List V)(U:St):Prop:=Of Φ g vs U K
noncomputable def Jx(f:EvF)(Φ:Orc)(as:List IR)(K:V->St->Prop)(g:V)(U:St):Prop:=evs f as U (Hm Φ K g)
noncomputable def JD(f:EvF)(W:jY)(m:Nat)(as:List IR)(x:V)(U:St)(K:V->St->Prop)(_:Unit):Prop:=evs f as U (pE (CC W.QU W.QS x m) K)
noncomputable def Id(f:EvF)(W:jY)(m:Nat)(as:List IR)(K:V->St->Prop)(x:V)(U:St):Prop:=wR (pV W.QU W.QS x m U) (JD f W m as x U K)
noncomputable def IP(step:V->St->Cp (Option V))(U:St)(K:V->St->Prop)(r:List V×Option Loc):Prop:=fQ step (jI U r.2) r.1 U (pE eK K)
noncomputable def Dv(step:V->St->Cp (Option V))(tg:List Nat)(Y:Env)(K:V->St->Prop)(s:V)(U:St):Prop:=wR (pP tg Y s U) (IP step U K)
noncomputable def ev(W:jY)(Φ:Orc):Nat->Env->IR->St->Cp V
 |0,_,_,_,_=>False
 |n+1,Y,e,U,K=>match e with
  | .l v=>K v U
  | .v i=>wR (kP Y i) (K4 K U)
  | .Q1 es=>evs (ev W Φ n Y) es U (pE Ij K)
  | .QN es=>evs (ev W Φ n Y) es U (pE eK K)
  | .Rl ks vs=>evs (ev W Φ n Y) ((ks.zip vs).flatMap λp=>[p.1,p.2]) U (Pf K)
  | .Qy e a=>ev W Φ n Y e U (Io a K)
  | .sub e i=>ev W Φ n Y e U (OJ (ev W Φ n Y) i K)
  | .RN e lo hi=>ev W Φ n Y e U (kSl (ev W Φ n Y) lo hi K)
  | .QB op a b=>ev W Φ n Y a U (Qm (ev W Φ n Y) op b K)
  | .neg a=>ev W Φ n Y a U (pE O2 K)
  | .not a=>ev W Φ n Y a U (LV K)
  | .Q4 a ops bs=>ev W Φ n Y a U (Jy (evc (ev W Φ n Y) bs ops) K)
  | .QT op es=>evb (ev W Φ n Y) op es U K
  | .ite c a b=>ev W Φ n Y c U (Kq (ev W Φ n Y a) (ev W Φ n Y b) K)
  | .call f as=>ev W Φ n Y f U (Jx (ev W Φ n Y) Φ as K)
  | .Rs o m as=>ev W Φ n Y o U (Id (ev W Φ n Y) W m as K)
  | .comp elt tg isTup it ifs=>ev W Φ n Y it U (Dv (yV (ev W Φ n) tg isTup ifs elt Y) tg Y K)
noncomputable def Oz(h:Env->St->Cp2)(K:Env->St->Prop)(Y:Env)(U:St):Prop:=h Y U K
noncomputable def El(f:Tg->V->Env->St->Cp2):List Tg->List V->Env->St->Cp2
 |[],vs,Y,U,K=>dL vs.isEmpty (K Y U) False
 |t::ts,vs,Y,U,K=>match vs with
  |[]=>False
  |v::vs=>f t v Y U (Oz (El f ts vs) K)
noncomputable def LR(v:V)(Y:Env)(K:Env->St->Prop)(a k:V)(U:St):Prop:=wR (setItem a k v U) (K Y)
noncomputable def Px(f:EvF)(i:IR)(v:V)(Y:Env)(K:Env->St->Prop)(a:V)(U:St):Prop:=f i U (LR v Y K a)
noncomputable def Ql(a:Nat)(v:V)(Y:Env)(K:Env->St->Prop)(o:V)(U:St):Prop:=wR (setAttr o a v U) (K Y)
noncomputable def PR(g:List V->Env->St->Cp2)(Y:Env)(U:St)(K:Env->St->Prop)(vs:List V):Prop:=g vs Y U K
noncomputable def Q0(W:jY)(Φ:Orc):Nat->Tg->V->Env->St->Cp2
 |0,_,_,_,_,_=>False
 |n+1,t,v,Y,U,K=>match t with
  | .v i=>dL (Nat.blt i Y.length) (K (Y.set i (some v)) U) False
  | .Qy e a=>ev W Φ n Y e U (Ql a v Y K)
  | .sub e i=>ev W Φ n Y e U (Px (ev W Φ n Y) i v Y K)
  | .Q1 ts=>wR (bC v U) (PR (El (Q0 W Φ n) ts) Y U K)
noncomputable def Ow(r:Fl)(Y:Env)(U:St)(next:Prop)(brk:Fl)(K:KF):Prop:= @Fl.rec (λJ=>Prop) next (λv=>K (.ret v) Y U) (K brk Y U) r
noncomputable abbrev BdF:=Env->St->KF->Prop
noncomputable def Go(g:BdF)(chk:St->Bool)(K:KF)(r:Fl)(Y:Env)(U:St):Prop:=Ow r Y U (dL (chk U) (g Y U K) False) .next K
noncomputable def Ps(body g:BdF)(chk:St->Bool)(U:St)(K:KF)(Y:Env):Prop:=body Y U (Go g chk K)
noncomputable def aE(body:BdF)(chk:St->Bool)(tg:List Nat)(isTup:Bool):List V->BdF
 |[],Y,U,K=>K .next Y U
 |v::vs,Y,U,K=>wR (aL tg isTup v Y) (Ps body (aE body chk tg isTup vs) chk U K)
noncomputable def PM(g:BdF)(K:KF)(r:Fl)(Y:Env)(U:St):Prop:=Ow r Y U (g Y U K) .next K
noncomputable def PU(body g:BdF)(Y:Env)(U:St)(K:KF)(b:Bool):Prop:=dL b (body Y U (PM g K)) (K .next Y U)
noncomputable def kWh(body g:BdF)(Y:Env)(K:KF)(v:V)(U:St):Prop:=wR (tr v) (PU body g Y U K)
noncomputable def oJ(test:Env->St->Cp V)(body:BdF):Nat->BdF
 |0,_,_,_=>False
 |n+1,Y,U,K=>test Y U (kWh body (oJ test body n) Y K)
noncomputable def sG(g:BdF)(K:KF)(x:Fl)(Y:Env)(U:St):Prop:=Ow x Y U (g Y U K) .brk K
noncomputable def exs(f:IS->BdF):List IS->BdF
 |[],Y,U,K=>K .next Y U
 |s::r,Y,U,K=>f s Y U (sG (exs f r) K)
noncomputable def Dd(K:KF)(Y:Env)(U:St):Prop:=K .next Y U
noncomputable def E9(g:V->Env->St->Cp2)(Y:Env)(K:KF)(v:V)(U:St):Prop:=g v Y U (Dd K)
noncomputable def PW(a b:Int):Option Int:=some (a+b)
noncomputable def NI(i:Nat)(Y:Env)(U:St)(K:KF)(z:Int):Prop:=K .next (Y.set i (some (.int z))) U
noncomputable def Hj(op:Operator)(i:Nat)(Y:Env)(K:KF)(x y:V)(U:St):Prop:=dL (JH op) (wR (lR x y PW) (NI i Y U K)) False
noncomputable def Qe(f:EvF)(e:IR)(op:Operator)(i:Nat)(Y:Env)(U:St)(K:KF)(x:V):Prop:=f e U (Hj op i Y K x)
noncomputable def Nb(Y:Env)(K:KF)(v:V)(U:St):Prop:=dL v.isNone (K .next Y U) False
noncomputable def kRt(Y:Env)(K:KF)(v:V)(U:St):Prop:=K (.ret v) Y U
noncomputable def HO(body:BdF)(tg:List Nat)(b:Bool)(Y:Env)(U:St)(K:KF)(r:List V×Option Loc):Prop:=aE body (jI U r.2) tg b r.1 Y U K
noncomputable def BR(body:BdF)(tg:List Nat)(b:Bool)(Y:Env)(K:KF)(s:V)(U:St):Prop:=wR (qM s U) (HO body tg b Y U K)
noncomputable def Lj(F:Env->EvF)(c:IR)(Y:Env):St->Cp V:=F Y c
noncomputable def Kk(Y:Env)(K:KF)(a k:V)(U:St):Prop:=wR (delItem a k U) (K .next Y)
noncomputable def PJ(f:EvF)(i:IR)(Y:Env)(K:KF)(a:V)(U:St):Prop:=f i U (Kk Y K a)
noncomputable def HG(K:KF)(x:Fl×Env)(U:St):Prop:=K .next x.2 U
noncomputable def ex(W:jY)(Φ:Orc):Nat->IS->BdF
 |0,_,_,_,_=>False
 |n+1,s,Y,U,K=>match s with
  | .Q0 t e=>ev W Φ n Y e U (E9 (Q0 W Φ n t) Y K)
  | .aug i op e=>wR (kP Y i) (Qe (ev W Φ n Y) e op i Y U K)
  | .expr e=>ev W Φ n Y e U (Nb Y K)
  | .ret e=>ev W Φ n Y e U (kRt Y K)
  | .QC c a b=>ev W Φ n Y c U (Kq (exs (ex W Φ n) a Y) (exs (ex W Φ n) b Y) K)
  | .QL tg isTup it body=>ev W Φ n Y it U (BR (exs (ex W Φ n) body) tg isTup Y K)
  | .Se c body=>oJ (Lj (ev W Φ n) c) (exs (ex W Φ n) body) 64 Y U K
  | .RW e i=>ev W Φ n Y e U (PJ (ev W Φ n Y) i Y K)
  | .brk=>K .brk Y U
  | .bad=>False
  | .R5 t g p=>E7 (jD8 t g p Y U) (HG K)
structure FI where
 params:List Nat
 defaults:List V
 slots:Nat
 body:List IS
noncomputable def Hz(f:FI)(as:List V):Option Env:=
 if as.length<=f.params.length/\f.params.length<=as.length+f.defaults.length then
  some ((f.params.zip (as++f.defaults.drop (f.defaults.length-(f.params.length-as.length)))).foldl OP (List.replicate f.slots none))
 else none
noncomputable def Nr(v:Fl)(U:St)(K:V->St->Prop):Prop:= @Fl.rec (λJ=>Prop) (K .none U) (λv=>K v U) False v
noncomputable def Be(K:V->St->Prop)(r:Fl)(_:Env)(U:St):Prop:=Nr r U K
noncomputable def LC(g:BdF)(U:St)(K:V->St->Prop)(Y:Env):Prop:=g Y U (Be K)
noncomputable def Nd{α:Type}(a:α)(k:List α->Prop)(r:List α):Prop:=k (a::r)
noncomputable def CF{α:Type}:List α->(List α->Prop)->Prop
 |[],k=>k []
 |a::r,k=>CF r (Nd a k)
theorem n9{α:Type}:∀{l:List α} {k:List α->Prop},CF l k->k l
 |[],_,h=>h
 |a::r,k,h=>n9 (l:=r) (k:=Nd a k) h
noncomputable def z9(W:jY)(Φ:Orc)(f:FI)(as:List V)(U:St):Cp V:=λK=>wR (Hz f as) λY=>CF Y (LC (exs (ex W Φ 64) f.body) U K)
structure Ce where
 j:jY
 fn:Nat->Option FI
 cls:Nat->Option Nat
 sum:Nat->Option (Nat×(List V->St->Cp V))
noncomputable def tB(l:Loc)(K:V->St->Prop)(v:V)(U:St):Prop:=dL v.isNone (K (.c l) U) False
noncomputable def wL(P:Ce)(Φ:Orc)(a:Nat)(as:List V)(U:St)(K:V->St->Prop):Prop:=
 @Option.rec FI (λJ=>Prop) (wR (P.cls a) λi=>wR (P.fn i) λf=>z9 P.j Φ f (.c U.fr::as) (U.new (.Qz a [])) (tB U.fr K))
  (λf=>z9 P.j Φ f as U K) (P.fn a)
noncomputable def orc(P:Ce):Nat->Orc
 |0=>λJ J J J=>False
 |n+1=>λa as U K=> @Option.rec (Nat×(List V->St->Cp V)) (λJ=>Prop) (wL P (orc P n) a as U K)
   (λS=>dL (Nat.ble S.1 n) (S.2 as U K) False) (P.sum a)
theorem zP{U:St}{l:Loc}{o:zU}:(U.Q6 l o).get l=some o:=by show @Bool.rec (λJ=>Option zU) _ _ (l.R3 l)=_;rw[l.eqb_self]
theorem zH{U:St}{l x:Loc}{o:zU}(h:x≠l):(U.Q6 l o).get x=U.get x:=by show @Bool.rec (λJ=>Option zU) _ _ (x.R3 l)=_;rw[Loc.eqb_ne h]
theorem zJ{U:St}{o:zU}:(U.new o).get U.fr=some o:=zP (U:=U)
theorem vC{U:St}{x:Loc}{o:zU}(h:x≠U.fr):(U.new o).get x=U.get x:=zH (U:=U) h
theorem pG{U D:St}(h0:U.kd=D.kd)(h1:U.next=D.next)(h2:∀x,U.get x=D.get x):U=D:=by
 obtain⟨k,n,g⟩:=U;obtain⟨k',m,g'⟩:=D
 have h0:k=k':=h0
 have h1:n=m:=h1
 rw[h0,h1,show g=g' from funext h2]
theorem bO{U:St}{x:Loc}{o:zU}(h:U.get x=some o):U.Q6 x o=U:=pG rfl rfl λz=>by
 by_cases q:z=x
 ·rw[q,zP,h]
 ·exact zH q
theorem mH{U:St}{x:Loc}{o o':zU}:(U.Q6 x o).Q6 x o'=U.Q6 x o':=pG rfl rfl λz=>by
 by_cases q:z=x
 ·rw[q,zP,zP]
 ·rw[zH q,zH q,zH q]
mutual
noncomputable def V.rn(f:Loc->Loc):V->V
 | .Q1 l=> .Q1 (V.RV f l)
 | .QN l=> .QN (V.RV f l)
 | .c l=> .c (f l)
 | .none=> .none
 | .bool b=> .bool b
 | .int i=> .int i
 | .str s=> .str s
 | .bytes b=> .bytes b
 | .Rt n=> .Rt n
 | .obj a=> .obj a
 | .ty n=> .ty n
 | .bi n=> .bi n
noncomputable def V.RV(f:Loc->Loc):List V->List V
 |[]=>[]
 |v::r=>V.rn f v::V.RV f r
end
noncomputable def rnE(f:Loc->Loc):List (V×V)->List (V×V)
 |[]=>[]
 |e::r=>(e.1.rn f,e.2.rn f)::rnE f r
noncomputable def rnF(f:Loc->Loc):List (Nat×V)->List (Nat×V)
 |[]=>[]
 |e::r=>(e.1,e.2.rn f)::rnF f r
noncomputable def zU.rn(f:Loc->Loc)(o:zU):zU:= @zU.casesOn (λJ=>zU) o (λl=> .list (V.RV f l)) (λl=> .dict (rnE f l)) (λc l=> .Qz c (rnF f l)) .QA
noncomputable def St.sh(U:St)(l:Loc):Loc:= @Bool.rec (λJ=>Loc) l ⟨U.kd,U.next+l.i⟩ (Nat.beq l.k 10)
noncomputable def St.Rg:St:=⟨10,0,λJ=>none⟩
noncomputable def EL(U D:St):St:=⟨U.kd,U.next+D.next,λl=> @Bool.rec (λJ=>Option zU) (U.get l) ((D.get ⟨10,l.i-U.next⟩).map (zU.rn U.sh)) (Nat.beq l.k U.kd&&Nat.ble U.next l.i)⟩
inductive CS(pre:List V->Prop)(R:List V->V->St->Prop)(vs:List V)(U:St)(K:V->St->Prop):Prop
 |mk (o:Nat.beq U.kd 0=true) (hp:pre vs) (h:∀v D,R vs v D->(∀n,D.next<=n->D.get ⟨10,n⟩=none)->K (v.rn U.sh) (EL U D))
end
end
section
open PySem (Str Addr NameKind Operator CmpOp BoolOp Expr Stmt Const Comprehension Scope Arguments Pos)
structure bD where
 j:List Str
 QV:List (Str×V)
noncomputable section
abbrev z7:=List (Str×NameKind×Nat)
structure Sco where
 c:z7
 gl:List Str
noncomputable def jH(l:List (Str×NameKind)):List Str:=l.filterMap λx=>if x.2= .globalImplicit then some x.1 else none
noncomputable def eE(T:bD)(x:Str):Option Nat:=T.j.findIdx? λy=>y==x
noncomputable def ED(T:bD):Const->Option V
 | .none=>some .none
 | .bool b=>some (.bool b)
 | .int i=>some (.int i)
 | .str s=>(eE T s).map .str
 | .bytes b=>some (.bytes (b.map UInt8.toNat))
 |_=>none
noncomputable def qN(N:z7)(x:Str):Option Nat:=(N.find? λy=>y.1==x).map (·.2.2)
noncomputable def vL(e:Expr):Option Str:= @Expr.casesOn (λJ=>Option Str) e (λJ J J=>none) (λJ J J=>none) (λJ J J J=>none) (λJ J J=>none) (λJ J J J=>none) (λJ J J J=>none) (λJ J J=>none) (λJ J J=>none) (λJ J J J=>none) (λJ J J J=>none) (λJ J J J J=>none) (λJ J J J=>none) (λJ J=>none) (λJ J=>none) (λJ J=>none) (λJ J J J=>none) (λJ J J J=>none) (λJ J J J=>none) (λJ J=>none) (λJ J J=>none) (λJ J J=>none) (λJ J J=>none) (λJ J=>none) (λid pos=>some id) (λJ J=>none) (λJ J J=>none) (λJ J J J=>none)
theorem mT{e:Expr}{x:Str}(h:vL e=some x){G:Expr->Prop}(k:∀p,G (.Name x p)):G e:=by cases e<;>first|exact zG h|exact alS h▸k _
theorem yM{e:Expr}{x:Str}(h:vL e=some x):∃p,e= .Name x p:=by apply mT h;exactλJ=>⟨_,rfl⟩
noncomputable def gF(e:Expr):Option (List Expr):= @Expr.casesOn (λJ=>Option (List Expr)) e (λJ J J=>none) (λJ J J=>none) (λJ J J J=>none) (λJ J J=>none) (λJ J J J=>none) (λJ J J J=>none) (λJ J J=>none) (λJ J J=>none) (λJ J J J=>none) (λJ J J J=>none) (λJ J J J J=>none) (λJ J J J=>none) (λJ J=>none) (λJ J=>none) (λJ J=>none) (λJ J J J=>none) (λJ J J J=>none) (λJ J J J=>none) (λJ J=>none) (λJ J J=>none) (λJ J J=>none) (λJ J J=>none) (λJ J=>none) (λJ J=>none) (λJ J=>none) (λelts k pos=>some elts) (λJ J J J=>none)
theorem k9{e:Expr}{x:List Expr}(h:gF e=some x){G:Expr->Prop}(k:∀k p,G (.Tuple x k p)):G e:=by cases e<;>first|exact zG h|exact alS h▸k _ _
noncomputable def BT(e:Expr):Option (Expr×Expr):= @Expr.casesOn (λJ=>Option (Expr×Expr)) e (λJ J J=>none) (λJ J J=>none) (λJ J J J=>none) (λJ J J=>none) (λJ J J J=>none) (λJ J J J=>none) (λJ J J=>none) (λJ J J=>none) (λJ J J J=>none) (λJ J J J=>none) (λJ J J J J=>none) (λJ J J J=>none) (λJ J=>none) (λJ J=>none) (λJ J=>none) (λJ J J J=>none) (λJ J J J=>none) (λJ J J J=>none) (λJ J=>none) (λJ J J=>none) (λJ J J=>none) (λvalue cN pos=>some (value,cN)) (λJ J=>none) (λJ J=>none) (λJ J=>none) (λJ J J=>none) (λJ J J J=>none)
theorem rT{e:Expr}{x:Expr×Expr}(h:BT e=some x){G:Expr->Prop}(k:∀p,G (.Subscript x.1 x.2 p)):G e:=by cases e<;>first|exact zG h|(cases h;exact k _)
noncomputable def cD(e:Expr):Option (Option Expr×Option Expr):= @Expr.casesOn (λJ=>Option (Option Expr×Option Expr)) e (λJ J J=>none) (λJ J J=>none) (λJ J J J=>none) (λJ J J=>none) (λJ J J J=>none) (λJ J J J=>none) (λJ J J=>none) (λJ J J=>none) (λJ J J J=>none) (λJ J J J=>none) (λJ J J J J=>none) (λJ J J J=>none) (λJ J=>none) (λJ J=>none) (λJ J=>none) (λJ J J J=>none) (λJ J J J=>none) (λJ J J J=>none) (λJ J=>none) (λJ J J=>none) (λJ J J=>none) (λJ J J=>none) (λJ J=>none) (λJ J=>none) (λJ J=>none) (λJ J J=>none) (λlower upper step pos=>if step.isNone then some (lower,upper) else none)
theorem i6{e:Expr}{x:Option Expr×Option Expr}(h:cD e=some x){G:Expr->Prop}(k:∀p,G (.Slice x.1 x.2 none p)):G e:=by cases e<;>first|exact zG h|exact zK h λq h=>by cases h;exact Option.isNone_iff_eq_none.mp q▸k _
noncomputable def Cc(e:Expr):Option (Expr×Str×Pos):= @Expr.casesOn (λJ=>Option (Expr×Str×Pos)) e (λJ J J=>none) (λJ J J=>none) (λJ J J J=>none) (λJ J J=>none) (λJ J J J=>none) (λJ J J J=>none) (λJ J J=>none) (λJ J J=>none) (λJ J J J=>none) (λJ J J J=>none) (λJ J J J J=>none) (λJ J J J=>none) (λJ J=>none) (λJ J=>none) (λJ J=>none) (λJ J J J=>none) (λJ J J J=>none) (λJ J J J=>none) (λJ J=>none) (λJ J J=>none) (λvalue Qy pos=>some (value,Qy,pos)) (λJ J J=>none) (λJ J=>none) (λJ J=>none) (λJ J=>none) (λJ J J=>none) (λJ J J J=>none)
theorem nP{e:Expr}{x:Expr×Str×Pos}(h:Cc e=some x){G:Expr->Prop}(k:G (.Attribute x.1 x.2.1 x.2.2)):G e:=by cases e<;>first|exact zG h|(cases h;exact k)
noncomputable def jD9(e:Expr):Bool:= @Expr.casesOn (λJ=>Bool) e (λJ J J=>false) (λJ J J=>false) (λJ J J J=>false) (λJ J J=>false) (λJ J J J=>false) (λJ J J J=>false) (λJ J J=>false) (λJ J J=>false) (λJ J J J=>false) (λJ J J J=>false) (λJ J J J J=>false) (λJ J J J=>false) (λJ J=>false) (λJ J=>false) (λJ J=>false) (λJ J J J=>false) (λfunc args keywords pos=>(vL func).isSome&&args.isEmpty&&keywords.isEmpty) (λJ J J J=>false) (λJ J=>false) (λJ J J=>false) (λJ J J=>false) (λJ J J=>false) (λJ J=>false) (λJ J=>false) (λJ J=>false) (λJ J J=>false) (λJ J J J=>false)
noncomputable def qV(e:Expr):Bool:= @Expr.casesOn (λJ=>Bool) e (λJ J J=>true) (λJ J J=>true) (λJ J J J=>true) (λJ J J=>true) (λJ J J J=>true) (λJ J J J=>true) (λJ J J=>true) (λelts k pos=>false) (λJ J J J=>true) (λJ J J J=>true) (λJ J J J J=>true) (λJ J J J=>true) (λJ J=>true) (λJ J=>true) (λJ J=>true) (λJ J J J=>true) (λJ J J J=>true) (λJ J J J=>true) (λJ J=>true) (λJ J J=>true) (λJ J J=>true) (λJ J J=>true) (λJ J=>true) (λJ J=>true) (λJ J=>true) (λJ J J=>true) (λJ J J J=>true)
noncomputable def pH(e:Expr):Bool:= @Expr.casesOn (λJ=>Bool) e (λJ J J=>true) (λJ J J=>true) (λJ J J J=>true) (λJ J J=>true) (λJ J J J=>true) (λJ J J J=>true) (λJ J J=>true) (λJ J J=>true) (λJ J J J=>false) (λJ J J J=>false) (λJ J J J J=>false) (λJ J J J=>true) (λJ J=>true) (λJ J=>true) (λJ J=>true) (λJ J J J=>true) (λJ J J J=>true) (λJ J J J=>true) (λJ J=>true) (λJ J J=>true) (λJ J J=>true) (λJ J J=>true) (λJ J=>true) (λJ J=>true) (λJ J=>true) (λJ J J=>true) (λJ J J J=>true)
noncomputable def Jc(e:Stmt):Option (List Expr×Expr):= @Stmt.casesOn (λJ=>Option (List Expr×Expr)) e (λJ J J J J J J J J J=>none) (λJ J J J J J J J J J=>none) (λJ J J J J J J J J J J=>none) (λJ J=>none) (λJ J=>none) (λtargets value pos=>some (targets,value)) (λJ J J J J J J=>none) (λJ J J J=>none) (λJ J J J J=>none) (λJ J J J J=>none) (λJ J J J J=>none) (λJ J J J=>none) (λJ J J J=>none) (λJ J J=>none) (λJ J J=>none) (λJ J J=>none) (λJ J J=>none) (λJ J J J J=>none) (λJ J J J J=>none) (λJ J J=>none) (λJ J=>none) (λJ J J J=>none) (λJ J=>none) (λJ J=>none) (λJ J=>none) (λJ=>none) (λJ=>none) (λJ=>none)
theorem r7{e:Stmt}{x:List Expr×Expr}(h:Jc e=some x){G:Stmt->Prop}(k:∀p,G (.Assign x.1 x.2 p)):G e:=by cases e<;>first|exact zG h|(cases h;exact k _)
noncomputable def jN(N:z7):Nat->List (Str×NameKind)->Option z7
 |_,[]=>some []
 |k,y::r=>if y.2= .local then if y.1==(".0":Str) then jN N k r else(jN N (k+1) r).map ((y.1,.local,k):: ·)
  else if y.2= .free then pur (N.find? λz=>z.1==y.1) λz=>if z.2.1= .local then none else(jN N k r).map ((y.1,.free,z.2.2):: ·)
  else if y.2= .globalImplicit then jN N k r else none
noncomputable def b9(N:z7)(e:Expr):Option Nat:=pur (vL e) λx=>pur (N.find? λy=>y.1==x) λy=>if y.2.1= .local then some y.2.2 else none
noncomputable def vF(N:z7)(e:Expr):Option (List Nat×Bool):=match gF e with
 |some es=>(es.mapM (b9 N)).map (·,true)
 |none=>(b9 N e).map λi=>([i],false)
noncomputable def uL{α:Type}[BEq α]:List α->Bool
 |[]=>true
 |a::r=> !r.contains a&&uL r
noncomputable def gV(L:z7)(scope:Scope)(tg:List Nat):Bool:=
 scope.kind== .function&&uL (scope.names.map (·.1))&&uL (L.map (·.2.2))&&L.all (λx=>x.2.1 != .local||tg.contains x.2.2)
noncomputable def uH(e:Expr):Bool:= !jD9 e
noncomputable def cK(f:Expr->Option IR)(o:Option Expr):Option IR:=pur o f
noncomputable def cO(f:Expr->Option IR)(o:Option Expr):Option IR:=match o with
 |none=>some (.l .none)
 |some e=>f e
noncomputable def cLC(c:Expr->Option IR)(r8:Sco->Expr->Option IR)(N:z7)(k:Nat)(elt:Expr)(generators:List Comprehension)(scope:Scope):Option IR:=QQ generators λg=>if g.is_async=0 then pur (jN N k scope.names) λL=>pur (c g.iter) λit=>pur (vF L g.target) λtg=>pur (g.ifs.mapM (r8 ⟨L,jH scope.names⟩)) λifs=>pur (r8 ⟨L,jH scope.names⟩ elt) λe=>
   if gV L scope tg.1/\qV g.iter then some (.comp e tg.1 tg.2 it ifs) else none else none
noncomputable def cE1(T:bD)(k:Nat)(r r8:Sco->Expr->Option IR)(N:Sco)(e:Expr):Option IR:= @Expr.casesOn (λJ=>Option IR) e
 (λop values pos=>(values.mapM (r N)).map (.QT op)) (λJ J J=>none)
 (λleft op right pos=>pur (r N left) λa=>pur (r N right) λb=>some (.QB op a b))
 (λop operand pos=>pur (r N operand) λa=>match op with
   | .USub=>some (.neg a)
   | .Not=>some (.not a)
   |_=>none) (λJ J J J=>none)
 (λtest body orelse pos=>pur (r N test) λc=>pur (r N body) λa=>pur (r N orelse) λb=>some (.ite c a b))
 (λkeys values pos=>if keys.length=values.length/\keys.length<=15 then pur (keys.mapM (cK (r N))) λa=>pur (values.mapM (r N)) λb=>some (.Rl a b) else none) (λJ J J=>none)
 (λelt generators scope pos=>cLC (r N) r8 N.c k elt generators scope) (λJ J J J=>none) (λJ J J J J=>none) (λJ J J J=>none) (λJ J=>none) (λJ J=>none) (λJ J=>none)
 (λleft ops comparators pos=>if ops.length=comparators.length then pur (r N left) λa=>pur (comparators.mapM (r N)) λbs=>some (.Q4 a ops bs) else none)
 (λfunc args keywords pos=>if keywords.isEmpty then pur (args.mapM (r N)) λas=>if as.length<20 then match Cc func with
   |some x=>if uH x.1/\x.2.2.endLine=pos.line then pur (r N x.1) λo=>pur (eE T x.2.1) λm=>some (.Rs o m as) else none
   |none=>pur (r N func) λf=>some (.call f as)
   else none else none) (λJ J J J=>none) (λJ J=>none)
 (λvalue k pos=>(ED T value).map .l)
 (λvalue Qy pos=>if uH value then pur (r N value) λe=>pur (eE T Qy) λa=>some (.Qy e a) else none)
 (λvalue cN pos=>match cD cN with
   |some x=>pur (r N value) λe=>pur (cO (r N) x.1) λlo=>pur (cO (r N) x.2) λhi=>some (.RN e lo hi)
   |none=>pur (r N value) λe=>pur (r N cN) λi=>some (.sub e i)) (λJ J=>none)
 (λid pos=>if id==("__debug__":Str) then none else match N.c.find? (λy=>y.1==id) with
   |some y=>some (.v y.2.2)
   |none=>if N.gl.contains id then((T.QV.find? λy=>y.1==id).map (·.2)).map .l else none)
 (λelts pos=>(elts.mapM (r N)).map .QN)
 (λelts k pos=>(elts.mapM (r N)).map .Q1) (λJ J J J=>none)
noncomputable def cE(T:bD):Nat->Nat->Sco->Expr->Option IR
 |_,0=>λJ J=>none
 |k,n+1=>cE1 T k (cE T k n) (cE T (k+8) n)
noncomputable def bJ(N:z7)(e:Expr):Option Nat:=pur (vL e) (qN N)
noncomputable def cT1(T:bD)(N:Sco)(ce:Expr->Option IR)(e:Expr):Option Tg:= @Expr.casesOn (λJ=>Option Tg) e (λJ J J=>none) (λJ J J=>none) (λJ J J J=>none) (λJ J J=>none) (λJ J J J=>none) (λJ J J J=>none) (λJ J J=>none) (λJ J J=>none) (λJ J J J=>none) (λJ J J J=>none) (λJ J J J J=>none) (λJ J J J=>none) (λJ J=>none) (λJ J=>none) (λJ J=>none) (λJ J J J=>none) (λJ J J J=>none) (λJ J J J=>none) (λJ J=>none) (λJ J J=>none)
 (λvalue Qy pos=>pur (ce value) λe=>pur (eE T Qy) λa=>some (.Qy e a))
 (λvalue cN pos=>pur (ce value) λe=>pur (ce cN) λi=>some (.sub e i)) (λJ J=>none)
 (λid pos=>(qN N.c id).map .v) (λJ J=>none)
 (λelts k pos=>pur (elts.mapM (bJ N.c)) λl=>if uL l then some (.Q1 (l.map .v)) else none) (λJ J J J=>none)
noncomputable def cT(T:bD)(k:Nat)(N:Sco)(n:Nat):Expr->Option Tg:=match n with
 |0=>λJ=>none
 |n+1=>cT1 T N (cE T k n N)
noncomputable def xC(t e:Expr):Bool:= !((gF t).isSome&&match gF e with
 |some vs=>vs.all (PySem.constantsAlone 8)
 |none=>false)
noncomputable def nT(e:Expr):Option (Str×Str):=pur (BT e) λx=>pur (vL x.1) λa=>pur (vL x.2) λb=>some (a,b)
noncomputable def rO(N:z7)(tg it:Expr)(body:List Stmt):Option IS:=pur (vL tg) λp=>pur (vL it) λg=>QQ body λst=>pur (Jc st) λa=>QQ a.1 λl=>pur (nT l) λx=>pur (nT a.2) λy=>
  if p=x.2/\p=y.2/\g=y.1/\(p==("__debug__":Str))=false/\(g==("__debug__":Str))=false/\(x.1==("__debug__":Str))=false then pur (b9 N tg) λp=>pur (qN N g) λg=>pur (qN N x.1) λt=>some (.R5 t g p) else none
noncomputable def cS1(N:Sco)(ce:Expr->Option IR)(ct:Expr->Option Tg)(r:Stmt->Option IS)(s:Stmt):Option IS:= @Stmt.casesOn (λJ=>Option IS) s (λJ J J J J J J J J J=>none) (λJ J J J J J J J J J=>none) (λJ J J J J J J J J J J=>none)
 (λvalue pos=>match value with
   |some e=>(ce e).map .ret
   |none=>some (.ret (.l .none)))
 (λtargets pos=>QQ targets λt=>pur (BT t) λx=>pur (ce x.1) λe=>pur (ce x.2) λi=>some (.RW e i))
 (λtargets value pos=>QQ targets λt=>if xC t value then pur (ct t) λt=>pur (ce value) λe=>some (.Q0 t e) else none) (λJ J J J J J J=>none)
 (λtarget op value pos=>pur (vL target) λx=>pur (qN N.c x) λi=>pur (ce value) λe=>some (.aug i op e)) (λJ J J J J=>none)
 (λtarget iter body orelse pos=>if orelse.isEmpty then match rO N.c target iter body with
   |some r=>some r
   |none=>pur (vF N.c target) λtg=>pur (ce iter) λit=>pur (body.mapM r) λbody=>some (.QL tg.1 tg.2 it body)
   else none) (λJ J J J J=>none)
 (λtest body orelse pos=>if orelse.isEmpty then pur (ce test) λc=>pur (body.mapM r) λbody=>some (.Se c body) else none)
 (λtest body orelse pos=>pur (ce test) λc=>pur (body.mapM r) λa=>pur (orelse.mapM r) λb=>some (.QC c a b)) (λJ J J=>none) (λJ J J=>none) (λJ J J=>none)
 (λexc cause pos=>some .bad) (λJ J J J J=>none) (λJ J J J J=>none) (λJ J J=>none) (λJ J=>none) (λJ J J J=>none) (λJ J=>none) (λJ J=>none)
 (λvalue pos=>if pH value then(ce value).map .expr else none) (λJ=>none)
 (λpos=>some .brk) (λJ=>none)
noncomputable def cS(T:bD)(k:Nat)(N:Sco):Nat->Stmt->Option IS
 |0=>λJ=>none
 |n+1=>cS1 N (cE T k n N) (cT T k N n) (cS T k N n)
noncomputable def zO:Nat->List (Str×NameKind)->z7
 |_,[]=>[]
 |k,y::r=>if y.2= .local\/y.2= .cell then(y.1,y.2,k)::zO (k+1) r else zO k r
noncomputable def cF(T:bD)(ps:Arguments)(scope:Scope)(dflt:List V)(body:List Stmt):Option FI:=
 pur (ps.args.mapM λa=>qN (zO 0 scope.names) a.arg) λps=>pur (body.mapM (cS T (zO 0 scope.names).length ⟨zO 0 scope.names,jH scope.names⟩ 40)) λb=>some ⟨ps,dflt,(zO 0 scope.names).length+8,b⟩
end
end
section
open PySem PySem.W PyProof.Rows
structure Cx where
 prog:Program
 w:World
 h0:Heap
 K:Frag
 mg:Str->Option Value
 mb:Str->Option Value
 T:bD
 cls:List Nat
abbrev Emb:=Loc->Option (Addr×Addr)
mutual
inductive zS(C:Cx)(Z:Emb)(h:Heap):V->Value->Prop
 |none:zS C Z h .none .none
 |bool (b):zS C Z h (.bool b) (.bool b)
 |int (i t):zS C Z h (.int i) (.int i t)
 |str {s x} (t):C.T.j[s]?=some x->zS C Z h (.str s) (.str x t)
 |bytes {b arr} (t):arr.toList.map UInt8.toNat=b->zS C Z h (.bytes b) (.bytes arr t)
 |Q1 {vs a xs}:IsTup h a xs->zW C Z h vs xs.toList->zS C Z h (.Q1 vs) (.ref a)
 |Rt {n:Nat} {a t1 t2 t3}:h.get? a=some {cls:= .type "range",dict:=none,data:= .fields #[.int 0 t1,.int (n:Int) t2,.int 1 t3],slots:= #[]}->zS C Z h (.Rt n) (.ref a)
 |c {l a d}:Z l=some (a,d)->zS C Z h (.c l) (.ref a)
 |obj {a o}:C.h0.get? a=some o->zS C Z h (.obj a) (.ref a)
 |ty (n):zS C Z h (.ty n) (.type n)
 |bi (n):(withoutEnding? n "#data").isNone=true->zS C Z h (.bi n) (.builtin n)
inductive zW(C:Cx)(Z:Emb)(h:Heap):List V->List Value->Prop
 |nil:zW C Z h [] []
 |cons {v x vs xs}:zS C Z h v x->zW C Z h vs xs->zW C Z h (v::vs) (x::xs)
end
def u3(o:Obj):Prop:=(o.cls= .type "tuple"/\∃xs n,o.data= .seq xs n)\/(o.cls= .type "range"/\∃xs,o.data= .fields xs)
def Imm(h h':Heap):Prop:=∀a o,h.get? a=some o->u3 o->h'.get? a=some o
theorem Imm.refl(h:Heap):Imm h h:=λJ J e J=>e
theorem Imm.trans{h₁ h₂ h₃:Heap}(x:Imm h₁ h₂)(y:Imm h₂ h₃):Imm h₁ h₃:=λa o e s=>y a o (x a o e s) s
theorem Imm.of_keeps{h h':Heap}(k:∀a o,h.get? a=some o->h'.get? a=some o):Imm h h':=λa o e J=>k a o e
theorem zS.keeps{C:Cx}{Z Z':Emb}{h h':Heap}(hi:∀l p,Z l=some p->Z' l=some p)(hm:Imm h h'){v x}(r:zS C Z h v x):zS C Z' h' v x:=
 zS.rec (motive_1:=λv x J=>zS C Z' h' v x) (motive_2:=λvs xs J=>zW C Z' h' vs xs) .none .bool .int .str .bytes
  (λht J ih=> .Q1 (let⟨o,ho,hc,n,q⟩:=ht;⟨o,hm _ _ ho (.inl ⟨hc,_,n,q⟩),hc,n,q⟩) ih) (λho=> .Rt (hm _ _ ho (.inr ⟨rfl,_,rfl⟩))) (λe=> .c (hi _ _ e)) .obj .ty .bi .nil (λJ J a r=> .cons a r) r
section
variable{C:Cx}{Z:Emb}{h:Heap}
theorem zW.al{vs xs}(r:zW C Z h vs xs):Al2 (zS C Z h) vs xs:=
 zW.rec (motive_1:=λJ J J=>True) (motive_2:=λvs xs J=>Al2 (zS C Z h) vs xs) trivial (λJ=>trivial) (λJ J=>trivial) (λJ J=>trivial) (λJ J=>trivial)
  (λJ J J=>trivial) (λJ=>trivial) (λJ=>trivial) (λJ=>trivial) (λJ=>trivial) (λJ J=>trivial) .nil (λa J J r=> .cons a r) r
theorem zW.of{vs xs}(r:Al2 (zS C Z h) vs xs):zW C Z h vs xs:=by
 induction r with
 |nil=>exact .nil
 |cons a _ ih=>exact .cons a ih
theorem zW.keeps{Z':Emb}{h':Heap}(hi:∀l p,Z l=some p->Z' l=some p)(hm:Imm h h'){vs xs}(r:zW C Z h vs xs):zW C Z' h' vs xs:= .of (r.al.map λJ J q=>q.keeps hi hm)
theorem zW.length{vs xs}(r:zW C Z h vs xs):vs.length=xs.length:=r.al.length
theorem zW.append{vs xs us ys}(r:zW C Z h vs xs)(q:zW C Z h us ys):zW C Z h (vs++us) (xs++ys):= .of (r.al.append q.al)
theorem zW.get{vs xs}{i:Nat}{v}(r:zW C Z h vs xs)(e:vs[i]?=some v):∃x,xs[i]?=some x/\zS C Z h v x:=r.al.get e
theorem zW.set{vs xs}{i:Nat}{v x}(r:zW C Z h vs xs)(q:zS C Z h v x):zW C Z h (vs.set i v) (xs.set i x):= .of (r.al.set q)
theorem zW.take{vs xs}{i:Nat}(r:zW C Z h vs xs):zW C Z h (vs.take i) (xs.take i):= .of r.al.take
theorem zW.drop{vs xs}{i:Nat}(r:zW C Z h vs xs):zW C Z h (vs.drop i) (xs.drop i):= .of r.al.drop
end
def Qw(C:Cx)(Z:Emb)(h:Heap)(v:V)(x:Value):Prop:= @V.casesOn (λJ=>Prop) v (x= .none) (λb=>x= .bool b) (λi=>∃t,x= .int i t) (λs=>∃y t,C.T.j[s]?=some y/\x= .str y t)
 (λb=>∃arr t,arr.toList.map UInt8.toNat=b/\x= .bytes arr t) (λvs=>∃a xs,IsTup h a xs/\zW C Z h vs xs.toList/\x= .ref a) (λJ=>False)
 (λn=>∃a t1 t2 t3,h.get? a=some {cls:= .type "range",dict:=none,data:= .fields #[.int 0 t1,.int (n:Int) t2,.int 1 t3],slots:= #[]}/\x= .ref a)
 (λl=>∃p,Z l=some p/\x= .ref p.1) (λa=>(∃o,C.h0.get? a=some o)/\x= .ref a) (λn=>x= .type n) (λn=>(withoutEnding? n "#data").isNone=true/\x= .builtin n)
section
variable{C:Cx}{Z:Emb}{h:Heap}{x:Value}
theorem zS.Rq{v:V}(r:zS C Z h v x):Qw C Z h v x:=by
 cases r with
 |none|bool|ty=>exact rfl
 |int i t=>exact⟨t,rfl⟩
 |str t e=>exact⟨_,t,e,rfl⟩
 |bytes t e=>exact⟨_,t,e,rfl⟩
 |Q1 a b=>exact⟨_,_,a,b,rfl⟩
 |Rt e=>exact⟨_,_,_,_,e,rfl⟩
 |c e=>exact⟨_,e,rfl⟩
 |obj e=>exact⟨⟨_,e⟩,rfl⟩
 |bi _ e=>exact⟨e,rfl⟩
theorem zS.QP{i:Int}(r:zS C Z h (.int i) x){G:Value->Prop}(k:∀t,G (.int i t)):G x:=by obtain⟨t,e⟩:=r.Rq;exact e▸k t
theorem zS.Ry{i:Nat}(r:zS C Z h (.str i) x){G:Value->Prop}(k:∀y t,C.T.j[i]?=some y->G (.str y t)):G x:=by obtain⟨y,t,q,e⟩:=r.Rq;exact e▸k y t q
theorem zS.Rk{b:List Nat}(r:zS C Z h (.bytes b) x){G:Value->Prop}(k:∀arr t,arr.toList.map UInt8.toNat=b->G (.bytes arr t)):G x:=by obtain⟨y,t,q,e⟩:=r.Rq;exact e▸k y t q
theorem zS.QR{vs:List V}(r:zS C Z h (.Q1 vs) x){G:Value->Prop}(k:∀a xs,IsTup h a xs->zW C Z h vs xs.toList->G (.ref a)):G x:=by obtain⟨a,xs,p,q,e⟩:=r.Rq;exact e▸k a xs p q
theorem zS.QK{l:Loc}(r:zS C Z h (.c l) x){G:Value->Prop}(k:∀p,Z l=some p->G (.ref p.1)):G x:=by obtain⟨p,q,e⟩:=r.Rq;exact e▸k p q
theorem zS.Re{v:V}{i:Int}(e:v.QO=some i)(r:zS C Z h v x){G:Value->Prop}(k:∀t,G (.int i t)):G x:=(uX e▸r).QP k
theorem zS.getBytes{v:V}{b:List Nat}(e:v.Rj=some b)(r:zS C Z h v x){G:Value->Prop}(k:∀arr t,arr.toList.map UInt8.toNat=b->G (.bytes arr t)):G x:=(d8 e▸r).Rk k
theorem zS.getTup{v:V}{vs:List V}(e:v.Ru=some vs)(r:zS C Z h v x){G:Value->Prop}(k:∀a xs,IsTup h a xs->zW C Z h vs xs.toList->G (.ref a)):G x:=(fY e▸r).QR k
theorem zS.QG{v:V}{l:Loc}(e:v.QD=some l)(r:zS C Z h v x){G:Value->Prop}(k:∀p,Z l=some p->G (.ref p.1)):G x:=(qG e▸r).QK k
theorem zS.Rm{v:V}(e:v.isNone=true)(r:zS C Z h v x){G:Value->Prop}(k:G .none):G x:=(dA e▸r).Rq▸k
theorem zS.getInts{v w:V}{y:Value}{α:Type}{f:Int->Int->Option α}{o:α}(e:lR v w f=some o)(r:zS C Z h v x)(q:zS C Z h w y){G:Value->Value->Prop}(k:∀i t j u,f i j=some o->G (.int i t) (.int j u)):G x y:=
 iK e λi j e1 e2 e=>by apply(e1▸r).QP;intro t;apply(e2▸q).QP;exactλu=>k i t j u e
end
noncomputable def Fz(l:List Int):Int:=reduceHash (Builtin.Tuple.tupleHashOf l)
mutual
noncomputable def uT(C:Cx):V->Int
 | .int i=>hashInt i
 | .str s=>hashStr C.w (C.T.j.getD s Str.empty)
 | .Q1 l=>Fz (u8 C l)
 |_=>0
noncomputable def u8(C:Cx):List V->List Int
 |[]=>[]
 |v::r=>uT C v::u8 C r
end
inductive KV(C:Cx)(Z:Emb)(h:Heap):V×V->DictEntry->Prop
 |mk {k v hs key val}:zS C Z h k key->zS C Z h v val->hs=uT C k->yZ k=true->KV C Z h (k,v) ⟨hs,key,val⟩
abbrev jW(C:Cx)(Z:Emb)(h:Heap):List (V×V)->List DictEntry->Prop:=Al2 (KV C Z h)
inductive KY(C:Cx)(Z:Emb)(h:Heap):Nat×V->DictEntry->Prop
 |mk {k v hs x t val}:C.T.j[k]?=some x->zS C Z h v val->KY C Z h (k,v) ⟨hs,.str x t,val⟩
abbrev vK(C:Cx)(Z:Emb)(h:Heap):List (Nat×V)->List DictEntry->Prop:=Al2 (KY C Z h)
theorem jW.keeps{C:Cx}{Z Z':Emb}{h h':Heap}(hi:∀l p,Z l=some p->Z' l=some p)(hm:Imm h h'){es ds}(r:jW C Z h es ds):jW C Z' h' es ds:=r.map λJ J q=>by
 cases q with|mk a b c d=>exact .mk (a.keeps hi hm) (b.keeps hi hm) c d
theorem vK.keeps{C:Cx}{Z Z':Emb}{h h':Heap}(hi:∀l p,Z l=some p->Z' l=some p)(hm:Imm h h'){es ds}(r:vK C Z h es ds):vK C Z' h' es ds:=r.map λJ J q=>by
 cases q with|mk a b=>exact .mk a (b.keeps hi hm)
noncomputable abbrev jU(b:Array UInt8):Obj:={cls:= .type "bytearray",data:= .bytearray b 0}
def qE(C:Cx)(Z:Emb)(h:Heap)(a d:Addr):zU->Prop
 | .list vs=>a=d/\∃xs n,h.get? a=some (PySem.W.listOf xs n)/\zW C Z h vs xs.toList
 | .dict es=>a=d/\∃ds n,h.get? a=some (dictOf ds n)/\jW C Z h es ds/\(es.map (·.1)).Nodup
 | .Qz cl fs=>a≠d/\∃ds n,h.get? a=some (instObj cl d)/\h.get? d=some (dictOf ds n)/\vK C Z h fs ds/\(fs.map (·.1)).Nodup/\cl∈C.cls
 | .QA bs=>a=d/\∃arr,h.get? a=some (jU arr)/\arr.toList.map UInt8.toNat=bs
def own(Z:Emb)(U:St)(a:Addr):Prop:=∃l p,U.get l≠none/\Z l=some p/\(a=p.1\/a=p.2)
theorem Cx.QJ{C:Cx}{a:Addr}(h:C.h0.objs.size<=a):C.h0.get? a=none:=by
 cases e:C.h0.get? a with
 |none=>rfl
 |some o=>exact absurd (Heap.lt_size e) (Nat.not_lt.mpr h)
structure Rel(C:Cx)(Z:Emb)(U:St)(h:Heap):Prop where
 size:C.h0.objs.size<=h.objs.size
 keep:∀b o,C.h0.get? b=some o->h.get? b=some o
 objs:∀l o,U.get l=some o->∃a d,Z l=some (a,d)/\qE C Z h a d o/\C.h0.objs.size<=a/\C.h0.objs.size<=d
 inj:∀l l' p p',U.get l≠none->U.get l'≠none->Z l=some p->Z l'=some p'->l≠l'->p.1≠p'.1/\p.1≠p'.2/\p.2≠p'.1/\p.2≠p'.2
 fresh:∀n,U.next<=n->Z ⟨U.kd,n⟩=none
 R6:∀n,U.next<=n->U.get ⟨U.kd,n⟩=none
 RX:U.kd=0->∀n,Z ⟨10,n⟩=none
theorem jQ{o:Obj}(h1:o.cls≠ .type "tuple")(h2:o.cls≠ .type "range"):¬u3 o:=λs=>s.elim (λq=>h1 q.1) λq=>h2 q.1
theorem uN{a b:String}(h:a≠b):Value.type a≠ .type b:=λq=>h (Value.type.inj q)
theorem nK{xs n}:¬u3 (PySem.W.listOf xs n):=jQ (uN (by decide)) (uN (by decide))
theorem l9{xs n}:¬u3 (dictOf xs n):=jQ (uN (by decide)) (uN (by decide))
theorem FP{c d}:¬u3 (instObj c d):=jQ (λh=>nomatch h) (λh=>nomatch h)
theorem AC{b}:¬u3 (jU b):=jQ (uN (by decide)) (uN (by decide))
def J4(h:Heap)(a:Addr):Prop:=∃x,h.get? a=some x/\¬u3 x
theorem qE.lives{C:Cx}{Z:Emb}{h:Heap}{a d:Addr}{o}(r:qE C Z h a d o):J4 h a/\J4 h d:=by
 cases o with
 |list _=>refine dE r λe J J q J=> ?_;exact e▸⟨⟨_,q,nK⟩,⟨_,q,nK⟩⟩
 |dict _=>refine dE r λe J J q J=> ?_;exact e▸⟨⟨_,q,l9⟩,⟨_,q,l9⟩⟩
 |Qz _ _=>refine xN r λJ J J q q' J=> ?_;exact⟨⟨_,q,FP⟩,⟨_,q',l9⟩⟩
 |QA _=>refine Ed r λe J q J=> ?_;exact e▸⟨⟨_,q,AC⟩,⟨_,q,AC⟩⟩
theorem qE.moves{C:Cx}{Z Z':Emb}{h h':Heap}{a d:Addr}(hi:∀l p,Z l=some p->Z' l=some p)(hm:Imm h h')(ha:h'.get? a=h.get? a)(hd:h'.get? d=h.get? d){o}(r:qE C Z h a d o):qE C Z' h' a d o:=by
 cases o with
 |list _=>exact⟨r.1,r.2.imp λJ=>Exists.imp λJ q=>⟨ha.trans q.1,q.2.keeps hi hm⟩⟩
 |dict _=>exact⟨r.1,r.2.imp λJ=>Exists.imp λJ q=>⟨ha.trans q.1,jW.keeps hi hm q.2.1,q.2.2⟩⟩
 |Qz _ _=>exact⟨r.1,r.2.imp λJ=>Exists.imp λJ q=>⟨ha.trans q.1,hd.trans q.2.1,vK.keeps hi hm q.2.2.1,q.2.2.2⟩⟩
 |QA _=>exact⟨r.1,r.2.imp λJ q=>⟨ha.trans q.1,q.2⟩⟩
section
variable{C:Cx}{Z:Emb}{U:St}{h:Heap}
structure K1(C:Cx)(Z:Emb)(h:Heap)(l:Loc)(o:zU)(p:Addr×Addr):Prop where
 at_:Z l=some p
 obj:qE C Z h p.1 p.2 o
 RO:C.h0.objs.size<=p.1
 old2:C.h0.objs.size<=p.2
theorem Rel.lies(X:Rel C Z U h){l:Loc}{o:zU}(e:U.get l=some o):∃p,K1 C Z h l o p:=by
 refine eJ (X.objs l o e) λa d h1 h2 h3 h4=> ?_
 exact⟨(a,d),h1,h2,h3,h4⟩
theorem Rel.QW(X:Rel C Z U h){l:Loc}{o:zU}(e:U.get l=some o){p:Addr×Addr}(hp:Z l=some p):K1 C Z h l o p:=by
 obtain⟨q,L⟩:=X.lies e
 exact alS (L.at_.symm.trans hp)▸L
theorem Rel.lives_at(X:Rel C Z U h){l:Loc}{p:Addr×Addr}(hl:U.get l≠none)(hp:Z l=some p):∃o,K1 C Z h l o p:=by
 cases q:U.get l with
 |none=>exact absurd q hl
 |some ob=>exact⟨ob,X.QW q hp⟩
theorem Rel.ownLives(X:Rel C Z U h){a:Addr}(o:own Z U a):∃x,h.get? a=some x/\¬u3 x/\C.h0.get? a=none:=by
 refine yW o λl p hl hp e=> ?_
 refine xE (X.lives_at hl hp) λo L=> ?_
 have z:=L.obj.lives
 exact e.elim (λe=>e▸z.1.imp λJ q=>⟨q.1,q.2,Cx.QJ L.RO⟩) λe=>e▸z.2.imp λJ q=>⟨q.1,q.2,Cx.QJ L.old2⟩
end
theorem qL{α:Type}{o:Option α}{x:α}(h:o=some x):o≠none:=λq=>nomatch h.symm.trans q
structure zV(C:Cx)(X:Addr->Prop)(Z:Emb)(U:St)(s:Shared)(Z':Emb)(U':St)(s':Shared):Prop where
 ext:∀l p,Z l=some p->Z' l=some p
 Q8:Rel C Z' U' s'.heap
 keep:∀a o,s.heap.get? a=some o->¬own Z U a->¬X a->s'.heap.get? a=some o
 QH:Imm s.heap s'.heap
 QY:∀a,own Z' U' a->own Z U a\/s.heap.objs.size<=a
 size:s.heap.objs.size<=s'.heap.objs.size
 next:U.next<=U'.next
 gens:s'.gens=s.gens
 os:s'.os=s.os
 kd:U'.kd=U.kd
 Rc:∀l p,Z' l=some p->Z l=some p\/l.k=U.kd
theorem zV.refl{C:Cx}{X Z U s}(R:Rel C Z U s.heap):zV C X Z U s Z U s:=
 ⟨λJ J e=>e,R,λJ J e J J=>e,Imm.refl _,λJ o=> .inl o,Nat.le_refl _,Nat.le_refl _,rfl,rfl,rfl,λJ J e=> .inl e⟩
theorem zV.trans{C:Cx}{X:Addr->Prop}{Z U s Z₁ U₁ s₁ Z₂ U₂ s₂}(x:zV C X Z U s Z₁ U₁ s₁)(y:zV C X Z₁ U₁ s₁ Z₂ U₂ s₂):zV C X Z U s Z₂ U₂ s₂ where
 ext l p e:=y.ext l p (x.ext l p e)
 Q8:=y.Q8
 keep a o e no nx:=y.keep a o (x.keep a o e no nx) (λq=>(x.QY a q).elim no λq=>absurd (Heap.lt_size e) (Nat.not_lt.mpr q)) nx
 QH:=x.QH.trans y.QH
 QY a o:=(y.QY a o).elim (x.QY a) λq=> .inr (alJ x.size q)
 size:=alJ x.size y.size
 next:=alJ x.next y.next
 gens:=y.gens.trans x.gens
 os:=y.os.trans x.os
 kd:=y.kd.trans x.kd
 Rc l p e:=(y.Rc l p e).elim (x.Rc l p) λq=> .inr (q.trans x.kd)
theorem zV.Q7{C:Cx}{X jjY:Addr->Prop}{Z U s Z' U' s'}(x:zV C X Z U s Z' U' s')(h:∀a,X a->jjY a\/s.heap.objs.size<=a):zV C jjY Z U s Z' U' s':=
 ⟨x.ext,x.Q8,λa o e no ny=>x.keep a o e no λq=>(h a q).elim ny λq=>absurd (Heap.lt_size e) (Nat.not_lt.mpr q),x.QH,x.QY,x.size,x.next,x.gens,x.os,x.kd,x.Rc⟩
theorem bY{C:Cx}{Z Z':Emb}{U:St}{h h':Heap}(R:Rel C Z U h)(hi:∀l p,Z l=some p->Z' l=some p)(hm:Imm h h'){l:Loc}{o:zU}(e:U.get l=some o)(k:∀p x,K1 C Z h l o p->(h.get? p.1=some x->h'.get? p.1=some x)/\(h.get? p.2=some x->h'.get? p.2=some x)):
  ∃a d,Z' l=some (a,d)/\qE C Z' h' a d o/\C.h0.objs.size<=a/\C.h0.objs.size<=d:=by
 refine xE (R.lies e) λp L=> ?_
 obtain⟨⟨x,hx,_⟩,⟨y,hy,_⟩⟩:=L.obj.lives
 exact⟨p.1,p.2,hi _ _ L.at_,L.obj.moves hi hm (((k p x L).1 hx).trans hx.symm) (((k p y L).2 hy).trans hy.symm),L.RO,L.old2⟩
theorem zV.R9{C:Cx}{X:Addr->Prop}{Z U s}{s':Shared}(R:Rel C Z U s.heap)(hk:∀a o,s.heap.get? a=some o->s'.heap.get? a=some o)(hs:s.heap.objs.size<=s'.heap.objs.size)
  (hg:s'.gens=s.gens)(ho:s'.os=s.os):zV C X Z U s Z U s' where
 ext _ _ e:=e
 Q8:=⟨alJ R.size hs,λb o e=>hk b o (R.keep b o e),λJ J e=>bY R (λJ J e=>e) (Imm.of_keeps hk) e λp x J=>⟨hk p.1 x,hk p.2 x⟩,R.inj,R.fresh,R.R6,R.RX⟩
 keep a o e _ _:=hk a o e
 QH:=Imm.of_keeps hk
 QY _ o:= .inl o
 size:=hs
 next:=Nat.le_refl _
 gens:=hg
 os:=ho
 kd:=rfl
 Rc _ _ e:= .inl e
theorem nn{α:Type}{o:Option α}{x:α}(e:o=some x)(h:o=none):False:=nomatch h.symm.trans e
theorem sbk{L a:Addr}{h h':Heap}(hk:Heap.SameBut L h h'){o:Obj}(e:h.get? a=some o)(n:a≠L):h'.get? a=some o:=(hk.2 a n).trans e
theorem zV.R1{C:Cx}{X:Addr->Prop}{Z U s}{s':Shared}{L:Addr}(R:Rel C Z U s.heap)(hk:∀b o,b≠L->s.heap.get? b=some o->s'.heap.get? b=some o)(hs:s.heap.objs.size<=s'.heap.objs.size)(hL:¬own Z U L)(hX:X L)
  (h0:C.h0.get? L=none)(hst:∀o,s.heap.get? L=some o->¬u3 o)(hg:s'.gens=s.gens)(ho:s'.os=s.os):zV C X Z U s Z U s':=
 have QH:Imm s.heap s'.heap:=λJ J e st=>hk _ _ (λq=>hst _ (q▸e) st) e
 {ext:=λJ J e=>e
  Q8:=⟨alJ R.size hs,λb o e=>hk _ _ (λq=>nn e (q▸h0)) (R.keep b o e),
   λJ J e=>bY R (λJ J e=>e) QH e λp J l=>⟨hk _ _ λq=>hL ⟨_,p,qL e,l.at_,.inl q.symm⟩,hk _ _ λq=>hL ⟨_,p,qL e,l.at_,.inr q.symm⟩⟩,R.inj,R.fresh,R.R6,R.RX⟩
  keep:=λJ J e J nx=>hk _ _ (λq=>nx (q▸hX)) e
  QH:=QH
  QY:=λJ o=> .inl o
  size:=hs
  next:=Nat.le_refl _
  gens:=hg
  os:=ho
  kd:=rfl
  Rc:=λJ J e=> .inl e}
theorem zV.other{C:Cx}{X:Addr->Prop}{Z U s}{s':Shared}{L:Addr}(R:Rel C Z U s.heap)(hk:Heap.SameBut L s.heap s'.heap)(hL:¬own Z U L)(hX:X L)(h0:C.h0.get? L=none)
  (hst:∀o,s.heap.get? L=some o->¬u3 o)(hg:s'.gens=s.gens)(ho:s'.os=s.os):zV C X Z U s Z U s':=zV.R1 R (λJ J n e=>sbk hk e n) (Nat.le_of_eq hk.1.symm) hL hX h0 hst hg ho
theorem zV.Q6{C:Cx}{X:Addr->Prop}{Z U s}{s':Shared}{l:Loc}{a d jjD:Addr}{o o':zU}(R:Rel C Z U s.heap)(hl:U.get l=some o)(hi:Z l=some (a,d))(hD:jjD=a\/jjD=d)
  (hk:Heap.SameBut jjD s.heap s'.heap)(hn:Imm s.heap s'.heap->qE C Z s'.heap a d o')(hg:s'.gens=s.gens)(ho:s'.os=s.os):zV C X Z U s Z (U.Q6 l o') s':=by
 have L:=R.QW hl hi
 have hne:U.get l≠none:=qL hl
 have hown:own Z U jjD:=⟨l,_,hne,hi,hD⟩
 refine eO (R.ownLives hown) λw hw nw hDn=> ?_
 have QH:Imm s.heap s'.heap:=λb ob e st=>sbk hk e λq=>nw (alS ((q▸e:s.heap.get? jjD=some ob).symm.trans hw)▸st)
 have same:∀x,(U.Q6 l o').get x≠none->U.get x≠none:=λx hx=>by
  by_cases q:x=l
  ·exact q▸hne
  ·exact zH q▸hx
 have QY:∀b,own Z (U.Q6 l o') b->own Z U b:=λb ⟨x,p,hx,hp,e⟩=>⟨x,p,same x hx,hp,e⟩
 refine⟨λJ J e=>e,⟨alJ R.size (Nat.le_of_eq hk.1.symm),λb ob e=>sbk hk (R.keep b ob e) λq=>nn e (q▸hDn),λx ob e=> ?_,λx y p p' hx hy=>R.inj x y p p' (same x hx) (same y hy),R.fresh,λn hn=> ?_,R.RX⟩,
  λb ob e no J=>sbk hk e λq=>no (q▸hown),QH,λb ob=> .inl (QY b ob),Nat.le_of_eq hk.1.symm,Nat.le_refl _,hg,ho,rfl,λJ J e=> .inl e⟩
 ·by_cases q:x=l
  ·subst q
   exact alS (zP.symm.trans e)▸⟨a,d,hi,hn QH,L.RO,L.old2⟩
  ·have e':U.get x=some ob:=zH q▸e
   refine bY R (λJ J e=>e) QH e' λp J l'=> ?_
   have z:=R.inj x l _ _ (qL e') hne l'.at_ hi q
   exact⟨λf=>sbk hk f λe=>hD.elim (λf=>z.1 (e.trans f)) λf=>z.2.1 (e.trans f),λf=>sbk hk f λe=>hD.elim (λf=>z.2.2.1 (e.trans f)) λf=>z.2.2.2 (e.trans f)⟩
 ·exact(zH (λq=>nomatch (q▸R.R6 n hn).symm.trans hl)).trans (R.R6 n hn)
theorem Kz{x y n:Nat}(h:x<n)(g:n<=y):y≠x:=Nat.ne_of_gt (Nat.lt_of_lt_of_le h g)
noncomputable def Emb.Rb(Z:Emb)(n:Loc)(p:Addr×Addr):Emb:=λl=>if l=n then some p else Z l
theorem q6{Z:Emb}{n:Loc}{p:Addr×Addr}:Z.Rb n p n=some p:=if_pos rfl
theorem w8{Z:Emb}{n:Loc}{p:Addr×Addr}{l:Loc}(h:l≠n):Z.Rb n p l=Z l:=if_neg h
theorem OL{k k' n m:Nat}(h:n≠m):(⟨k,n⟩:Loc)≠⟨k',m⟩:=λq=>h (alQ Loc.i q)
theorem PC{k k' n m:Nat}(h:k≠k'):(⟨k,n⟩:Loc)≠⟨k',m⟩:=λq=>h (alQ Loc.k q)
theorem zV.adopt{C:Cx}{X:Addr->Prop}{Z U s Z2 U2 s2}{a d:Addr}{o:zU}(S:zV C X Z U s Z2 U2 s2)(ha:s.heap.objs.size<=a)(hd:s.heap.objs.size<=d)(h0a:C.h0.objs.size<=a)(h0d:C.h0.objs.size<=d)(na:¬own Z2 U2 a)(nd:¬own Z2 U2 d)
  (hn:(∀l p,Z2 l=some p->Z2.Rb U2.fr (a,d) l=some p)->qE C (Z2.Rb U2.fr (a,d)) s2.heap a d o):zV C X Z U s (Z2.Rb U2.fr (a,d)) (U2.new o) s2:=by
 have R:=S.Q8
 have ext:∀l p,Z2 l=some p->Z2.Rb U2.fr (a,d) l=some p:=λl p e=>(w8 (l:=l) (n:=U2.fr) λq=>nn e (q▸R.fresh _ (Nat.le_refl _))).trans e
 have old:∀{l p},l≠U2.fr->(U2.new o).get l≠none->Z2.Rb U2.fr (a,d) l=some p->U2.get l≠none/\Z2 l=some p/\(p.1≠a/\p.2≠a)/\p.1≠d/\p.2≠d:=λ{l p} q hl hp=>by
  have hl':U2.get l≠none:=vC q▸hl
  have hp':Z2 l=some p:=(w8 q).symm.trans hp
  exact⟨hl',hp',⟨λe=>na ⟨l,p,hl',hp',.inl e.symm⟩,λe=>na ⟨l,p,hl',hp',.inr e.symm⟩⟩,λe=>nd ⟨l,p,hl',hp',.inl e.symm⟩,λe=>nd ⟨l,p,hl',hp',.inr e.symm⟩⟩
 refine⟨λl p e=>ext _ _ (S.ext l p e),⟨R.size,R.keep,λl ob e=> ?_,λl l' p p' hl hl' hp hp' hne=> ?_,λn h=> ?_,λn h=> ?_,λe n=>(w8 (PC λq:10=U2.kd=>Nat.noConfusion (q.trans e:10=0))).trans (R.RX e n)⟩,S.keep,S.QH,λb hb=> ?_,S.size,Nat.le_succ_of_le S.next,S.gens,S.os,S.kd,λl p e=> ?_⟩
 ·by_cases q:l=U2.fr
  ·subst q
   exact alS (zJ.symm.trans e)▸⟨a,d,q6,hn ext,h0a,h0d⟩
  ·exact bY R ext (Imm.refl _) (vC q▸e) λp x J=>⟨id,id⟩
 ·by_cases q:l=U2.fr
  ·subst q
   have z:=(old hne.symm hl' hp').2.2
   exact alS (q6.symm.trans hp)▸⟨z.1.1.symm,z.1.2.symm,z.2.1.symm,z.2.2.symm⟩
  ·have z:=old q hl hp
   by_cases q':l'=U2.fr
   ·subst q'
    have z:=z.2.2
    exact alS (q6.symm.trans hp')▸⟨z.1.1,z.2.1,z.1.2,z.2.2⟩
   ·have z':=old q' hl' hp'
    exact R.inj l l' p p' z.1 z'.1 z.2.1 z'.2.1 hne
 ·exact(w8 (OL (Nat.ne_of_gt h))).trans (R.fresh n (Nat.le_of_succ_le h))
 ·exact(vC (OL (Nat.ne_of_gt h))).trans (R.R6 n (Nat.le_of_succ_le h))
 ·refine yW hb λl p hl hp e=> ?_
  by_cases q:l=U2.fr
  ·subst q
   have:=alS (q6.symm.trans hp)
   exact .inr (e.elim (λe=>by rw[e,<-this];exact ha) λe=>by rw[e,<-this];exact hd)
  ·have z:=old q hl hp
   exact S.QY b ⟨l,p,z.1,z.2.1,e⟩
 ·by_cases q:l=U2.fr
  ·exact .inr (q▸S.kd)
  ·exact S.Rc l p ((w8 q).symm.trans e)
theorem Rel.QX{C:Cx}{Z:Emb}{U:St}{h:Heap}(R:Rel C Z U h){a:Addr}(q:h.objs.size<=a):¬own Z U a:=λo=>by
 obtain⟨x,hx,_⟩:=R.ownLives o
 exact absurd (Heap.lt_size hx) (Nat.not_lt.mpr q)
theorem zV.new{C:Cx}{X:Addr->Prop}{Z U s}{s':Shared}{a d:Addr}{o:zU}(R:Rel C Z U s.heap)(hk:∀b ob,s.heap.get? b=some ob->s'.heap.get? b=some ob)(hs:s.heap.objs.size<=s'.heap.objs.size)
  (ha:s.heap.objs.size<=a)(hd:s.heap.objs.size<=d)(hn:(∀l p,Z l=some p->Z.Rb U.fr (a,d) l=some p)->Imm s.heap s'.heap->qE C (Z.Rb U.fr (a,d)) s'.heap a d o)
  (hg:s'.gens=s.gens)(ho:s'.os=s.os):zV C X Z U s (Z.Rb U.fr (a,d)) (U.new o) s':=
 (zV.R9 R hk hs hg ho).adopt ha hd (alJ R.size ha) (alJ R.size hd) (R.QX ha) (R.QX hd) λe=>hn e (Imm.of_keeps hk)
theorem vB{o:Obj}{es n}(h:o.data= .dict es n):¬u3 o:=λs=>s.elim (λ⟨_,_,_,q⟩=>nomatch h.symm.trans q) λ⟨_,_,q⟩=>nomatch h.symm.trans q
theorem dO{o:Obj}{v}(h:o.data= .cell v):¬u3 o:=λs=>s.elim (λ⟨_,_,_,q⟩=>nomatch h.symm.trans q) λ⟨_,_,q⟩=>nomatch h.symm.trans q
structure jP(env:PySem.Env)(N:z7)(gl:List Str):Prop where
 kind:env.scope.kind= .function
 RZ:env.globals=mainGlobals
 bl:env.builtins=builtinsNs
 c:∀x i,(x,.local,i)∈N->env.kindOf x=some .local
 cel:∀x k i,(x,k,i)∈N->k≠ .local->env.kindOf x=some .cell\/(env.kindOf x=some .free/\(x==("__classdict__":Str))=false)
 Sb:∀x,x∈gl->env.kindOf x=some .globalImplicit
 apart:∀x y c,env.cells.lookup x=some c->env.cells.lookup y=some c->x=y
 names:(N.map (·.1)).Nodup
 slots:(N.map (·.2.2)).Nodup
def bX(C:Cx)(Z:Emb)(h:Heap)(Y:Env)(i:Nat)(o:Option Value):Prop:=∀v,Y[i]?=some (some v)->∃y,o=some y/\zS C Z h v y
structure FrI(C:Cx)(Z:Emb)(U:St)(h:Heap)(env:PySem.Env)(N:z7)(Y:Env):Prop where
 above:C.h0.objs.size<=env.locals
 ns:∃m,h.Ns env.locals m/\∀x i,(x,.local,i)∈N->bX C Z h Y i (m x)
 RU:¬own Z U env.locals
 low:∀x c,env.cells.lookup x=some c->c<h.objs.size
 cells:∀x k i,(x,k,i)∈N->k≠ .local->∃c v₀,env.cells.lookup x=some c/\h.IsCell c v₀/\¬own Z U c/\C.h0.get? c=none/\c≠env.locals/\bX C Z h Y i v₀
theorem bX.keeps{C:Cx}{Z Z':Emb}{h h':Heap}{Y:Env}{i:Nat}{o:Option Value}(b:bX C Z h Y i o)(hi:∀l p,Z l=some p->Z' l=some p)(hm:Imm h h'):bX C Z' h' Y i o:=λv hv=>(b v hv).imp λJ q=>⟨q.1,q.2.keeps hi hm⟩
theorem FrI.lt{C:Cx}{Z U h env N Y}(F:FrI C Z U h env N Y):env.locals<h.objs.size:=F.ns.elim λJ h=>h.1.lt
theorem FrI.h0{C:Cx}{Z U h env N Y}(F:FrI C Z U h env N Y):C.h0.get? env.locals=none:=Cx.QJ F.above
theorem FrI.step{C:Cx}{X:Addr->Prop}{Z U s Z' U' s' env N Y}(F:FrI C Z U s.heap env N Y)(S:zV C X Z U s Z' U' s')(hX:∀a,X a->a≠env.locals/\∀x c,env.cells.lookup x=some c->a≠c):FrI C Z' U' s'.heap env N Y where
 above:=F.above
 ns:=F.ns.imp λm h=>⟨h.1.imp λJ ⟨es,ep,ho,q⟩=>⟨es,ep,S.keep _ _ ho F.RU (λq=>(hX _ q).1 rfl),q⟩,λx i hx=>(h.2 x i hx).keeps S.ext S.QH⟩
 RU:=λq=>(S.QY _ q).elim F.RU λq=>absurd F.lt (Nat.not_lt.mpr q)
 low:=λx c hc=>Nat.lt_of_lt_of_le (F.low x c hc) S.size
 cells:=λx k i hx hk=>(F.cells x k i hx hk).imp λc=>Exists.imp λJ h=>⟨h.1,h.2.1.imp λJ q=>⟨S.keep _ _ q.1 h.2.2.1 (λq=>(hX _ q).2 x c h.1 rfl),q.2⟩,
  λq=>(S.QY _ q).elim h.2.2.1 λq=>absurd (F.low x c h.1) (Nat.not_lt.mpr q),h.2.2.2.1,h.2.2.2.2.1,h.2.2.2.2.2.keeps S.ext S.QH⟩
def Nil:Addr->Prop:=λJ=>False
theorem FrI.Q5{C:Cx}{Z U s Z' U' s' env N Y}(F:FrI C Z U s.heap env N Y)(S:zV C Nil Z U s Z' U' s'):FrI C Z' U' s'.heap env N Y:=F.step S λJ q=>q.elim
def Own(env:PySem.Env):Addr->Prop:=λa=>a=env.locals\/∃x,env.cells.lookup x=some a
theorem g9{α β:Type}{f:α->β}{l:List α}(h:(l.map f).Nodup){a b:α}(ha:a∈l)(hb:b∈l)(e:f a=f b):a=b:=by
 induction l with
 |nil=>exact nomatch ha
 |cons p r ih=>
  have h:=List.nodup_cons.mp h
  refine(alC ha).elim (λq=>(alC hb).elim (λq'=>q.trans q'.symm) λq'=> ?_) λq=>(alC hb).elim (λq'=> ?_) (ih h.2 q)
  ·exact absurd (List.mem_map.mpr ⟨b,q',e.symm.trans (alQ f q)⟩) h.1
  ·exact absurd (List.mem_map.mpr ⟨a,q,e.trans (alQ f q')⟩) h.1
theorem pS{N:z7}(h:(N.map (·.1)).Nodup){x k i k' i'}(a:(x,k,i)∈N)(b:(x,k',i')∈N):k=k'/\i=i':=Prod.mk.inj (Prod.mk.inj (g9 h a b rfl)).2
theorem bG{N:z7}(h:(N.map (·.2.2)).Nodup){x k i x' k'}(a:(x,k,i)∈N)(b:(x',k',i)∈N):x=x'/\k=k':=(Prod.mk.inj (g9 h a b rfl)).imp id λq=>(Prod.mk.inj q).1
section
variable{C:Cx}{A:Around}{s:Shared}{Z:Emb}{U:St}{env:PySem.Env}{N:z7}{gl:List Str}{Y:Env}{E:Value->Shared->Prop}
theorem yH{x:Str}{k:NameKind}{i:Nat}{v:V}{Q:Value->Shared->Prop}(O:jP env N gl)(F:FrI C Z U s.heap env N Y)(hx:(x,k,i)∈N)(hv:Y[i]?=some (some v))
  (h:∀y,zS C Z s.heap v y->Q y s):wpAny (model C.prog C.w) A (loadName env x) Q E s:=by
 by_cases hk:k= .local
 ·subst hk
  refine xEA F.ns λm hn hm=> ?_
  refine xEA (hm x i hx v hv) λy e r=> ?_
  exact wpAny_loadName_local O.kind (O.c x i hx) hn e (h y r)
 ·refine yW (F.cells x k i hx hk) λc v₀ h1 h2 z=> ?_
  refine xEA (z.2.2.2 v hv) λy e r=> ?_
  have h2:=e▸h2
  exact(O.cel x k i hx hk).elim (λq=>wpAny_loadName_cell O.kind q h1 h2 (h y r)) λq=>wpAny_loadName_free O.kind q.1 h1 h2 (h y r) q.2
theorem AY{Y:Env}{i j:Nat}{v:V}{u:V}(h:(Y.set i (some v))[j]?=some (some u)):(i=j/\u=v)\/(i≠j/\Y[j]?=some (some u)):=by
 by_cases e:i=j
 ·subst e
  rw[List.getElem?_set_self'] at h
  refine xEA (alD h) λJ J q=> ?_
  exact .inl ⟨rfl,(alS q).symm⟩
 ·exact .inr ⟨e,List.getElem?_set_ne e▸h⟩
theorem bX.Rb{h:Heap}{j i:Nat}{v:V}{o o':Option Value}{y:Value}(b:bX C Z h Y j o)(r:zS C Z h v y)(h1:i=j->o'=some y)(h2:i≠j->o'=o):bX C Z h (Y.set i (some v)) j o':=λJ hu=>
 (AY hu).elim (λq=>⟨y,h1 q.1,q.2▸r⟩) λq=>h2 q.1▸b _ q.2
theorem FrI.Rb{x:Str}{k:NameKind}{i:Nat}{v:V}{y:Value}{X:Addr->Prop}{s':Shared}(O:jP env N gl)(F:FrI C Z U s.heap env N Y)(hx:(x,k,i)∈N)(S:zV C X Z U s Z U s')(hv:zS C Z s.heap v y)
  {m m':Str->Option Value}(hb:∀x i,(x,.local,i)∈N->bX C Z s.heap Y i (m x))(hn':s'.heap.Ns env.locals m')(h1:k= .local->m' x=some y)(h2:∀z,z≠x->m' z=m z)
  (hc:∀z c v₀,z=x/\k≠ .local\/z≠x->env.cells.lookup z=some c->s.heap.IsCell c v₀->c≠env.locals->∃v₁,s'.heap.IsCell c v₁/\(z=x->v₁=some y)/\(z≠x->v₁=v₀)):FrI C Z U s'.heap env N (Y.set i (some v)):=by
 have r:=hv.keeps (λJ J e=>e) S.QH
 have out:∀{z k' j},(z,k',j)∈N->i≠j->z≠x:=λhz q e=>q (pS O.names hx (e▸hz)).2
 refine⟨F.above,?_,F.RU,λx c hc=>Nat.lt_of_lt_of_le (F.low x c hc) S.size,λz k' j hz hk=> ?_⟩
 ·refine⟨m',hn',λz j hz=>((hb z j hz).keeps (λJ J e=>e) S.QH).Rb r (λq=> ?_) λq=>h2 z (out hz q)⟩
  have e:=bG O.slots hx (q▸hz)
  exact e.1▸h1 e.2
 ·refine eX (F.cells z k' j hz hk) λc v₀ h1 h2 h3 h4 h5 h6=> ?_
  have kx:z=x->k≠ .local:=λe q=>hk ((pS O.names (e▸hz) hx).1.trans q)
  refine eO (hc z c v₀ ((Classical.em (z=x)).imp (λe=>⟨e,kx e⟩) id) h1 h2 h5) λv₁ g1 g2 g3=> ?_
  exact⟨c,v₁,h1,g1,h3,h4,h5,(h6.keeps (λJ J e=>e) S.QH).Rb r (λq=>g2 (bG O.slots hx (q▸hz)).1.symm) λq=>g3 (out hz q)⟩
theorem q7{x:Str}{i:Nat}{v:V}{y:Value}{Q:Unit->Shared->Prop}(O:jP env N gl)(R:Rel C Z U s.heap)(F:FrI C Z U s.heap env N Y)(hx:(x,.local,i)∈N)(hv:zS C Z s.heap v y)
  (h:∀s',zV C (λa=>a=env.locals) Z U s Z U s'->FrI C Z U s'.heap env N (Y.set i (some v))->Heap.SameBut env.locals s.heap s'.heap->Q () s'):wpAny (model C.prog C.w) A (storeName env x y) Q E s:=by
 refine xEA F.ns λm hn hb=> ?_
 refine wpAny_storeName_local (O.c x i hx) hn (λh' hn' hs'=> ?_) (by rw[O.kind];rfl)
 have S:zV C (λa=>a=env.locals) Z U s Z U {s with heap:=h',toks:=s.toks+1}:=zV.other (L:=env.locals) R hs' F.RU rfl F.h0
  (λo ho=>by refine oN hn λo' J J ho' hd J=> ?_;exact vB (alS (ho.symm.trans ho')▸hd)) rfl rfl
 exact h _ S (F.Rb O hx S hv hb hn' (λJ=>if_pos rfl) (λz hz=>if_neg hz) λz c v₀ q h1 h2 h5=>⟨v₀,h2.sameBut hs' h5,λe=>q.elim (λq=>absurd rfl q.2) λq=>absurd e q,λJ=>rfl⟩) hs'
theorem yJ{x:Str}{k:NameKind}{i:Nat}{v:V}{y:Value}{Q:Unit->Shared->Prop}(O:jP env N gl)(R:Rel C Z U s.heap)(F:FrI C Z U s.heap env N Y)(hx:(x,k,i)∈N)(hv:zS C Z s.heap v y)
  (h:∀s',zV C (Own env) Z U s Z U s'->FrI C Z U s'.heap env N (Y.set i (some v))->Q () s'):wpAny (model C.prog C.w) A (storeName env x y) Q E s:=by
 by_cases hk:k= .local
 ·subst hk
  exact q7 O R F hx hv λs' S F' J=>h s' (S.Q7 λJ e=> .inl (.inl e)) F'
 ·refine eX (F.cells x k i hx hk) λc v₀ h1 h2 h3 h4 h5 J=> ?_
  refine xEA F.ns λm hm hb=> ?_
  have key:∀h',h'.IsCell c (some y)->Heap.SameBut c s.heap h'->Q () {s with heap:=h'}:=λh' hc' hs'=>by
   have S:zV C (Own env) Z U s Z U {s with heap:=h'}:=zV.other (L:=c) R hs' h3 (.inr ⟨x,h1⟩) h4
    (λo ho=>by obtain⟨o',ho',hd⟩:=h2;exact dO (alS (ho.symm.trans ho')▸hd)) rfl rfl
   refine h _ S (F.Rb O hx S hv hb (hm.sameBut hs' (Ne.symm h5)) (λq=>absurd q hk) (λJ J=>rfl) λz c' v' J g1 g2 J=> ?_)
   by_cases e:z=x
   ·exact⟨some y,alS ((e▸g1).symm.trans h1)▸hc',λJ=>rfl,λq=>absurd e q⟩
   ·exact⟨v',g2.sameBut hs' λq=>e (O.apart z x c (q▸g1) h1),λq=>absurd q e,λJ=>rfl⟩
  unfold storeName
  refine(O.cel x k i hx hk).elim (λq=> ?_) λq=> ?_
  ·rw[q,O.kind];exact wpAny_bind (wpAny_cellOf h1 (wpAny_cellSet h2 key))
  ·rw[q.1,O.kind];exact wpAny_bind (wpAny_cellOf h1 (wpAny_cellSet h2 key))
end
end
section
open PySem
open PySem.Sem (wp)
noncomputable def iZ(self:Value)(x:Code×Pos):Bool:=match Builtin.Bytes.exported self with
 | .stack k=>(match k [x] with| .pure b=>b|_=>true)
 |_=>true
def okC(x:Code×Pos):Prop:=∀self,iZ self x=false
def AE(Γ:Ctx):Prop:=∀x∈Γ.below,okC x
def AA(Γ:Ctx):Prop:=(∀p,okC (Γ.code,p))/\AE Γ
def wpC{α:Type}(M:Model)(A:Around)(t:Sem α)(Q:α->Shared->Prop)(E:Value->Shared->Prop)(s:Shared):Prop:=
 ∀Γ p,Γ.In A->AA Γ->wp M Γ t (λa J s'=>Q a s') (λe J s'=>E e s') p s
def jK(M:Model)(A:Around)(c:Code)(R:Result->Shared->Prop)(s:Shared):Prop:=
 ∀Γ p,Γ.code=c->Γ.Below A->AE Γ->wpCode M Γ R p s
section
variable{α β:Type}{M:Model}{A:Around}{E:Value->Shared->Prop}{s:Shared}
theorem j4{t t':Sem α}{Q:α->Shared->Prop}(e:t=t')(h:wpAny M A t' Q E s):wpAny M A t Q E s:=e▸h
theorem cI{t t':Sem α}{Q:α->Shared->Prop}(e:t=t')(h:wpC M A t' Q E s):wpC M A t Q E s:=e▸h
theorem zL{t:Sem α}{Q:α->Shared->Prop}(h:wpAny M A t Q E s):wpC M A t Q E s:=λΓ p hΓ J=>h Γ p hΓ
theorem zD{a:α}{Q:α->Shared->Prop}(h:Q a s):wpC M A (pure a) Q E s:=zL (wpAny_pure h)
theorem u2{t:Sem α}{Q Q':α->Shared->Prop}{E':Value->Shared->Prop}(h:wpC M A t Q E s)(hQ:∀a s,Q a s->Q' a s)(hE:∀e s,E e s->E' e s):wpC M A t Q' E' s:=
 λΓ p hΓ hc=>Sem.wp_mono M Γ t (λa J s=>hQ a s) (λe J s=>hE e s) p s (h Γ p hΓ hc)
theorem zX{t:Sem α}{Q Q':α->Shared->Prop}(h:wpC M A t Q E s)(hQ:∀a s,Q a s->Q' a s):wpC M A t Q' E s:=u2 h hQ λJ J x=>x
theorem zA{m:Sem α}{f:α->Sem β}{Q:β->Shared->Prop}(h:wpC M A m (λa s'=>wpC M A (f a) Q E s') E s):wpC M A (m>>=f) Q E s:=λΓ p hΓ hc=>by
 rw[Sem.wp_bind']
 exact Sem.wp_mono M Γ m (λa p' s' h'=>h' Γ p' hΓ hc) (λJ J J h'=>h') p s (h Γ p hΓ hc)
theorem zM{m:Sem α}{f:α->Sem β}{Q:β->Shared->Prop}(h:wpAny M A m (λa s'=>wpC M A (f a) Q E s') E s):wpC M A (m>>=f) Q E s:=zA (zL h)
theorem zF{vs:List Value}{m:Sem α}{Q:α->Shared->Prop}(h:wpC M A m Q E s):wpC M A (holding vs m) Q E s:=λΓ p hΓ hc=>by
 rw[Sem.wp_holding];exact h Γ p hΓ hc
theorem vR{vs:List Value}{m:Sem Value}{Q:Value->Shared->Prop}(h:wpC M A m Q E s):wpC M A (operate vs m) Q E s:=λΓ p hΓ hc=>by
 rw[Sem.wp_operate];exact h Γ p hΓ hc
theorem mZ{pos:Pos}{Q:Unit->Shared->Prop}(h:Q () s):wpC M A (standAt pos) Q E s:=zL (wpAny_standAt h)
theorem z6{pos:Pos}{f:Unit->Sem β}{Q:β->Shared->Prop}(h:wpC M A (f ()) Q E s):wpC M A (standAt pos>>=f) Q E s:=zA (mZ h)
theorem nR{m:Sem α}{k:Value->Sem Unit}{Q:α->Shared->Prop}(h:wpC M A m Q (λe s'=>wpC M A (k e) (λJ s''=>E e s'') E s') s):wpC M A (m.onRaise k) Q E s:=λΓ p hΓ hc=>by
 rw[Sem.wp_onRaise]
 exact Sem.wp_mono M Γ m (λJ J J h'=>h') (λe p' s' h'=>h' Γ p' hΓ hc) p s (h Γ p hΓ hc)
theorem aB{c:Code}{R R':Result->Shared->Prop}(h:jK M A c R s)(hR:∀r s,R r s->R' r s):jK M A c R' s:=
 λΓ p hc hΓ hcl=>wpCode_mono hR (h Γ p hc hΓ hcl)
theorem iP{Γ:Ctx}(h:AA Γ)(p:Pos):∀x∈(Γ.code,p)::Γ.below,okC x:=λx hx=>(alC hx).elim (λe=>e▸h.1 p) (h.2 x)
theorem c4{Γ:Ctx}(h:AA Γ)(c:Code)(hd:Option Value)(p:Pos):AE (Γ.enter c hd p):=iP h p
theorem Ae{c:Code}{h:Option Value}{Q:Flow->Shared->Prop}
  (hc:jK M (A.mark h) c (λr s'=>match r with| .ok f=>Q f s'| .error e=>E e s') s)(hnb:h≠some byPass):wpC M A (run c h) Q E s:=
 λΓ p hΓ hcl=>by rw[Sem.wp_run];exact hc _ p rfl (hΓ.enter c h p hnb) (c4 hcl c h p)
theorem gY{c:Code}{Q:Value->Shared->Prop}(hc:jK M A c (λr s'=>match r with| .ok (.ret v)=>Q v s'| .ok _=>False| .error e=>E e s') s):
  wpC M A (runValue c) Q E s:=λΓ p hΓ hcl=>by rw[Sem.wp_runValue];exact hc _ p rfl (hΓ.enter c none p (by intro x;cases x)) (c4 hcl c none p)
theorem vP{f:Value}{pos:List Value}{kw:List (Str×Value)}{Q:Value->Shared->Prop}
  (hc:jK M A (.call f ⟨pos,kw⟩) (λr s'=>match r with| .ok (.ret v)=>Q v s'| .ok _=>False| .error e=>E e s') s):wpC M A (call f pos kw) Q E s:=gY hc
theorem zZ{c:Code}{R:Result->Shared->Prop}
  (h:wpC M (A.under c) (M.den c) (λfin s'=>match fin with| .done f=>R (.ok f) s'| .again c'=>c'.quiet=true/\jK M A c' R s') (λe s'=>R (.error e) s') s)(hc:∀p,okC (c,p)):jK M A c R s:=λΓ p hcc hΓ hcl=>by
 rw[wpCode_iff_wp,hcc]
 refine Sem.wp_mono M Γ _ (λfin p' s' h'=> ?_) (λJ J J h'=>h') p s (h Γ p (hcc▸hΓ.in) ⟨by rw[hcc];exact hc,hcl⟩)
 cases fin with
 |done f=>exact h'
 |again c'=>exact⟨h'.1,h'.2 (Γ.goto c') p' rfl (hΓ.goto c') hcl⟩
theorem lD{self:Value}{Q:Bool->Shared->Prop}(h:Q false s):wpC M A (Builtin.Bytes.exported self) Q E s:=λΓ p J hcl=>by
 show Q (((Γ.code,p)::Γ.below).any _) s
 rw[show(((Γ.code,p)::Γ.below).any _)=false from List.any_eq_false.mpr λx hx q=>Bool.false_ne_true ((iP hcl p x hx self).symm.trans (Bool.or_eq_true_iff.mpr (.inl q)))]
 exact h
end
theorem oY(h:Heap)(a:Addr)(f:Obj->Obj):(h.update a f).objs.size=h.objs.size:=(Heap.SameBut.update ..).1
theorem gP{M:Model}{Γ:Ctx}{p:Pos}{t:Sem Fin}{fs:List Frame}{s s':Shared}{e:End}(h:Runs M Γ p t fs s e s'):s.heap.objs.size<=s'.heap.objs.size:=by
 induction h<;>(try simp only[Shared.setGen,Heap.size_push,oY] at*)<;>omega
theorem gU{M:Model}{Γ:Ctx}{p:Pos}{s s':Shared}{r:Result}(h:Returns M Γ p s r s'):s.heap.objs.size<=s'.heap.objs.size:=gP h
theorem rM{M:Model}{Γ:Ctx}{p:Pos}{g:Nat}{r:Resume}{s s':Shared}{res:GenResult}(h:Wakes M Γ p g r s res s'):s.heap.objs.size<=s'.heap.objs.size:=by
 have R:∀{t:Shared} {P:Prop},P/\s'=t->t.heap=s.heap->s.heap.objs.size<=s'.heap.objs.size:=λa b=>Nat.le_of_eq (alQ (λx=>x.objs.size) (b.symm.trans (alQ Shared.heap a.2.symm)))
 have G:∀{Γ' p' t fs},(∃e₁ s₁,Runs M Γ' p' t fs (s.setGen g .running) e₁ s₁/\e₁.quiet=true/\res=e₁.result/\s'=s₁.setGen g e₁.genState)->s.heap.objs.size<=s'.heap.objs.size:=
  λ⟨_,_,hr,_,_,e⟩=>e▸(gP hr:)
 unfold Wakes at h
 cases hg:s.gens[g]? with
 |none=>rw[hg] at h;exact h.elim
 |some gs=>
  rw[hg] at h
  cases gs with
  |fresh c=>
   cases r with
   |send v=>cases v<;>first|exact R h rfl|exact G h
   |throw x=>exact R h rfl
  |suspended=>exact G h
  |_=>exact R h rfl
theorem AI{α:Type}(M:Model)(Γ:Ctx)(n:Nat)(t:Sem α):∀(Q:α->Pos->Shared->Prop) (E:Value->Pos->Shared->Prop) (p:Pos) (s:Shared),n<=s.heap.objs.size->wp M Γ t Q E p s->
  wp M Γ t (λa p' s'=>n<=s'.heap.objs.size/\Q a p' s') (λe p' s'=>n<=s'.heap.objs.size/\E e p' s') p s:=by
 induction t with
 |pure a=>intro Q E p s hn h;exact⟨hn,h⟩
 |raise e=>intro Q E p s hn h;exact⟨hn,h⟩
 |unsupported _=>intro Q E p s _ h;exact h
 |finish _=>intro Q E p s _ h;exact h
 |rule _ k ih=>intro Q E p s hn h;exact ih () Q E p s hn h
 | «at» p' k ih=>intro Q E p s hn h;exact ih () Q E p' s hn h
 |load a _ k ih=>intro Q E p s hn h;refine xEA h λo ho h=> ?_;exact⟨o,ho,ih o Q E p s hn h⟩
 |update a _ f k ih=>intro Q E p s hn h;exact⟨h.1,ih () Q E p _ (by show n<=(s.heap.update a f).objs.size;rw[oY];exact hn) h.2⟩
 |loadIfAlive a k ih=>intro Q E p s hn h;exact ih _ Q E p s hn h
 |point _ k ih=>intro Q E p s hn h;exact ih () Q E p s hn h
 |register _ _=>intro Q E p s _ h;exact h
 |alloc o k ih=>intro Q E p s hn h;exact ih _ Q E p _ (by show n<=(s.heap.push o).objs.size;rw[Heap.size_push];exact Nat.le_succ_of_le hn) h
 |fresh k ih=>intro Q E p s hn h;exact ih _ Q E p _ hn h
 |ask k ih=>intro Q E p s hn h;exact ih _ Q E p s hn h
 |choose src m k ih=>intro Q E p s hn h;exact⟨h.1,ih _ Q E p _ hn h.2⟩
 |os q _ k ih=>intro Q E p s hn h;exact ih _ Q E p _ hn h
 |call c hd _ _ k ih=>intro Q E p s hn h;refine vE h λr s' hr h=> ?_;exact⟨r,s',hr,ih r Q E p s' (alJ hn (gU hr)) h⟩
 |handled own k ih=>intro Q E p s hn h;exact ih _ Q E p s hn h
 |genState g k ih=>intro Q E p s hn h;refine xEA h λst hs h=> ?_;exact⟨st,hs,ih _ Q E p s hn h⟩
 |newGen c k ih=>intro Q E p s hn h;exact ih _ Q E p _ hn h
 |resume g r _ k ih=>intro Q E p s hn h;refine vE h λres s' hw h=> ?_;exact⟨res,s',hw,ih res Q E p s' (alJ hn (rM hw)) h⟩
 |yield _ _ _ _=>intro Q E p s _ h;exact h
 |stack k ih=>intro Q E p s hn h;exact ih _ Q E p s hn h
 |fork _ _=>intro Q E p s _ h;exact h
 |thread k ih=>intro Q E p s hn h;exact ih _ Q E p s hn h
 |await _ _ _ _ _=>intro Q E p s _ h;exact h
section
variable{α:Type}{M:Model}{A:Around}{s:Shared}
theorem aV{t:Sem α}{Q:α->Shared->Prop}{E:Value->Shared->Prop}(h:wpAny M A t (λa s'=>s.heap.objs.size<=s'.heap.objs.size->Q a s') E s):wpAny M A t Q E s:=
 λΓ p hΓ=>Sem.wp_mono M Γ t (λJ J J x=>x.2 x.1) (λJ J J x=>x.2) p s (AI M Γ s.heap.objs.size t _ _ p s (Nat.le_refl _) (h Γ p hΓ))
theorem Js{t:Sem α}{Q:α->Shared->Prop}{E:Value->Shared->Prop}(h:wpC M A t (λa s'=>s.heap.objs.size<=s'.heap.objs.size->Q a s') E s):wpC M A t Q E s:=
 λΓ p hΓ hc=>Sem.wp_mono M Γ t (λJ J J x=>x.2 x.1) (λJ J J x=>x.2) p s (AI M Γ s.heap.objs.size t _ _ p s (Nat.le_refl _) (h Γ p hΓ hc))
end
end
section
open PySem PySem.W PyProof.Rows
noncomputable abbrev Mo(C:Cx):Model:=model C.prog C.w
def kO(n:Nat)(A:Around):Prop:=A.handled=none/\A.guards=some []/\A.depth+8*n+20<=690/\A.units+64*n+300<=9900
abbrev vY(C:Cx)(Z:Emb)(U:St)(s:Shared)(v:V)(U':St)(Q:Value->Shared->Prop):Prop:=
 ∀s' Z' y,zV C Nil Z U s Z' U' s'->zS C Z' s'.heap v y->Q y s'
abbrev Fn(C:Cx)(Z:Emb)(U:St)(s:Shared)(K:V->St->Prop)(Q:Value->Shared->Prop):Prop:=
 ∀v U' s' Z' y,K v U'->zV C Nil Z U s Z' U' s'->zS C Z' s'.heap v y->Q y s'
abbrev NK(C:Cx)(Z:Emb)(U:St)(s:Shared)(K:List V->St->Prop)(Q:List Value->Shared->Prop):Prop:=
 ∀vs U' s' Z' ys,K vs U'->zV C Nil Z U s Z' U' s'->zW C Z' s'.heap vs ys->Q ys s'
abbrev FC(C:Cx)(Z:Emb)(U:St)(s:Shared)(K:V->St->Prop)(Q:Bool->Shared->Prop):Prop:=
 ∀v U' s' Z',K v U'->zV C Nil Z U s Z' U' s'->∃b,tr v=some b/\Q b s'
theorem aft{C:Cx}{Z Z':Emb}{U U1 U':St}{s s':Shared}{v v':V}{y:Value}{Q:Value->Shared->Prop}(q:vY C Z U s v' U' Q)(h:some (v,U1)=some (v',U'))(S:zV C Nil Z U s Z' U1 s')(r:zS C Z' s'.heap v y):Q y s':=by
 revert q;apply fE h;exactλq=>q _ _ _ S r
abbrev FnK:=Env->St->Cp V
def SE(C:Cx)(n:Nat)(env:PySem.Env)(N:z7)(t:Sem Value)(f:FnK):Prop:=
 ∀{A:Around} {s:Shared} {Z:Emb} {U:St} {Y:Env} {K:V->St->Prop} {Q:Value->Shared->Prop} {E:Value->Shared->Prop},
  kO n A->Rel C Z U s.heap->FrI C Z U s.heap env N Y->f Y U K->Fn C Z U s K Q->wpC (Mo C) A t Q E s
def ST(C:Cx)(n:Nat)(env:PySem.Env)(N:z7)(t:Sem Bool)(f:FnK):Prop:=
 ∀{A:Around} {s:Shared} {Z:Emb} {U:St} {Y:Env} {K:V->St->Prop} {Q:Bool->Shared->Prop} {E:Value->Shared->Prop},
  kO n A->Rel C Z U s.heap->FrI C Z U s.heap env N Y->f Y U K->FC C Z U s K Q->wpC (Mo C) A t Q E s
def SEs(C:Cx)(n:Nat)(env:PySem.Env)(N:z7)(t:Sem (List Value))(f:Env->St->Cp (List V)):Prop:=
 ∀{A:Around} {s:Shared} {Z:Emb} {U:St} {Y:Env} {K:List V->St->Prop} {Q:List Value->Shared->Prop} {E:Value->Shared->Prop},
  kO n A->Rel C Z U s.heap->FrI C Z U s.heap env N Y->f Y U K->NK C Z U s K Q->wpC (Mo C) A t Q E s
def SF(C:Cx)(n:Nat)(Φ:Orc):Prop:=
 ∀{a:Nat} {vs:List V} {xs:List Value} {A:Around} {s:Shared} {Z:Emb} {U:St} {K:V->St->Prop} {R:Result->Shared->Prop},
  kO n A->Rel C Z U s.heap->zW C Z s.heap vs xs->Φ a vs U K->(∀v U' s' Z' y,K v U'->zV C Nil Z U s Z' U' s'->zS C Z' s'.heap v y->R (.ok (.ret y)) s')->
  keepIn C.K (.ref a)=true/\jK (Mo C) A (.call (.ref a) ⟨xs,[]⟩) R s
section
variable{C:Cx}{n:Nat}{env:PySem.Env}{N:z7}{gl:List Str}{A:Around}{s:Shared}{Z:Emb}{U:St}{E:Value->Shared->Prop}
theorem jL{X:Addr->Prop}{t:Nat}(R:Rel C Z U s.heap):zV C X Z U s Z U {s with toks:=t}:=zV.R9 R (λJ J e=>e) (Nat.le_refl _) rfl rfl
theorem Fn.at{K:V->St->Prop}{Q:Value->Shared->Prop}{U':St}{v:V}{s1:Shared}{Z1:Emb}{U1:St}(q:Fn C Z U s K Q)(h:K v U')(S:zV C Nil Z U s Z1 U1 s1):vY C Z1 U1 s1 v U' Q:=λJ J J S' r=>q _ _ _ _ _ h (S.trans S') r
theorem Fn.go{Z1:Emb}{U1:St}{s1:Shared}{K:V->St->Prop}{Q:Value->Shared->Prop}(q:Fn C Z U s K Q)(S:zV C Nil Z U s Z1 U1 s1):Fn C Z1 U1 s1 K Q:=λJ J J J J h S' r=>q _ _ _ _ _ h (S.trans S') r
theorem FC.go{Z1:Emb}{U1:St}{s1:Shared}{K:V->St->Prop}{Q:Bool->Shared->Prop}(q:FC C Z U s K Q)(S:zV C Nil Z U s Z1 U1 s1):FC C Z1 U1 s1 K Q:=λJ J J J h S'=>q _ _ _ _ h (S.trans S')
theorem FC.have{K:V->St->Prop}{Q:Bool->Shared->Prop}(q:FC C Z U s K Q){Z1:Emb}{U1:St}{s1:Shared}{v:V}{b:Bool}(h:K v U1)(S:zV C Nil Z U s Z1 U1 s1)(hb:tr v=some b):Q b s1:=(q _ _ _ _ h S).elim λJ z=>alS (z.1.symm.trans hb)▸z.2
theorem cU{v:V}{x:Value}{b:Bool}{Q:Bool->Shared->Prop}(R:Rel C Z U s.heap)(hv:zS C Z s.heap v x)(h:tr v=some b)(q:Q b s):wpAny (Mo C) A (truthy x) Q E s:=by
 have r:=hv.Rq
 cases v with
 |none=>have r:x= .none:=r;rw[r];exact wpAny_pure (by rw[alS h];exact q)
 |bool c=>have r:x= .bool c:=r;rw[r];exact wpAny_truthy_bool (alS h▸q)
 |int i=>apply hv.QP;exactλt=>PyProof.Rows.truthy_int (alS h▸q)
 |_=>exact zG h
theorem eA{t:Sem Value}{u:V}(k:∀{A:Around} {s:Shared} {Z:Emb} {U:St} {Q:Value->Shared->Prop} {E:Value->Shared->Prop},Rel C Z U s.heap->vY C Z U s u U Q->wpC (Mo C) A t Q E s):SE C n env N t (λJ U K=>K u U):=
 λJ R J h q=>k R λJ J J S r=>q _ _ _ _ _ h S r
theorem b5{i:Int}{k pos}:SE C n env N (eval (.Constant (.int i) k pos) env) (λJ U K=>K (.int i) U):=eA λR q=>zL (wpAny_Constant_int (q _ _ _ (jL R) (.int _ _)))
theorem oA{t:Sem Value}(e:t=pure .none):SE C n env N t (λJ U K=>K .none U):=e▸eA λR q=>zD (q _ _ _ (zV.refl R) .none)
theorem dC{T:bD}{x:Str}{i:Nat}(hi:eE T x=some i):T.j[i]?=some x:=by
 refine xEA (List.findIdx?_eq_some_iff_getElem.mp hi) λh1 h2 J=> ?_
 exact(List.getElem?_eq_getElem h1).trans (alQ some (eq_of_beq h2))
theorem DB{c:Const}{v:V}{k pos}(h:ED C.T c=some v):SE C n env N (eval (.Constant c k pos) env) (λJ U K=>K v U):=by
 cases c with
 |none=>exact alS h▸oA rfl
 |bool b=>exact alS h▸eA λR q=>zD (q _ _ _ (zV.refl R) (.bool b))
 |int i=>exact alS h▸b5
 |str x=>
  refine xEA (alD h) λi hi e=> ?_
  exact e▸eA λR q=>zL (wpAny_mkText (q _ _ _ (jL R) (.str _ (dC hi))))
 |bytes b=>exact alS h▸eA λR q=>zL (wpAny_bind (wpAny_fresh (wpAny_pure (q _ _ _ (jL R) (.bytes _ rfl)))))
 |_=>exact zG h
theorem fU{x:Str}{pos:Pos}{k:NameKind}{i:Nat}(O:jP env N gl)(hx:(x,k,i)∈N)(hd:(x==("__debug__":Str))=false):
  SE C n env N (eval (.Name x pos) env) (λY U K=>wR (kP Y i) (K4 K U)):=
 λJ R F h q=>zQ h λJ hu h=>zL (wpAny_Name (yH O F hx (uY hu) λJ r=>q _ _ _ _ _ h (zV.refl R) r) hd)
def j9(C:Cx):Prop:=C.T.j.Nodup/\∀x∈C.T.j,PyData.strOk x=true
def DT(C:Cx):Prop:=∀x v,(C.T.QV.find? λy=>y.1==x).map (·.2)=some v->(x==("__classdict__":Str))=false/\
 ∃y,(C.mg x=some y\/(C.mg x=none/\C.mb x=some y))/\∀Z h,(∀b o,C.h0.get? b=some o->h.get? b=some o)->zS C Z h v y
noncomputable def Bv(K:Frag)(cl:Addr)(x:Str):Bool:=
 plainGet K cl x&&hasDictIn K cl&&plainOver K cl&&findIn K (.ref cl) "__setattr__"==some (some (.builtin "object.__setattr__"))&&takerIn K cl x==some none&&
  (match findIn K (.ref cl) x with|some Qy=>noGet K Qy|none=>false)
structure y9(C:Cx):Prop where
 attrs:∀cl∈C.cls,∀x∈C.T.j,Bv C.K cl x=true
 KX:C.K.In C.h0
 g:C.h0.Ns mainGlobals C.mg
 b:C.h0.Ns builtinsNs C.mb
 nolimit:C.h0.NoLimit
 globs:DT C
 j:j9 C
 sysm:sysModules<C.h0.objs.size
theorem AV{x:Str}{y:Value}{Q:Value->Shared->Prop}(O:jP env N gl)(hx:x∈gl)(X:y9 C)(k:∀b o,C.h0.get? b=some o->s.heap.get? b=some o)(hy:C.mg x=some y\/(C.mg x=none/\C.mb x=some y))(q:Q y s):wpAny (Mo C) A (loadName env x) Q E s:=by
 unfold loadName
 rw[Env.blockKind,O.kind,O.Sb x hx]
 show wpAny (Mo C) A (loadGlobal env x) Q E s
 unfold loadGlobal
 rw[O.RZ,O.bl]
 refine wpAny_bind (wpAny_nsGet (X.g.keeps k) ?_)
 refine hy.elim (λe=> ?_) λe=> ?_
 ·rw[e];exact wpAny_pure q
 ·rw[e.1]
  show wpAny (Mo C) A (nsGet builtinsNs x>>=_) Q E s
  refine wpAny_bind (wpAny_nsGet (X.b.keeps k) ?_)
  rw[e.2];exact wpAny_pure q
theorem cQ{x:Str}{pos:Pos}{v:V}(X:y9 C)(O:jP env N gl)(hx:x∈gl)(hv:(C.T.QV.find? λy=>y.1==x).map (·.2)=some v)(hd:(x==("__debug__":Str))=false):
  SE C n env N (eval (.Name x pos) env) (λJ U K=>K v U):=by
 refine Ed (X.globs x v hv) λJ y hy hr=> ?_
 exact eA λR q=>zL (wpAny_Name (AV O hx X R.keep hy (q _ _ _ (zV.refl R) (hr _ _ R.keep))) hd)
end
section
variable{C:Cx}{n:Nat}{A:Around}{s:Shared}{Z:Emb}{U:St}{E:Value->Shared->Prop}
theorem q4{X:Addr->Prop}{t:Nat}(o:Obj)(R:Rel C Z U s.heap):zV C X Z U s Z U {s with heap:=s.heap.push o,toks:=t}:=
 zV.R9 R (λJ J e=>Heap.get?_push_of_some _ e) (by rw[Heap.size_push];exact Nat.le_succ _) rfl rfl
theorem l7{vs:List V}{xs:List Value}{Q:Value->Shared->Prop}(R:Rel C Z U s.heap)(hv:zW C Z s.heap vs xs)(hz:vs.length<1000)(q:vY C Z U s (.Q1 vs) U Q):wpAny (Mo C) A (newTuple xs) Q E s:=by
 have S:zV C Nil Z U s Z U {s with heap:=s.heap.push {cls:= .type "tuple",data:= .seq xs.toArray}}:=q4 _ R
 refine wpAny_newObj_type (q _ _ _ S (.Q1 (xs:=xs.toArray) (IsTup.new _ _) ?_)) ?_
 ·exact hv.keeps S.ext S.QH
 ·show xs.toArray.size<=sizeLine
  rw[List.size_toArray,<-hv.length,sizeLine_eq];omega
theorem kK{X:Addr->Prop}{t:Nat}{vs:List V}{xs:Array Value}{k:Nat}(R:Rel C Z U s.heap)(hv:zW C Z s.heap vs xs.toList):
  zV C X Z U s (Z.Rb U.fr (s.heap.objs.size,s.heap.objs.size)) (U.new (.list vs)) {s with heap:=s.heap.push (PySem.W.listOf xs k),toks:=t}:=
 zV.new R (λJ J e=>Heap.get?_push_of_some _ e) (by rw[Heap.size_push];exact Nat.le_succ _) (Nat.le_refl _) (Nat.le_refl _)
  (λext QH=>⟨rfl,_,_,Heap.get?_push_size _ rfl,hv.keeps ext QH⟩) rfl rfl
theorem yG{l:Loc}{p:Addr×Addr}:Z.Rb l p l=some p:=q6
theorem sD{vs:List V}{xs:List Value}{Q:Value->Shared->Prop}(R:Rel C Z U s.heap)(hv:zW C Z s.heap vs xs)(hz:vs.length<1000)(q:vY C Z U s (.c U.fr) (U.new (.list vs)) Q):
  wpAny (Mo C) A (newList xs) Q E s:=by
 refine wpAny_newObj_type (q _ _ _ (kK (t:=s.toks) (xs:=xs.toArray) R hv) (.c yG)) ?_
 show xs.toArray.size<=sizeLine
 rw[List.size_toArray,<-hv.length,sizeLine_eq];omega
theorem G6{x:Int}(h:x.natAbs<2 ^ 62):Builtin.Int.intBits x<=64:=intBits_le_64 (by omega) (by omega)
theorem qE.of{l:Loc}{o:zU}{p:Addr×Addr}(R:Rel C Z U s.heap)(h:U.get l=some o)(hi:Z l=some p):qE C Z s.heap p.1 p.2 o:=(R.QW h hi).obj
theorem yE{l:Loc}{vs:List V}{p:Addr×Addr}(R:Rel C Z U s.heap)(h:U.get l=some (.list vs))(hi:Z l=some p):
  ∃xs n,s.heap.get? p.1=some (PySem.W.listOf xs n)/\zW C Z s.heap vs xs.toList:=(qE.of R h hi).2
theorem yL{h:Heap}{a:Addr}{xs:Array Value}{n:Nat}(e:h.get? a=some (PySem.W.listOf xs n)):h.IsList a xs:=⟨_,e,rfl,_,rfl⟩
theorem Aw(x:Value)(k:Nat):∀acc:Array Value,((List.replicate k (#[x]:Array Value)).foldl (· ++ ·) acc).toList=acc.toList++List.replicate k x:=by
 induction k with
 |zero=>exactλacc=>(List.append_nil _).symm
 |succ k ih=>exactλacc=>(ih (acc++ #[x])).trans (by rw[Array.toList_append];exact List.append_assoc _ _ _)
theorem dY{u:V}{x:Value}(a:zS C Z s.heap u x)(k:Nat):zW C Z s.heap (List.replicate k u) (List.replicate k x):=by
 induction k with
 |zero=>exact .nil
 |succ k ih=>exact .cons a ih
theorem C7{u:V}{l:List Value}(r:zW C Z s.heap [u] l):∃x,l=[x]/\zS C Z s.heap u x:=by
 cases r with|cons a r=>cases r with|nil=>exact⟨_,rfl,a⟩
theorem rX{u:V}{xs:Array Value}(hv:zW C Z s.heap [u] xs.toList)(k:Nat):zW C Z s.heap (List.replicate k u) ((List.replicate k xs).foldl (· ++ ·) #[]).toList:=by
 refine xEA (C7 hv) λx e a=> ?_
 rw[show xs= #[x] from Array.toList_inj.mp e,Aw]
 exact dY a k
theorem jX{n:Nat}{m:R V}{r:V×St}{G:Prop}(h:aA n m=some r)(k:n<1000->m=some r->G):G:=zK h k
theorem qC{n:Nat}(h:n<1000):n<=sizeLine:=by rw[sizeLine_eq];omega
theorem Gk{a b v:V}{x y:Value}{U':St}{Q:Value->Shared->Prop}(R:Rel C Z U s.heap)(ha:zS C Z s.heap a x)(hb:zS C Z s.heap b y)
  (h:OT a b U=some (v,U'))(q:vY C Z U s v U' Q):wpAny (Mo C) A (binaryOp .Add x y) Q E s:=by
 refine yN h (λi e h=> ?_) (λu e h=> ?_) (λJ J h=>zG h) (λJ J h=>zG h) λl e h=> ?_
 ·refine zB h λj e' h=> ?_
  apply(e▸ha).QP;intro t
  apply hb.Re e';intro t'
  exact PyProof.Rows.add_int (aft q h (jL R) (.int _ _))
 ·refine zB h λw e' h=>jX h λhz h=> ?_
  apply(e▸ha).Rk;intro arr t z
  apply hb.getBytes e';intro arr' t' z'
  refine KBy.add_bytes ?_ λt' k=>aft q h (jL R) (.bytes _ (by rw[Array.toList_append,List.map_append,z,z']))
  rw[<-z,<-z',alF,alF] at hz
  exact alJ (Nat.le_of_lt hz) (by decide)
 ·refine zB h λm e' h=>zB h λu hu h=>zB h λw hw h=>jX h λhz h=> ?_
  apply(e▸ha).QK;intro p hp
  apply hb.QG e';intro p' hp'
  refine vE (yE R (i8 hu) hp) λxs k h1 h2=> ?_
  refine vE (yE R (i8 hw) hp') λys k' h3 h4=> ?_
  refine P.add_list h1 h3 (aft q h (kK (t:=s.toks) (vs:=u++w) R ?_) (.c yG)) ?_
  ·rw[Array.toList_append];exact h2.append h4
  ·rw[show xs.size=u.length from h2.length.symm,show ys.size=w.length from h4.length.symm];exact qC hz
theorem hN{b:Bool}(h:b=true):¬(!b)=true:=λq=>by rw[h] at q;exact jG q
theorem tM{a:Nat}{n:Int}(h1:n<=1000)(h2:a<=1000):(a:Int)+n<=2 ^ 27:=by omega
theorem Fg{a b v:V}{x y:Value}{U':St}{Q:Value->Shared->Prop}(R:Rel C Z U s.heap)(ha:zS C Z s.heap a x)(hb:zS C Z s.heap b y)
  (h:Ph a b U=some (v,U'))(q:vY C Z U s v U' Q):wpAny (Mo C) A (binaryOp .Mult x y) Q E s:=by
 refine yN h (λi e h=> ?_) (λJ J h=>zG h) (λJ J h=>zG h) (λJ J h=>zG h) λl e h=> ?_
 ·refine zB h λj e' h=>zK h λhz h=> ?_
  apply(e▸ha).QP;intro t
  apply hb.Re e';intro t'
  exact PyProof.Rows.mul_int (aft q h (jL R) (.int _ _)) (IntMulOk.of_right (G6 hz))
 ·refine zB h λi e' h=>zB h λu hu h=>yU h λw ew h=>zK h λhc h=> ?_
  apply(e▸ha).QK;intro p hp
  apply hb.Re e';intro t
  refine vE (yE R (i8 hu) hp) λxs k h1 h2=> ?_
  rw[ew] at h2
  have hc:=alA hc
  have c0:=alH hc.1
  have c1:=alH hc.2
  have hz:xs.size=1:=h2.length.symm
  have he:xs.isEmpty=false:=by rw[Array.isEmpty,hz];rfl
  have i1: -(2 ^ 63:Int)<=i:=by omega
  have i2:i<2 ^ 63:=by omega
  have i3:xs.size*i.toNat<1000:=by rw[hz];omega
  refine wpAny_binaryOp_repeat_ref (T:="list") (U:="int") (by decide) ⟨_,h1,rfl⟩ (λs'=>typeIs_int s' i t) noFill_list_mul F.fills_int_mul F.slot_int_rmul repeat_list F.slot_int_index.lookup
   (call_meets F.slot_int_rmul (typeIs_int s i t) F.entry_int_rmul (F.args_int_rmul_2 _ _) (int___rmul___int_list i t _ xs k)
    ⟨h1,rfl,⟨_,h1,rfl⟩,call_meets F.slot_list_mul ⟨_,h1,rfl⟩ F.entry_list_mul (F.args_list_mul_2 _ _)
     (AutoListH.list___mul___list_int_3 _ xs k i t (hN (alB ⟨alG i1,alG i2⟩)) (Nat.not_lt.mpr (alJ (Nat.le_of_lt i3) (by decide))) (λh=>absurd (alH h) (Nat.not_lt.mpr (qC i3))))
     ⟨h1,aft q h (kK (t:=s.toks) (vs:=List.replicate i.toNat w) R ?_) (.c yG)⟩⟩)
  rw[he]
  exact rX h2 _
theorem tE{y:Int}(h:y.natAbs<2 ^ 29):y.natAbs<2 ^ 30:=Nat.lt_trans h (by decide)
theorem jD4{op:Operator}{a b v:V}{x y:Value}{U':St}{Q:Value->Shared->Prop}(R:Rel C Z U s.heap)(ha:zS C Z s.heap a x)(hb:zS C Z s.heap b y)
  (h:tN op a b U=some (v,U'))(q:vY C Z U s v U' Q):wpAny (Mo C) A (binaryOp op x y) Q E s:=by
 have int:∀{i t},some (V.int i,U)=some (v,U')->Q (.int i t) {s with toks:=s.toks+1}:=λe=>aft q e (jL R) (.int _ _)
 have RB:∀{f:Int->Int->Option (V×St)},lR a b f=some (v,U')->(∀i t j u,f i j=some (v,U')->wpAny (Mo C) A (binaryOp op (.int i t) (.int j u)) Q E s)->wpAny (Mo C) A (binaryOp op x y) Q E s:=λh k=>by
  apply ha.getInts h hb;exact k
 cases op with
 |Add=>exact Gk R ha hb h q
 |Sub=>exact RB h λJ J J J h=>PyProof.Rows.sub_int (int h)
 |Mult=>exact Fg R ha hb h q
 |FloorDiv=>exact RB h λJ J J J h=>kE h λh0 h=>zK h λhs h=>PyProof.Rows.floordiv_int h0 (int h) (.inl (PyProof.noPylong_small (tE hs)))
 |Mod=>exact RB h λJ J J J h=>kE h λh0 h=>PyProof.Rows.mod_int' h0 (int h)
 |LShift=>exact RB h λJ J J J h=>zK h λhc h=>PyProof.Rows.lshift_int hc.1 (tM hc.2.1 hc.2.2) (int h)
 |RShift=>exact RB h λJ J J J h=>zK h λhc h=>PyProof.Rows.rshift_int hc (int h)
 |BitOr=>exact RB h λJ J J J h=>PyProof.Rows.or_int (int h)
 |BitAnd=>exact RB h λJ J J J h=>PyProof.Rows.and_int (int h)
 |_=>exact zG h
end
end
section
open PySem PySem.W PyProof.Rows
open PySem.W (Dat)
noncomputable section
def DQ(C:Cx)(v:V):Dat:=V.rec (motive_1:=λJ=>Dat) (motive_2:=λJ=>List Dat) .none (λJ=> .none) .int (λs=> .str (C.T.j.getD s Str.empty)) (λJ=> .none) (λJ d=> .tuple d) (λJ d=> .list d)
 (λJ=> .none) (λJ=> .none) (λJ=> .none) (λJ=> .none) (λJ=> .none) [] (λJ J d ds=>d::ds) v
def hU(C:Cx)(l:List V):List Dat:=V.rec_1 (motive_1:=λJ=>Dat) (motive_2:=λJ=>List Dat) .none (λJ=> .none) .int (λs=> .str (C.T.j.getD s Str.empty)) (λJ=> .none) (λJ d=> .tuple d) (λJ d=> .list d)
 (λJ=> .none) (λJ=> .none) (λJ=> .none) (λJ=> .none) (λJ=> .none) [] (λJ J d ds=>d::ds) l
mutual
noncomputable def Rc(C:Cx):Dat->V
 | .int i=> .int i
 | .str x=> .str (C.T.j.findIdx λy=>y==x)
 | .tuple l=> .Q1 (Bh C l)
 | .list l=> .QN (Bh C l)
 |_=> .none
noncomputable def Bh(C:Cx):List Dat->List V
 |[]=>[]
 |d::r=>Rc C d::Bh C r
end
abbrev rU(C:Cx)(v:V):PyData:=kqdP (DQ C v)
abbrev fM(C:Cx)(l:List V):List PyData:=kqdPs (hU C l)
end
def dM(C:Cx)(n:Nat)(v:V):Prop:=kqdOk n (DQ C v)=true/\Rc C (DQ C v)=v
def NQ(C:Cx)(n:Nat)(l:List V):Prop:=(hU C l).all (kqdOk n)=true/\Bh C (hU C l)=l
section
variable{C:Cx}{n m:Nat}
theorem Cl{a b:V}(ha:dM C n a)(hb:dM C m b):PyData.eqv (rU C a) (rU C b)=true↔a=b:=
 (kqd_eqv n _ _ m ha.1 hb.1).trans ⟨λe=>ha.2.symm.trans ((alQ (Rc C) e).trans hb.2),λe=>alQ _ e⟩
theorem yQ{a:V}(h:dM C n a):(rU C a).canLay0=true/\(rU C a).depth<=n:=kqd_lay n _ h.1
theorem c8(hn:n<=64){a:V}(h:dM C n a):SeqAt.shaped (rU C a)=true:=alB ⟨(yQ h).1,alG (alJ (yQ h).2 hn)⟩
theorem aY{a b:V}(ha:dM C n a)(hb:dM C m b):PyData.eqv (rU C a) (rU C b)=decide (a=b):=Bool.eq_iff_iff.mpr ((Cl ha hb).trans decide_eq_true_iff.symm)
theorem CH{G:Nat->V->Prop}(k0:∀n,G n .none)(k1:∀n i,G n (.int i))(k2:∀n s,G n (.str s))(k3:∀n l,(∀v∈l,u9 n v=true/\G n v)->G (n+1) (.Q1 l)):∀{n v},u9 n v=true->G n v:=by
 intro n
 induction n with
 |zero=>intro v h;cases v<;>first|exact jG h|exact k0 _|exact k1 _ _|exact k2 _ _
 |succ n ih=>intro v h;cases v<;>first|exact jG h|exact k0 _|exact k1 _ _|exact k2 _ _|exact k3 _ _ λv hv=>⟨alN h v hv,ih (alN h v hv)⟩
theorem vO{G:Nat->V->Prop}(k1:∀n i,G n (.int i))(k2:∀n s,G n (.str s))(k3:∀n l,(∀v∈l,uF n v=true/\G n v)->G (n+1) (.Q1 l)):∀{n v},uF n v=true->G n v:=by
 intro n
 induction n with
 |zero=>intro v h;cases v<;>first|exact jG h|exact k1 _ _|exact k2 _ _
 |succ n ih=>intro v h;cases v<;>first|exact jG h|exact k1 _ _|exact k2 _ _|exact k3 _ _ λv hv=>⟨alN h v hv,ih (alN h v hv)⟩
theorem n8{v:V}:uF n v=true->u9 n v=true:=vO (G:=λn v=>u9 n v=true) (λn J=>by cases n<;>rfl) (λn J=>by cases n<;>rfl) λJ J h=>List.all_eq_true.mpr λv hv=>(h v hv).2
end
section
variable{C:Cx}{Z:Emb}{U:St}{h:Heap}
theorem G9{s:Nat}{x:Str}(e:C.T.j[s]?=some x):s<C.T.j.length:=(List.getElem?_eq_some_iff.mp e).1
theorem bK{s:Nat}{x:Str}(e:C.T.j[s]?=some x):C.T.j.getD s Str.empty=x:=(List.getD_eq_getElem?_getD ..).trans (alQ (Option.getD · _) e)
theorem bI(W:C.T.j.Nodup){s t:Nat}{x:Str}(e:C.T.j[s]?=some x)(e':C.T.j[t]?=some x):s=t:=(List.getElem?_inj (G9 e) W).mp (e.trans e'.symm)
theorem AO(W:j9 C){s:Nat}{x:Str}(e:C.T.j[s]?=some x):C.T.j.findIdx (λy=>y==x)=s:=by
 have hx:=List.mem_of_getElem? e
 have q:C.T.j.findIdx (λy=>y==x)<C.T.j.length:=List.findIdx_lt_length_of_exists ⟨x,hx,beq_self_eq_true x⟩
 exact bI W.1 ((List.getElem?_eq_getElem q).trans (alQ some (eq_of_beq (List.findIdx_getElem (w:=q))))) e
def Rd(C:Cx)(h:Heap)(n:Nat)(x:Value)(v:V):Prop:=dM C n v/\∃as,Reads h x (rU C v) as
theorem xS{n:Nat}:Rd C h n .none .none:=⟨⟨by cases n<;>rfl,rfl⟩,_,Reads.none⟩
theorem Eb{n:Nat}{i:Int}{t:Tok}:Rd C h n (.int i t) (.int i):=⟨⟨by cases n<;>rfl,rfl⟩,_,Reads.int i t⟩
theorem E8(W:j9 C){n s:Nat}{x:Str}{t:Tok}(e:C.T.j[s]?=some x):Rd C h n (.str x t) (.str s):=by
 have g:DQ C (.str s)= .str x:=alQ Dat.str (bK e)
 unfold Rd dM rU
 rw[g]
 exact⟨⟨by cases n<;>exact W.2 x (List.mem_of_getElem? e),alQ V.str (AO W e)⟩,_,Reads.str x t⟩
theorem rds{n:Nat}{xs:List Value}{vs:List V}(r:Al2 (Rd C h n) xs vs):NQ C n vs/\∃as,ReadsAll h xs (fM C vs) as:=by
 induction r with
 |nil=>exact⟨⟨rfl,rfl⟩,_,ReadsAll.nil⟩
 | @cons x v _ vs a _ ih=>
  refine xE a.2 λas q=> ?_
  refine xE ih.2 λbs q'=> ?_
  exact⟨⟨alB ⟨a.1.1,ih.1.1⟩,(alQ (· ::Bh C (hU C vs)) a.1.2).trans (alQ (v:: ·) ih.1.2)⟩,_,ReadsAll.cons q q'⟩
theorem Ep{n:Nat}{a:Addr}{xs:Array Value}{vs:List V}(ht:IsTup h a xs)(r:Al2 (Rd C h n) xs.toList vs):Rd C h (n+1) (.ref a) (.Q1 vs):=by
 refine mV ht λo ho hc k hd=> ?_
 refine xAE (rds r) λg as q=> ?_
 exact⟨⟨g.1,alQ V.Q1 g.2⟩,as,Reads.tuple ho hc hd q⟩
theorem IG{n k:Nat}{a:Addr}{xs:Array Value}{vs:List V}(ho:h.get? a=some (PySem.W.listOf xs k))(r:Al2 (Rd C h n) xs.toList vs):Rd C h (n+1) (.ref a) (.QN vs):=by
 refine xAE (rds r) λg as q=> ?_
 exact⟨⟨g.1,alQ V.QN g.2⟩,_,Reads.list ho rfl rfl q⟩
theorem Al2.join{α β γ:Type}{P:α->β->Prop}{Q:α->γ->Prop}{R:β->γ->Prop}{as:List α}{bs:List β}(h:Al2 P as bs):∀{cs:List γ},Al2 Q as cs->(∀a b c,a∈as->P a b->Q a c->R b c)->Al2 R bs cs:=by
 induction h with
 |nil=>intro cs k _;cases k;exact .nil
 |cons p _ ih=>intro cs k f;cases k with|cons q k=>exact .cons (f _ _ _ (.head _) p q) (ih k λa b c ha=>f a b c (.tail _ ha))
theorem Al2.same{α:Type}{l:List α}{P:α->α->Prop}(h:∀a∈l,P a a):Al2 P l l:=by
 induction l with
 |nil=>exact .nil
 |cons a l ih=>exact .cons (h a (.head _)) (ih λb hb=>h b (.tail _ hb))
theorem vM(W:j9 C){n:Nat}{v:V}{x:Value}(hk:u9 n v=true)(r:zS C Z h v x):Rd C h n x v:=
 CH (G:=λn v=>∀x,zS C Z h v x->Rd C h n x v) (λJ J r=>r.Rq▸xS) (λn i x r=>by apply r.QP;exactλJ=>Eb) (λn s x r=>by apply r.Ry;exactλJ J e=>E8 W e)
  (λn l ih x r=>by apply r.QR;exactλa xs ht r=>Ep ht (r.al.join (Al2.same (P:=λa b=>a=b) λJ J=>rfl) λv x u hv r e=>e▸(ih v hv).2 x r)) hk x r
theorem sM(W:j9 C){n:Nat}{vs:List V}{xs:List Value}(hk:∀v∈vs,u9 n v=true)(r:zW C Z h vs xs):Al2 (Rd C h n) xs vs:=r.al.join (Al2.same (P:=λa b=>a=b) λJ J=>rfl) λv J J hv r e=>e▸vM W (hk v hv) r
theorem aK{α β:Type}{f:α->Option β}{a:α}{l:List α}{r:List β}(e:(a::l).mapM f=some r):∃b r',f a=some b/\l.mapM f=some r'/\r=b::r':=by
 rw[List.mapM_cons] at e
 refine xEA (Option.bind_eq_some_iff.mp e) λb h1 e=> ?_
 refine xEA (Option.bind_eq_some_iff.mp e) λr' h2 e=> ?_
 exact⟨b,r',h1,h2,(alS e).symm⟩
theorem c7{α β:Type}{f:α->Option β}{r:List β}(e:([]:List α).mapM f=some r):r=[]:=(alS e).symm
theorem jF{α β:Type}{f:α->Option β}{l:List α}:∀{r:List β},l.mapM f=some r->Al2 (λa b=>f a=some b) l r:=by
 induction l with
 |nil=>intro r e;exact c7 e▸ .nil
 |cons a l ih=>
  intro r e
  refine yW (aK e) λb r' h1 h2 e=> ?_
  exact e▸ .cons h1 (ih h2)
theorem CY{G:Nat->V->V->Prop}(k0:∀n,G n .none .none)(k1:∀n i,G n (.int i) (.int i))(k2:∀n s,G n (.str s) (.str s))(k3:∀n l ds,Al2 (G n) l ds->G (n+1) (.Q1 l) (.Q1 ds))
  (k4:∀n x l ds,U.get x=some (.list l)->Al2 (G n) l ds->G (n+1) (.c x) (.QN ds)):∀{n v d},dQ U n v=some d->G n v d:=by
 intro n
 induction n with
 |zero=>intro v d h;cases v<;>first|exact zG h|exact alS h▸k0 _|exact alS h▸k1 _ _|exact alS h▸k2 _ _
 |succ n ih=>
  intro v d h;cases v<;>first|exact zG h|exact alS h▸k0 _|exact alS h▸k1 _ _|exact alS h▸k2 _ _|exact zB h λds e h=>alS h▸k3 _ _ _ ((jF e).map λJ J=>ih)|exact zB h λvs g h=>zB h λds e h=>alS h▸k4 _ _ _ _ (i8 g) ((jF e).map λJ J=>ih)
theorem d7(W:j9 C)(R:Rel C Z U h){n:Nat}{v d:V}{x:Value}(e:dQ U n v=some d)(r:zS C Z h v x):Rd C h n x d:=
 CY (G:=λn v d=>∀x,zS C Z h v x->Rd C h n x d) (λJ J r=>r.Rq▸xS) (λn i x r=>by apply r.QP;exactλJ=>Eb) (λn s x r=>by apply r.Ry;exactλJ J e=>E8 W e)
  (λn l ds ih x r=>by apply r.QR;exactλa xs ht r=>Ep ht (r.al.join ih λv x d J r ih=>ih x r))
  (λn l vs ds hl ih x r=>by
   apply r.QK;intro p hp
   refine dE ((R.QW hl hp).obj) λJ xs k ho r=> ?_
   exact IG ho (r.al.join ih λv x d J r ih=>ih x r)) e x r
end
end
section
open PySem PySem.W PyProof.Rows
noncomputable def MI:Emb:=λJ=>none
section
variable{C:Cx}{Z Z':Emb}{h:Heap}{n m:Nat}
theorem iD{v:V}{x:Value}(hk:uF n v=true)(r:zS C Z h v x):zS C Z' h v x:=
 vO (G:=λJ v=>∀x,zS C Z h v x->zS C Z' h v x) (λJ i x r=>by apply r.QP;exact .int i) (λJ s x r=>by apply r.Ry;exactλJ t e=> .str t e)
  (λn l ih x r=>by apply r.QR;exactλa xs ht r=> .Q1 ht (.of (r.al.imp' λv x hv J r=>(ih v hv).2 x r))) hk x r
theorem Al2.inj{α β γ:Type}{P:α->γ->Prop}{Q:β->γ->Prop}{as:List α}{cs:List γ}(h:Al2 P as cs){f:α->β}:∀{bs:List β},Al2 Q bs cs->(∀a b c,a∈as->b∈bs->P a c->Q b c->f a=b)->as.map f=bs:=by
 induction h with
 |nil=>intro bs k _;cases k;rfl
 |cons p _ ih=>intro bs k g;cases k with|cons q k=>exact(alQ (_:: ·) (ih k λa b c ha hb=>g a b c (.tail _ ha) (.tail _ hb))).trans (alQ (· ::_) (g _ _ _ (.head _) (.head _) p q))
theorem jD7{a:Addr}{xs ys:Array Value}(t:IsTup h a xs)(u:IsTup h a ys):xs=ys:=by
 refine mV t λo ho J k hd=> ?_
 refine mV u λo' ho' J k' hd'=> ?_
 have e:=alS (ho.symm.trans ho')
 exact(Data.seq.inj (hd.symm.trans (e▸hd'))).1
theorem Fk(W:C.T.j.Nodup){v u:V}{x:Value}(hk:uF n v=true)(hu:uF m u=true)(a:zS C Z h v x)(b:zS C Z h u x):v=u:=
 vO (G:=λJ v=>∀m u x,uF m u=true->zS C Z h v x->zS C Z h u x->v=u)
  (λJ i m u x hu a b=>by
   revert b;apply a.QP;intro t b
   exact vO (G:=λJ u=>zS C Z h u (.int i t)->V.int i=u) (λJ j b=>by obtain⟨_,e⟩:=b.Rq;exact alQ V.int (Value.int.inj e).1) (λJ s b=>by obtain⟨_,_,_,e⟩:=b.Rq;exact nomatch e) (λJ l J b=>by refine yW b.Rq λJ J J J e=> ?_;exact nomatch e) hu b)
  (λJ i m u x hu a b=>by
   revert b;apply a.Ry;intro y t q b
   exact vO (G:=λJ u=>zS C Z h u (.str y t)->V.str i=u) (λJ j b=>by obtain⟨_,e⟩:=b.Rq;exact nomatch e) (λJ s b=>by obtain⟨z,_,q',e⟩:=b.Rq;exact alQ V.str (bI W q ((Value.str.inj e).1▸q'))) (λJ l J b=>by refine yW b.Rq λJ J J J e=> ?_;exact nomatch e) hu b)
  (λJ l ih m u x hu a b=>by
   revert b;apply a.QR;intro p xs ht r b
   exact vO (G:=λJ u=>zS C Z h u (.ref p)->V.Q1 l=u) (λJ j b=>by obtain⟨_,e⟩:=b.Rq;exact nomatch e) (λJ s b=>by refine vE b.Rq λJ J J e=> ?_;exact nomatch e)
    (λm k ih' b=>by
     refine yW b.Rq λp' ys ht' r' e=> ?_
     have e:=jD7 ht ((Value.ref.inj e)▸ht')
     exact alQ V.Q1 ((List.map_id l).symm.trans (r.al.inj (f:=id) (e▸r'.al) λa b c ha hb r r'=>(ih a ha).2 m b c (ih' b hb).1 r r'))) hu b) hk m u x hu a b
end
mutual
noncomputable def j7:V->Nat
 | .Q1 l=>kU l+1
 |_=>1
noncomputable def kU:List V->Nat
 |[]=>0
 |v::r=>j7 v+kU r
end
theorem rS{C:Cx}(l:List V)(u:V):u8 C (l++[u])=u8 C l++[uT C u]:=by
 induction l with
 |nil=>rfl
 |cons z d ih=>exact alQ (uT C z:: ·) ih
theorem mJ(l:List V)(u:V):kU (l++[u])=kU l+j7 u:=by
 induction l with
 |nil=>exact(Nat.zero_add _).symm▸rfl
 |cons z d ih=>exact(alQ (j7 z+ ·) ih).trans (Nat.add_assoc _ _ _).symm
section
variable{C:Cx}{Z:Emb}{n m:Nat}
theorem jD3{A:Around}{s:Shared}{E:Value->Shared->Prop}{Q:Int->Shared->Prop}{vs:List V}{a:Addr}{xs:Array Value}(ht:IsTup s.heap a xs)(r:Al2 (zS C Z s.heap) vs xs.toList)(hu:A.units<cLine)
  (ih:∀v∈vs,∀{x:Value} {t:Nat} {E:Value->Shared->Prop} {Q:Int->Shared->Prop},zS C Z s.heap v x->Q (uT C v) {s with toks:=t+j7 v}->wpAny (Mo C) A.in1 (pyHash x) Q E {s with toks:=t})
  (h:Q (uT C (.Q1 vs)) {s with toks:=s.toks+j7 (.Q1 vs)}):wpAny (Mo C) A (pyHash (.ref a)) Q E s:=by
 have hT:=ht.typeIs
 refine mV ht λo ho hc k hd=> ?_
 unfold pyHash pyHashByItsType
 refine wpAny_bind (wpAny_cRoomFor_or (.inr hu) ?_)
 refine wpAny_bind (wpAny_specialOf hT F.slot_tuple_hash.lookup ?_)
 show wpAny _ _ (if(some (Value.builtin "tuple.__hash__")==some Value.none)=true then _ else _) Q E s
 rw[if_neg (by rw[beq_builtin_none];exact Bool.false_ne_true)]
 refine wpAny_bind (wpAny_specialOf hT F.slot_tuple_hash.lookup ?_)
 show wpAny _ _ (callSpecialIfBoundUnlessNone? (.ref a) "__hash__" _>>=_) Q E s
 refine wpAny_bind (wpAny_callSpecialIfBoundUnlessNone?_slot hT F.slot_tuple_hash (wpAny_call_entry F.slot_tuple_hash hT F.entry_tuple_hash ?_ (F.args_tuple_hash_1 _)))
 show wpAny _ _ (Builtin.Tuple.tupleItemsOf (.ref a)>>=_) _ _ s
 refine wpAny_bind (PySem.wpAny_tupleItemsOf ho hd (wpAny_bind ?_))
 rw[<-Array.forIn_toList]
 refine wpAny_forIn_list _ (λrest (b:Array Int) s'=>∃done left,vs=done++left/\Al2 (zS C Z s.heap) left rest/\b.toList=u8 C done/\s'={s with toks:=s.toks+kU done}) _ ?_ ?_ _ _ ⟨[],vs,rfl,r,rfl,rfl⟩
 ·rintro y rest b s' ⟨done,left,e,hl,hb,rfl⟩
  cases hl with
  | @cons u _ left' _ h1 hl'=>
   refine wpAny_bind (ih u (e▸List.mem_append_right _ (.head _)) h1 (wpAny_pure ⟨done++[u],left',e.trans (List.append_cons ..),hl',?_,?_⟩))
   ·rw[rS,<-hb];exact Array.toList_push ..
   ·rw[mJ,Nat.add_assoc]
 ·rintro b s' ⟨done,left,e,hl,hb,rfl⟩
  cases hl
  have e:=e.trans (List.append_nil _)
  subst e
  show wpAny _ _ (retInt (Builtin.Tuple.tupleHashOf b.toList)) _ _ _
  rw[hb]
  refine wpAny_ret_mkInt ?_
  show wpAny _ _ (if(decide (-(2:Int)^ 63<=Builtin.Tuple.tupleHashOf (u8 C vs))&&decide (Builtin.Tuple.tupleHashOf (u8 C vs)<2 ^ 63))=true then _ else _) Q E _
  have h:Q (reduceHash (Builtin.Tuple.tupleHashOf (u8 C vs))) {s with toks:=s.toks+kU vs+1}:=h
  unfold reduceHash at h
  generalize (decide (-(2:Int)^ 63<=Builtin.Tuple.tupleHashOf (u8 C vs))&&decide (Builtin.Tuple.tupleHashOf (u8 C vs)<2 ^ 63))=c at h ⊢
  cases c with
  |true=>exact wpAny_pure h
  |false=>exact wpAny_bind (wpAny_rule (wpAny_pure h))
theorem BE:∀{n v},uF n v=true->∀{x:Value} {A:Around} {s:Shared} {E:Value->Shared->Prop} {Q:Int->Shared->Prop},A.units+n<cLine->zS C Z s.heap v x->
  Q (uT C v) {s with toks:=s.toks+j7 v}->wpAny (Mo C) A (pyHash x) Q E s:=
 vO (G:=λn v=>∀{x:Value} {A:Around} {s:Shared} {E:Value->Shared->Prop} {Q:Int->Shared->Prop},A.units+n<cLine->zS C Z s.heap v x->Q (uT C v) {s with toks:=s.toks+j7 v}->wpAny (Mo C) A (pyHash x) Q E s)
  (λJ i J J J J J J r h=>by apply r.QP;exactλt=>wpAny_pyHash_int h) (λJ i J J J J J J r h=>by apply r.Ry;exactλy t e=>wpAny_pyHash_str (bK e▸h))
  (λn l ih x A s E Q hu r h=>by
   apply r.QR;intro a xs ht r
   exact jD3 ht r.al (alI (Nat.le_add_right _ _) hu) (λv hv J J J J r h=>(ih v hv).2 (A:=A.in1) (show A.units+1+n<cLine by rw[Nat.add_right_comm];exact hu) r h) h)
theorem jD5:∀{n v},uF n v=true->∀(dp:Nat) {x:Value} {A:Around} {s:Shared} {E:Value->Shared->Prop} {Q:Bool->Shared->Prop},n<=dp->zS C Z s.heap v x->Q true s->wpAny (Mo C) A (eqIsQuiet dp x) Q E s:=
 vO (G:=λn v=>∀(dp:Nat) {x:Value} {A:Around} {s:Shared} {E:Value->Shared->Prop} {Q:Bool->Shared->Prop},n<=dp->zS C Z s.heap v x->Q true s->wpAny (Mo C) A (eqIsQuiet dp x) Q E s)
  (λJ i J J J J J J J r h=>by apply r.QP;intro t;rw[eqIsQuiet_byValue _ rfl];exact wpAny_pure h) (λJ i J J J J J J J r h=>by apply r.Ry;intro y t e;rw[eqIsQuiet_byValue _ rfl];exact wpAny_pure h)
  (λn l ih dp x A s E Q hle r h=>by
   cases dp with
   |zero=>exact nomatch hle
   |succ dp=>
   apply r.QR;intro a xs ht r
   have hT:=ht.typeIs
   refine mV ht λo ho J k hd=> ?_
   unfold eqIsQuiet
   refine wpAny_bind (wpAny_specialOf hT F.slot_tuple_eq.lookup ?_)
   show wpAny _ _ (isInstance (.ref a) (.type "tuple")>>=_) _ _ s
   refine wpAny_bind (wpAny_isInstance hT isSubtype_tuple_tuple (wpAny_bind (wpAny_seqItems ho hd (wpAny_bind ?_))))
   show wpAny _ _ (forIn xs _ _) _ _ s
   rw[<-Array.forIn_toList]
   refine wpAny_forIn_list _ (λrest r s'=>r.1=none/\s'=s/\∃left,Al2 (zS C Z s.heap) left rest/\∀v∈left,v∈l) _ ?_ ?_ _ _ ⟨rfl,rfl,l,r.al,λJ h=>h⟩
   ·rintro y rest r s' ⟨hr,rfl,left,hl,hall⟩
    cases hl with
    |cons h1 hl'=>exact wpAny_bind ((ih _ (hall _ (.head _))).2 dp (Nat.le_of_succ_le_succ hle) h1 (wpAny_pure ⟨rfl,rfl,_,hl',λu hu=>hall u (.tail _ hu)⟩))
   ·rintro ⟨r1,r2⟩ s' ⟨hr,rfl,_⟩
    have hr:r1=none:=hr
    subst hr
    exact wpAny_pure h)
theorem cB(W:j9 C)(hn:n<=60){v u:V}{x y:Value}{A:Around}{s:Shared}{E:Value->Shared->Prop}{Q:Bool->Shared->Prop}(hv:u9 n v=true)(hu:u9 m u=true)
  (hA:A.units+64<cLine)(a:zS C Z s.heap v x)(b:zS C Z s.heap u y)(h:Q (decide (v=u)) s):wpAny (Mo C) A (eqBool x y) Q E s:=by
 refine xAE (vM W hv a) λg1 as r1=> ?_
 refine xAE (vM W hu b) λg2 bs r2=> ?_
 refine SeqAt.eqAt_reads _ _ A s x y _ _ r1 r2 (yQ g1).1 (yQ g2).1 ?_ C.prog C.w E Q (by rw[aY g1 g2];exact h)
 exact alI (Nat.add_le_add_left (alJ (Nat.min_le_left _ _) (alJ (yQ g1).2 (alJ hn (by decide)))) _) hA
theorem uP{l:List V}:uF 6 (.Q1 l)=true↔∀v∈l,uF 5 v=true:=List.all_eq_true
noncomputable def nQ(C:Cx)(W:j9 C):HeapKind C.prog C.w {l:List V//(∀v∈l,uF 5 v=true)} where
 is h l a:=zS C MI h (.Q1 l.1) (.ref a)
 hash l:=uT C (.Q1 l.1)
 draws l:=j7 (.Q1 l.1)
 room A:=A.units+100<cLine
 inj:=λ{h a x y} hx hy=>Subtype.ext (V.Q1.inj (Fk W.1 (uP.mpr x.2) (uP.mpr y.2) hx hy))
 keeps:=λ{h h' k a d o es ep} x ho hd hs=>x.keeps (λJ J e=>e) λb ob e st=>sbk hs e λq=>vB (alS ((q▸e).symm.trans ho)▸hd) st
 pyHash:=λ{A E s k a Q} hu x h=>BE (uP.mpr k.2) (alI (Nat.add_le_add_left (by decide) _) hu) x h
 eqBool:=λ{A E s k l a b Q} hu x y h=>cB W (n:=6) (by decide) (n8 (uP.mpr k.2)) (n8 (uP.mpr l.2)) (alI (Nat.add_le_add_left (by decide) _) hu) x y
  ((decide_eq_decide.mpr ⟨λe=>e▸rfl,λe=>Subtype.ext (V.Q1.inj e)⟩:decide (k=l)=decide (V.Q1 k.1=V.Q1 l.1))▸h)
 quiet:=λ{A E s k a Q} x h=>jD5 (uP.mpr k.2) 8 (by decide) x h
end
theorem vJ{es:List (V×V)}{k:V}(ha:yD es k=true):yZ k=true/\∀e∈es,jR e.1=jR k:=
 (alA ha).imp id λq e he=>eq_of_beq (alN q e he)
theorem nq{a b:Nat}{G:Prop}(h:a=b)(k:(a==b)=false):G:=absurd ((beq_iff_eq (a:=a) (b:=b)).mpr h) (by rw[k];exact Bool.false_ne_true)
theorem Nl{v:V}(h:jR v=0):v.QO.isSome=true:=by cases v<;>first|rfl|exact nq h rfl
theorem Nq{v:V}(h:jR v=1):v.asStr.isSome=true:=by cases v<;>first|rfl|exact nq h rfl
theorem Ma{v:V}(h:jR v=2):v.Ru.isSome=true:=by cases v<;>first|rfl|exact nq h rfl
theorem gS{v:V}(h:jR v=0):∃i,v= .int i:=(Option.isSome_iff_exists.mp (Nl h)).imp λJ=>uX
theorem gR{v:V}(h:jR v=1):∃i,v= .str i:=(Option.isSome_iff_exists.mp (Nq h)).imp λJ=>pZ
theorem i9{v:V}(h:jR v=2):∃i,v= .Q1 i:=(Option.isSome_iff_exists.mp (Ma h)).imp λJ=>fY
structure Kx(C:Cx)(Z:Emb)(h:Heap)(e:V×V)(d:DictEntry):Prop where
 key:zS C Z h e.1 d.key
 val:zS C Z h e.2 d.val
 hash:d.hash=uT C e.1
 ok:yZ e.1=true
theorem KV.is{C:Cx}{Z:Emb}{h:Heap}{e:V×V}{d:DictEntry}(r:KV C Z h e d):Kx C Z h e d:=by cases r with|mk a b c d=>exact⟨a,b,c,d⟩
section
variable{C:Cx}{Z:Emb}{h:Heap}
theorem Al2.findIdx{α β:Type}{P:α->β->Prop}{as:List α}{bs:List β}(r:Al2 P as bs){p:α->Bool}{q:β->Bool}:(∀a b,a∈as->b∈bs->P a b->q b=p a)->bs.findIdx? q=as.findIdx? p:=by
 induction r with
 |nil=>exactλJ=>rfl
 |cons a _ ih=>intro k;rw[List.findIdx?_cons,List.findIdx?_cons,k _ _ (.head _) (.head _) a,ih λe d he hd=>k e d (.tail _ he) (.tail _ hd)]
abbrev TK:={l:List V//(∀v∈l,uF 5 v=true)}
theorem mW(W:j9 C){es ds}(r:jW C Z h es ds):(∀e∈es,jR e.1=2)->∃xs:List (TK×Addr×Value),ds=xs.map (entryOfKey (nQ C W))/\(∀x∈xs,(nQ C W).is h x.1 x.2.1)/\
  es.map (·.1)=xs.map λx=> .Q1 x.1.1:=by
 induction r with
 |nil=>exactλJ=>⟨[],rfl,λJ q=>(nomatch q),rfl⟩
 | @cons e d es ds a _ ih=>
  intro hk
  refine eO (ih λe he=>hk e (.tail _ he)) λxs h1 h2 h3=> ?_
  have a:=a.is
  refine xE (i9 (hk _ (.head _))) λl hl=> ?_
  have ok:uF 6 (.Q1 l)=true:=hl▸a.ok
  refine yW ((hl▸a.key:zS C Z h (.Q1 l) d.key).Rq) λp ys ht rr e2=> ?_
  refine⟨(⟨l,uP.mp ok⟩,p,d.val)::xs,?_,λx hx=> ?_,?_⟩
  ·rw[h1,List.map_cons]
   exact alQ (· ::_) (show d=⟨uT C (.Q1 l),.ref p,d.val⟩ by rw[<-hl,<-a.hash,<-e2])
  ·refine(alC hx).elim (λq=> ?_) (h2 x)
   rw[q];exact iD ok (zS.Q1 ht rr)
  ·rw[List.map_cons,List.map_cons,h3,hl]
end
section
variable{C:Cx}{A:Around}{s:Shared}{Z:Emb}{U:St}{E:Value->Shared->Prop}
theorem hG{p q:Prop}[Decidable p][Decidable q](h:p↔q):decide p=decide q:=decide_eq_decide.mpr h
theorem iF{κ:Type}[DecidableEq κ]{knd:PySem.KeyKind C.prog C.w κ}{d:Addr}{ds:List DictEntry}{n:Nat}{es:List (V×V)}{k:V}{kk:κ}{key:Value}{Q:Option Nat->Shared->Prop}(ho:s.heap.get? d=some (dictOf ds n))(hr:jW C Z s.heap es ds)
  (hk:knd.is kk key=true)(hh:uT C k=knd.hash kk)(w:∀e f,e∈es->Kx C Z s.heap e f->(∃k',knd.is k' f.key=true/\f.hash=knd.hash k')/\knd.is kk f.key=decide (e.1=k))
  (hq:Q (es.findIdx? λe=>decide (e.1=k)) s):wpAny (Mo C) A (dictFind d key (uT C k)) Q E s:=by
 rw[hh]
 refine wpAny_dictFind_of (knd:=knd) (k:=kk) (key:=key) hk ho rfl (λe he=> ?_) ?_
 ·refine xEA (hr.mem' (List.mem_toArray.mp he)) λe' he' q=> ?_
  exact(w e' e he' q.is).1
 ·rw[List.findIdx?_toArray,hr.findIdx λa b ha J r=>(w a b ha r.is).2];exact hq
theorem eW(W:j9 C){d:Addr}{ds:List DictEntry}{n:Nat}{es:List (V×V)}{k:V}{key:Value}{Q:Option Nat->Shared->Prop}(ho:s.heap.get? d=some (dictOf ds n))(hr:jW C Z s.heap es ds)
  (hn:(es.map (·.1)).Nodup)(ha:yD es k=true)(hk:zS C Z s.heap k key)(hu:A.units+110<cLine)(hq:Q (es.findIdx? λe=>decide (e.1=k)) s):wpAny (Mo C) A (dictFind d key (uT C k)) Q E s:=by
 refine xA (vJ ha) λhik hall=> ?_
 refine vO (G:=λn k=>n=6->(∀e∈es,jR e.1=jR k)->zS C Z s.heap k key->Q (es.findIdx? λe=>decide (e.1=k)) s->wpAny (Mo C) A (dictFind d key (uT C k)) Q E s) (λJ i J hall r hq=> ?_) (λJ i J hall r hq=> ?_) (λn l ih hn6 hall r hq=> ?_) hik rfl hall hk hq
 ·apply r.QP;intro t
  refine iF (knd:=intKind C.prog C.w) (kk:=i) ho hr (beq_self_eq_true i) rfl (λe f he q=> ?_) hq
  refine xE (gS (hall _ he)) λj ej=> ?_
  refine xE ((ej▸q.key:zS C Z s.heap (.int j) f.key).Rq) λt' ek=> ?_
  rw[q.hash,ek,ej]
  exact⟨⟨j,beq_self_eq_true j,rfl⟩,(Bool.beq_eq_decide_eq j i).trans (hG ⟨alQ _,V.int.inj⟩)⟩
 ·apply r.Ry;intro y t hx
  refine iF (knd:=PySem.strKind C.prog C.w) (kk:=y) ho hr (beq_self_eq_true y) (alQ (hashStr C.w) (bK hx)) (λe f he q=> ?_) hq
  refine xE (gR (hall _ he)) λj ej=> ?_
  refine vE ((ej▸q.key:zS C Z s.heap (.str j) f.key).Rq) λz t' ez ek=> ?_
  rw[q.hash,ek,ej]
  refine⟨⟨z,beq_self_eq_true z,alQ (hashStr C.w) (bK ez)⟩,Bool.eq_iff_iff.mpr (beq_iff_eq.trans (Iff.trans ⟨λe=> ?_,λe=> ?_⟩ decide_eq_true_iff.symm))⟩
  ·exact alQ _ (bI W.1 ez (e▸hx))
  ·exact alS (ez.symm.trans (V.str.inj e▸hx))
 ·cases hn6
  have ok:∀v∈l,uF 5 v=true:=λv hv=>(ih v hv).1
  refine eO (mW W hr hall) λxs h1 h2 h3=> ?_
  have hat:∀j:Nat,es[j]?.map (·.1)=xs[j]?.map λx=>V.Q1 x.1.1:=λj=>by rw[<-List.getElem?_map,<-List.getElem?_map,h3]
  have hnd:(xs.map (·.1)).Nodup:=by
   have hn:(xs.map λx=>V.Q1 x.1.1).Nodup:=h3▸hn
   exact List.pairwise_map.mpr ((List.pairwise_map.mp hn).imp λq e=>q (alQ (λy:TK=>V.Q1 y.1) e))
  apply r.QR;intro a ys ht rr
  refine wpAny_dictFind_heap (knd:=nQ C W) (k:=⟨l,ok⟩) (show A.units+100<cLine from alI (Nat.add_le_add_left (by decide) _) hu) (iD (uP.mpr ok) (zS.Q1 ht rr)) ho rfl h1 h2 hnd (λhno=> ?_) λj p hj=> ?_
  ·rw[List.findIdx?_eq_none_iff.mpr] at hq
   ·exact hq
   ·intro e he
    refine decide_eq_false λq=> ?_
    obtain⟨j,hj⟩:=List.mem_iff_getElem?.mp he
    have z:=hat j
    rw[hj] at z
    obtain⟨x,hx,e'⟩:=alD z.symm
    exact hno j x.2 (hx.trans (alQ some (Prod.ext (Subtype.ext (V.Q1.inj (e'.trans q))) rfl)))
  ·have z:=hat j
   rw[hj] at z
   refine xEA (alD z) λe he e'=> ?_
   rw[show(es.findIdx? λe=>decide (e.1=V.Q1 l))=some j from ?_] at hq
   ·exact hq
   ·refine xE (List.getElem?_eq_some_iff.mp he) λhlt hge=> ?_
    refine List.findIdx?_eq_some_iff_getElem.mpr ⟨hlt,by rw[hge];exact alG e',λi hij q=> ?_⟩
    have q:=alH q
    have hi:=Nat.lt_trans hij hlt
    have g:(es.map (·.1))[i]?=(es.map (·.1))[j]?:=by rw[List.getElem?_map,List.getElem?_map,he,List.getElem?_eq_getElem hi];exact alQ some (q.trans e'.symm)
    exact Nat.ne_of_lt hij ((List.getElem?_inj (by rw[alF];exact hi) hn).mp g)
section
variable{κ:Type}{q:κ->κ->Bool}{k:κ}{w:V}
theorem b8:∀{es:List (κ×V)},tT q k es=(es.find? λe=>q e.1 k).map (·.2)
 |[]=>rfl
 |e::r=>by
  rw[List.find?_cons]
  show @Bool.rec (λJ=>Option V) (tT q k r) (some e.2) (q e.1 k)=_
  rw[b8 (es:=r)]
  cases q e.1 k<;>rfl
theorem cW:∀{es:List (κ×V)} {i:Nat},(es.findIdx? λe=>q e.1 k)=some i->lT q k w es=es.modify i λe=>(e.1,w)
 |[],_,h=>nomatch h
 |e::r,i,h=>by
  rw[List.findIdx?_cons] at h
  show @Bool.rec (λJ=>List (κ×V)) (e::lT q k w r) ((e.1,w)::r) (q e.1 k)=_
  cases z:q e.1 k with
  |true=>rw[z] at h;exact alS h▸rfl
  |false=>rw[z] at h;refine xEA (alD h) λj hj e'=> ?_;exact e'▸alQ (e:: ·) (cW (es:=r) hj)
theorem bW:∀{es:List (κ×V)},(es.findIdx? λe=>q e.1 k)=none->lT q k w es=es++[(k,w)]
 |[],_=>rfl
 |e::r,h=>by
  rw[List.findIdx?_cons] at h
  show @Bool.rec (λJ=>List (κ×V)) (e::lT q k w r) ((e.1,w)::r) (q e.1 k)=_
  cases z:q e.1 k with
  |true=>rw[z] at h;exact nomatch h
  |false=>rw[z] at h;exact alQ (e:: ·) (bW (es:=r) (Option.map_eq_none_iff.mp h))
theorem Bu:∀{es:List (κ×V)} {i:Nat},(es.findIdx? λe=>q e.1 k)=some i->Da q k es=es.eraseIdx i
 |[],_,h=>nomatch h
 |e::r,i,h=>by
  rw[List.findIdx?_cons] at h
  show @Bool.rec (λJ=>List (κ×V)) (e::Da q k r) r (q e.1 k)=_
  cases z:q e.1 k with
  |true=>rw[z] at h;exact alS h▸rfl
  |false=>rw[z] at h;refine xEA (alD h) λj hj e'=> ?_;exact e'▸alQ (e:: ·) (Bu (es:=r) hj)
end
theorem Fj(a b:V):V.beq a b=decide (a=b):=Bool.eq_iff_iff.mpr ((V.QM a b).trans decide_eq_true_iff.symm)
theorem vq{k:V}:(λe:V×V=>V.beq e.1 k)=λe=>decide (e.1=k):=funext λe=>Fj e.1 k
theorem MW{k:Nat}:(λe:Nat×V=>Nat.beq e.1 k)=λe=>e.1==k:=funext λe=>Bool.eq_iff_iff.mpr ⟨λh=>beq_iff_eq.mpr (alP h),λh=>(beq_iff_eq.mp h)▸Nat.beq_refl _⟩
theorem dlook_find?{es:List (V×V)}{k:V}:yA es k=(es.find? λe=>decide (e.1=k)).map (·.2):=vq▸b8
theorem aC{es:List (V×V)}{k:V}:yA es k=((es.findIdx? λe=>decide (e.1=k)).bind λi=>es[i]?).map (·.2):=by
 rw[dlook_find?,List.find?_eq_bind_findIdx?_getElem?]
end
theorem gH{α:Type}{l:List α}{p:α->Bool}{i:Nat}(h:l.findIdx? p=some i):∃e,l[i]?=some e/\p e=true:=by
 refine xEA (List.findIdx?_eq_some_iff_getElem.mp h) λhlt hp J=> ?_
 exact⟨l[i],List.getElem?_eq_getElem hlt,hp⟩
theorem oM{α β:Type}{l:List α}{f:α->β}(hn:(l.map f).Nodup){i j:Nat}{a b:α}(ha:l[i]?=some a)(hb:l[j]?=some b)(e:f a=f b):i=j:=by
 have h1:(l.map f)[i]?=some (f a):=by rw[List.getElem?_map,ha];rfl
 have h2:(l.map f)[j]?=some (f b):=by rw[List.getElem?_map,hb];rfl
 exact(List.getElem?_inj (List.getElem?_eq_some_iff.mp h1).1 hn).mp (by rw[h1,h2,e])
theorem GC{α:Type}{l:List α}{p:α->Bool}:l.any p=(l.findIdx? p).isSome:=by
 induction l with
 |nil=>rfl
 |cons a r ih=>
  rw[List.any_cons,List.findIdx?_cons]
  cases p a with
  |true=>rfl
  |false=>rw[Bool.false_or,ih];cases r.findIdx? p<;>rfl
theorem wM{α:Type}{v:V}:∀{es:List (α×V)} {i:Nat},(es.modify i λe=>(e.1,v)).map (·.1)=es.map (·.1)
 |[],0=>rfl
 |[],_+1=>rfl
 |_::_,0=>rfl
 |a::r,i+1=>alQ (a.1:: ·) (wM (es:=r) (i:=i))
theorem pY{α:Type}[DecidableEq α]{es:List (α×V)}{k:α}{v:V}(hn:(es.map (·.1)).Nodup)(h:(es.findIdx? λe=>decide (e.1=k))=none):((es++[(k,v)]).map (·.1)).Nodup:=by
 rw[List.map_append]
 refine List.nodup_append.mpr ⟨hn,List.nodup_cons.mpr ⟨nofun,List.nodup_nil⟩,λa ha b hb=> ?_⟩
 obtain⟨e,he,q⟩:=List.mem_map.mp ha
 rw[alK hb,<-q]
 exact of_decide_eq_false (List.findIdx?_eq_none_iff.mp h e he)
theorem Ku{es:List (Nat×V)}{k:Nat}:(es.findIdx? λe=>e.1==k)=es.findIdx? λe=>decide (e.1=k):=alQ (List.findIdx? · es) (funext λe=>Bool.beq_eq_decide_eq e.1 k)
section
variable{es:List (V×V)}{k v:V}{i:Nat}
theorem lJ(h:(es.findIdx? λe=>decide (e.1=k))=some i):uG es k v=es.modify i λe=>(e.1,v):=cW (vq▸h)
theorem lC(h:(es.findIdx? λe=>decide (e.1=k))=none):uG es k v=es++[(k,v)]:=bW (vq▸h)
theorem Bj(hn:(es.map (·.1)).Nodup):((uG es k v).map (·.1)).Nodup:=by
 cases h:es.findIdx? λe=>decide (e.1=k) with
 |none=>rw[lC h];exact pY hn h
 |some i=>rw[lJ h,wM];exact hn
theorem Gw(h:(es.findIdx? λe=>decide (e.1=k))=some i):Hc es k=es.eraseIdx i:=Bu (vq▸h)
end
section
variable{es:List (Nat×V)}{k:Nat}{v:V}{i:Nat}
theorem iW(h:(es.findIdx? λe=>e.1==k)=some i):tI es k v=es.modify i λe=>(e.1,v):=cW (MW▸h)
theorem i0(h:(es.findIdx? λe=>e.1==k)=none):tI es k v=es++[(k,v)]:=bW (MW▸h)
theorem Am(hn:(es.map (·.1)).Nodup):((tI es k v).map (·.1)).Nodup:=by
 cases h:es.findIdx? λe=>e.1==k with
 |none=>rw[i0 h];exact pY hn (Ku▸h)
 |some i=>rw[iW h,wM];exact hn
end
section
variable{C:Cx}{Z:Emb}{h:Heap}
theorem jW.modify{v:V}{val:Value}{es ds}{i:Nat}(r:jW C Z h es ds)(q:zS C Z h v val):jW C Z h (es.modify i λe=>(e.1,v)) (ds.modify i λd=>{d with val:=val}):=Al2.modify r λJ J r=> .mk r.is.key q r.is.hash r.is.ok
theorem jW.erase{es ds}{i:Nat}(r:jW C Z h es ds):jW C Z h (es.eraseIdx i) (ds.eraseIdx i):=Al2.erase r
end
section
variable{C:Cx}{A:Around}{s:Shared}{Z:Emb}{U:St}{E:Value->Shared->Prop}
theorem qD{l:Loc}{es:List (V×V)}{a d:Addr}(R:Rel C Z U s.heap)(h:U.get l=some (.dict es))(hi:Z l=some (a,d)):
  a=d/\∃ds n,s.heap.get? a=some (dictOf ds n)/\jW C Z s.heap es ds/\(es.map (·.1)).Nodup/\C.h0.objs.size<=a:=
 have L:=R.QW h hi
 ⟨L.obj.1,L.obj.2.imp λJ=>Exists.imp λJ q=>⟨q.1,q.2.1,q.2.2,L.RO⟩⟩
def HU(C:Cx)(Z:Emb)(h:Heap)(o:Option V)(r:Option Value):Prop:=match o with
 |none=>r=none
 |some v=>∃y,r=some y/\zS C Z h v y
theorem wP{k:V}{key:Value}{Q:Int->Shared->Prop}(hk:yZ k=true)(hv:zS C Z s.heap k key)(hu:A.units+110<cLine)(h:Q (uT C k) {s with toks:=s.toks+j7 k}):wpAny (Mo C) A (pyHash key) Q E s:=
 BE hk (alI (Nat.add_le_add_left (by decide) _) hu) hv h
theorem kQ(W:j9 C){d:Addr}{ds:List DictEntry}{n:Nat}{es:List (V×V)}{k:V}{key:Value}{Q:Option Value->Shared->Prop}(ho:s.heap.get? d=some (dictOf ds n))(hr:jW C Z s.heap es ds)
  (hn:(es.map (·.1)).Nodup)(ha:yD es k=true)(hk:zS C Z s.heap k key)(hu:A.units+110<cLine)(hq:∀r,HU C Z s.heap (yA es k) r->Q r {s with toks:=s.toks+j7 k}):wpAny (Mo C) A (dictGet d key) Q E s:=by
 unfold dictGet
 refine wpAny_holding (wpAny_bind (wP (vJ ha).1 hk hu (wpAny_bind (eW (s:={s with toks:=s.toks+j7 k}) W ho hr hn ha hk hu ?_))))
 rw[aC] at hq
 cases hf:es.findIdx? λe=>decide (e.1=k) with
 |none=>rw[hf] at hq;exact wpAny_pure (hq _ rfl)
 |some i=>
  rw[hf] at hq
  refine xEA (gH hf) λe he J=> ?_
  refine xEA (hr.get he) λde hd hrep=> ?_
  have hq:=hq (some de.val)
  rw[Option.bind_some,he] at hq
  refine wpAny_bind (wpAny_dictEntries (s:={s with toks:=s.toks+j7 k}) ho rfl (wpAny_pure ?_))
  rw[List.getElem?_toArray,hd]
  exact hq ⟨_,rfl,hrep.is.val⟩
theorem Hl{d:Addr}(hs:sysModules<C.h0.objs.size)(h:C.h0.objs.size<=d):(d==sysModules)=false:=by
 exact beq_eq_false_iff_ne.mpr (Kz hs h)
theorem pD{a:Nat}(h:a+120<cLine):a+1+110<cLine:=alI (by rw[Nat.add_assoc];exact Nat.add_le_add_left (by decide) _) h
theorem zN{d:Addr}{ds:List DictEntry}{n:Nat}(ho:s.heap.get? d=some (dictOf ds n)):s.TypeIs (.ref d) "dict":=⟨_,ho,rfl⟩
theorem lL{es:List (V×V)}{k:V}:(es.any λe=>decide (e.1=k))=(yA es k).isSome:=by
 rw[dlook_find?,Option.isSome_map]
 induction es with
 |nil=>rfl
 |cons a r ih=>rw[List.any_cons,List.find?_cons,ih];cases decide (a.1=k)<;>rfl
theorem eM(W:j9 C){d:Addr}{ds:List DictEntry}{n:Nat}{es:List (V×V)}{k:V}{key:Value}{Q:Bool->Shared->Prop}(hs:(d==sysModules)=false)(ho:s.heap.get? d=some (dictOf ds n))(hr:jW C Z s.heap es ds)
  (hn:(es.map (·.1)).Nodup)(ha:yD es k=true)(hk:zS C Z s.heap k key)(hu:A.units+120<cLine)(hq:Q (es.any λe=>decide (e.1=k)) {s with toks:=s.toks+j7 k}):wpAny (Mo C) A (contains (.ref d) key) Q E s:=by
 unfold contains
 refine wpAny_holding ?_
 refine wpAny_bind (wpAny_specialOf (zN ho) slot_dict_contains.lookup ?_)
 show wpAny _ _ (if(some (Value.builtin "dict.__contains__")==some Value.none)=true then _ else _) _ E s
 rw[if_neg (by rw[beq_builtin_none];exact Bool.false_ne_true)]
 refine wpAny_bind (wpAny_callSpecialUnlessNone?_slot (name:=Str.ofString "__contains__") (zN ho) slot_dict_contains
  (wpAny_call_entry slot_dict_contains (zN ho) entry_dict_contains ?_ (args_dict_contains _ _)))
 show wpAny _ _ (dictGet d key>>=_) _ _ s
 refine wpAny_bind (kQ (A:=A.in1) W ho hr hn ha hk (pD hu) λr hrr=> ?_)
 rw[lL] at hq
 cases hf:yA es k with
 |some v=>
  rw[hf] at hq hrr
  refine xEA hrr λy e_1 J=> ?_
  subst e_1
  show wpAny _ _ (ret (.bool true)) _ _ _
  exact wpAny_pure ⟨_,rfl,wpAny_truthy_bool hq⟩
 |none=>
  rw[hf] at hq hrr
  cases hrr
  show wpAny _ _ (Builtin.Dict.pendingKey? d key>>=_) _ _ _
  exact wpAny_bind (wpAny_pendingKey_other hs (wpAny_pure ⟨_,rfl,wpAny_truthy_bool hq⟩))
theorem uQ(W:j9 C){d:Addr}{ds:List DictEntry}{n:Nat}{es:List (V×V)}{k v:V}{key:Value}{Q:Value->Shared->Prop}(ho:s.heap.get? d=some (dictOf ds n))(hr:jW C Z s.heap es ds)
  (hn:(es.map (·.1)).Nodup)(ha:yD es k=true)(hk:zS C Z s.heap k key)(hu:A.units+120<cLine)(hv:yA es k=some v)(hq:∀y,zS C Z s.heap v y->Q y {s with toks:=s.toks+j7 k}):wpAny (Mo C) A (PySem.getItem (.ref d) key) Q E s:=by
 unfold PySem.getItem
 refine wpAny_holding ?_
 refine wpAny_bind (wpAny_sequenceKey (zN ho) (by decide) ?_)
 refine wpAny_bind (wpAny_callSpecial?_slot (name:=Str.ofString "__getitem__") (zN ho) slot_dict_getitem
  (wpAny_call_entry slot_dict_getitem (zN ho) entry_dict_getitem ?_ (args_dict_getitem _ _)))
 show wpAny _ _ (dictGet d key>>=_) _ _ s
 refine wpAny_bind (kQ (A:=A.in1) W ho hr hn ha hk (pD hu) λr hrr=> ?_)
 rw[hv] at hrr
 refine xEA hrr λy e_1 hy=> ?_
 subst e_1
 exact wpAny_pure ⟨y,rfl,wpAny_pure (hq y hy)⟩
theorem Bb{ds:List DictEntry}{n:Nat}{e:DictEntry}:Obj.mapDictKeys (λx=>x.push e) (dictOf ds n)=dictOf (ds++[e]) (n+1):=by
 show({dictOf ds n with data:= .dict (ds.toArray.push e) (n+1)}:Obj)=_
 rw[List.push_toArray]
theorem mF{ds:List DictEntry}{n i:Nat}{f:DictEntry->DictEntry}:Obj.mapDict (λx=>x.modify i f) (dictOf ds n)=dictOf (ds.modify i f) n:=by
 show({dictOf ds n with data:= .dict (ds.toArray.modify i f) n}:Obj)=_
 rw[List.modify_toArray]
theorem cA(W:j9 C){l:Loc}{d a:Addr}{es:List (V×V)}{k v:V}{key val:Value}{Q:Unit->Shared->Prop}(R:Rel C Z U s.heap)(hl:U.get l=some (.dict es))(hi:Z l=some (d,a))
  (ha:yD es k=true)(hz:es.length<1000)(hk:zS C Z s.heap k key)(hv:zS C Z s.heap v val)(hu:A.units+110<cLine)(hq:∀s',zV C Nil Z U s Z (U.Q6 l (.dict (uG es k v))) s'->Heap.SameBut d s.heap s'.heap->Q () s'):wpAny (Mo C) A (dictSet d key val) Q E s:=by
 refine vA (qD R hl hi) λe_0 ds n ho hr hn J=> ?_
 subst e_0
 unfold dictSet
 refine wpAny_holding ?_
 refine wpAny_bind (wP (vJ ha).1 hk hu ?_)
 unfold dictSetHashed
 refine wpAny_holding ?_
 refine wpAny_bind (eW (s:={s with toks:=s.toks+j7 k}) W ho hr hn ha hk hu ?_)
 have fin:∀(h':Heap) (ds':List DictEntry) (n':Nat),h'.get? d=some (dictOf ds' n')->Heap.SameBut d s.heap h'->(Imm s.heap h'->jW C Z h' (uG es k v) ds')->Q () {s with heap:=h',toks:=s.toks+j7 k}:=λh' ds' n' hg hb hrr=>
  hq _ (zV.Q6 (jjD:=d) R hl hi (.inl rfl) hb (λim=>⟨rfl,ds',n',hg,hrr im,Bj hn⟩) rfl rfl) hb
 cases hf:es.findIdx? λe=>decide (e.1=k) with
 |none=>
  refine wpAny_bind (wpAny_rule (wpAny_updateDictKeys (s:={s with toks:=s.toks+j7 k}) (hz:=by rw[List.size_toArray,<-hr.length];exact qC hz) ho rfl (fin _ (ds++[⟨uT C k,key,val⟩]) (n+1) ?_ (Heap.SameBut.update ..) λim=> ?_)))
  ·rw[Heap.get?_update_self _ ho (Obj.isFreed_of_dict (Obj.data_mapDictKeys rfl _))]
   exact alQ some Bb
  ·rw[lC hf]
   exact(jW.keeps (λJ J e=>e) im hr).append (.cons (.mk (hk.keeps (λJ J e=>e) im) (hv.keeps (λJ J e=>e) im) rfl (vJ ha).1) .nil)
 |some i=>
  exact wpAny_bind (wpAny_rule (wpAny_bind (wpAny_updateDict (s:={s with toks:=s.toks+j7 k}) ho rfl (wpAny_point (fin _ (ds.modify i λd=>{d with val:=val}) n (by
   rw[Heap.get?_update_self _ ho (Obj.isFreed_of_dict (Obj.data_mapDict rfl _))]
   exact alQ some mF) (Heap.SameBut.update ..) λim=>by
   rw[lJ hf]
   exact jW.modify (jW.keeps (λJ J e=>e) im hr) (hv.keeps (λJ J e=>e) im))))))
theorem eN(W:j9 C){l:Loc}{d a:Addr}{es:List (V×V)}{k v:V}{key val:Value}{Q:Unit->Shared->Prop}(R:Rel C Z U s.heap)(hl:U.get l=some (.dict es))(hi:Z l=some (d,a))
  (ha:yD es k=true)(hz:es.length<1000)(hk:zS C Z s.heap k key)(hv:zS C Z s.heap v val)(hu:A.units+110<cLine)(hq:∀s',zV C Nil Z U s Z (U.Q6 l (.dict (uG es k v))) s'->Q () s'):wpAny (Mo C) A (dictSet d key val) Q E s:=
 cA W R hl hi ha hz hk hv hu λs' S J=>hq s' S
end
section
variable{C:Cx}{A:Around}{s:Shared}{Z:Emb}{U:St}{E:Value->Shared->Prop}
theorem oG{a:Nat}(h:a+130<cLine):a+1+110<cLine:=alI (by rw[Nat.add_assoc];exact Nat.add_le_add_left (by decide) _) h
theorem b7(X:y9 C){l:Loc}{d a:Addr}{es:List (V×V)}{i v:V}{y z:Value}{Q:Unit->Shared->Prop}(R:Rel C Z U s.heap)(hl:U.get l=some (.dict es))(e:Z l=some (d,a))(hi:zS C Z s.heap i y)(hv:zS C Z s.heap v z)(hu:A.units+130<cLine)
  (ha:yD es i=true)(hz:es.length<1000)(q:∀s',zV C Nil Z U s Z (U.Q6 l (.dict (uG es i v))) s'->Heap.SameBut d s.heap s'.heap->Q () s'):wpAny (Mo C) A (PySem.setItem (.ref d) y z) Q E s:=by
 refine dE (qD R hl e) λJ ds n ho J=> ?_
 unfold PySem.setItem
 refine wpAny_holding (wpAny_bind (wpAny_sequenceKey (zN ho) (by decide) (wpAny_bind (wpAny_callSpecial?_slot (name:=Str.ofString "__setitem__") (zN ho) slot_dict_setitem
  (wpAny_call_entry slot_dict_setitem (zN ho) entry_dict_setitem ?_ (args_dict_setitem _ _ _))))))
 show wpAny _ _ (Builtin.Dict.notOrdered "__setitem__" ⟨[.ref d,y,z],[]⟩>>=_) _ _ s
 refine wpAny_bind (wpAny_notOrdered_dict (zN ho) ?_)
 show wpAny _ _ (dictSet d y z>>=_) _ _ s
 exact wpAny_bind (cA (A:=A.in1) X.j R hl e ha hz hi hv (oG hu) λs' S hb=>wpAny_pure ⟨.none,rfl,wpAny_pure (q _ S hb)⟩)
theorem sX(X:y9 C){a i v:V}{x y z:Value}{U':St}{Q:Unit->Shared->Prop}(R:Rel C Z U s.heap)(ha:zS C Z s.heap a x)(hi:zS C Z s.heap i y)(hv:zS C Z s.heap v z)(hu:A.units+130<cLine)
  (h:setItem a i v U=some U')(q:∀s',zV C Nil Z U s Z U' s'->Q () s'):wpAny (Mo C) A (PySem.setItem x y z) Q E s:=by
 refine zB h λl el h=>jM h (λvs hl h=>zB h λk ek h=>zK h λhk h=> ?_) (λes hl h=>zK h λhc h=> ?_) λJ J h=>zG h
 ·apply ha.QG el;intro p e
  apply hi.Re ek;intro t
  have L:=R.QW hl e
  refine dE L.obj λeq xs n h5 h6=> ?_
  have hlen:vs.length=xs.size:=h6.length
  have kn:=hk.2.1
  rw[hlen] at kn
  revert q;apply jT h;intro q
  refine ki_setAt h5 hk.1 (by have:=hk.2.2;omega) (Int.toNat_lt hk.1 |>.mp kn) (q _ (zV.Q6 (jjD:=p.1) R hl e (.inl rfl) (Heap.SameBut.update ..) (λim=>⟨eq,xs.setIfInBounds k.toNat z,_,PySem.IsL.update (n:=n) h5 _,?_⟩) rfl rfl))
  rw[Array.toList_setIfInBounds]
  exact(h6.keeps (λJ J e=>e) im).set (hv.keeps (λJ J e=>e) im)
 ·have hc:=alA hc
  apply ha.QG el;intro p e
  revert q;apply jT h;intro q
  exact b7 X R hl e hi hv hu hc.1 (alH hc.2) λs' S J=>q s' S
theorem oP{κ:Type}{q:κ->κ->Bool}{k:κ}:∀{es:List (κ×V)},(Da q k es).Sublist es
 |[]=> .slnil
 |e::r=>by
  show(@Bool.rec (λJ=>List (κ×V)) (e::Da q k r) r (q e.1 k)).Sublist _
  cases q e.1 k with
  |true=>exact List.sublist_cons_self _ _
  |false=>exact(oP (es:=r)).cons_cons _
theorem AH{es:List (V×V)}{k:V}(hn:(es.map (·.1)).Nodup):((Hc es k).map (·.1)).Nodup:=hn.sublist (oP.map _)
theorem sU{ds:List DictEntry}{j:Nat}(h:j<ds.length):ds.toArray.eraseIdxIfInBounds j=(ds.eraseIdx j).toArray:=(dif_pos (by rw[List.size_toArray];exact h)).trans (List.eraseIdx_toArray ..)
theorem r9(X:y9 C){a i:V}{x y:Value}{U':St}{Q:Unit->Shared->Prop}(R:Rel C Z U s.heap)(ha:zS C Z s.heap a x)(hi:zS C Z s.heap i y)(hu:A.units+130<cLine)
  (h:delItem a i U=some U')(q:∀s',zV C Nil Z U s Z U' s'->Q () s'):wpAny (Mo C) A (PySem.delItem x y) Q E s:=by
 refine zB h λl el h=>zB h λes hl h=>zK h λhc h=> ?_
 have hc:=alA hc
 have hc1:=alA hc.1
 have hz:=alH hc.2
 apply ha.QG el;intro p e
 have hl:=tK hl
 refine vA (qD R hl e) λeq ds n ho hr hn J=> ?_
 have u:A.units+1+110<cLine:=oG hu
 unfold PySem.delItem
 refine wpAny_holding (wpAny_bind (wpAny_sequenceKey (zN ho) (by decide) (wpAny_bind (wpAny_callSpecial?_slot (name:=Str.ofString "__delitem__") (zN ho) PySem.F.slot_dict_delitem
  (wpAny_call_entry PySem.F.slot_dict_delitem (zN ho) PySem.F.entry_dict_delitem ?_ (PySem.F.args_dict_delitem_2 _ _))))))
 show wpAny _ _ (Builtin.Dict.dictSlotArgs "__delitem__" ⟨[.ref p.1,y],[]⟩>>=_) _ _ s
 refine wpAny_bind (wpAny_bind (wpAny_notOrdered_dict (zN ho) (wpAny_pure ?_)))
 show wpAny _ _ (Builtin.Dict.takeOut p.1 y>>=_) _ _ s
 refine wpAny_bind (wpAny_holding (wpAny_bind (wP (A:=A.in1) (vJ hc1.1).1 hi u (wpAny_bind (eW (A:=A.in1) (s:={s with toks:=s.toks+j7 i}) X.j ho hr hn hc1.1 hi u ?_)))))
 have hs:=hc1.2
 rw[<-lL,GC] at hs
 refine xE (Option.isSome_iff_exists.mp hs) λj hf=> ?_
 refine xEA (gH hf) λe' he J=> ?_
 refine xEA (hr.get he) λde hd hrep=> ?_
 have hjl:j<ds.length:=(List.getElem?_eq_some_iff.mp hd).1
 have er:=sU hjl
 have hlen:=hr.length
 rw[hf]
 refine wpAny_bind (wpAny_dictEntries (s:={s with toks:=s.toks+j7 i}) ho rfl ?_)
 rw[List.getElem?_toArray,hd]
 refine wpAny_bind (wpAny_updateDictKeys (s:={s with toks:=s.toks+j7 i}) ho rfl (wpAny_pure (wpAny_bind (wpAny_letGo (wpAny_pure ⟨.none,rfl,wpAny_pure (jT (P:=λU'=>(∀s',zV C Nil Z U s Z U' s'->Q () s')->Q () _) h (λq=>q _ (zV.Q6 (jjD:=p.1) R hl e (.inl rfl) (Heap.SameBut.update ..) (λim=>⟨eq,ds.eraseIdx j,n+1,?_,?_,AH hn⟩) rfl rfl)) q)⟩)))) (hz:= ?_) (hf:= ?_))
 ·show(s.heap.update p.1 (Obj.mapDictKeys λx=>x.eraseIdxIfInBounds j)).get? p.1=_
  rw[Heap.get?_update_self _ ho (Obj.isFreed_of_dict (Obj.data_mapDictKeys rfl _))]
  show some ({dictOf ds n with data:= .dict (ds.toArray.eraseIdxIfInBounds j) (n+1)}:Obj)=_
  rw[er]
 ·rw[Gw hf]
  exact jW.erase (jW.keeps (λJ J e=>e) im hr)
 ·rw[List.size_toArray,<-hlen];exact qC hz
 ·rw[er,List.size_toArray,List.length_eraseIdx_of_lt hjl,List.size_toArray];omega
end
section
variable{C:Cx}{A:Around}{s:Shared}{Z:Emb}{U:St}{E:Value->Shared->Prop}
theorem c5{a:V×V}{r:List (V×V)}(h:jD (a::r)=true):∀z∈a::r,yZ z.1=true/\jR z.1=jR a.1:=λz hz=>by
 have h:=alA h
 refine(alC hz).elim (λe=>⟨by rw[e];exact h.1,by rw[e]⟩) λhz=> ?_
 exact(alA (alN h.2 z hz)).imp id eq_of_beq
theorem eB{es:List (V×V)}{p q:V×V}(h:jD es=true)(hp:p∈es)(hq:q∈es):yZ q.1=true/\jR p.1=jR q.1:=by
 cases es with
 |nil=>exact nomatch hp
 |cons a r=>exact⟨(c5 h q hq).1,(c5 h p hp).2.trans (c5 h q hq).2.symm⟩
theorem DN{u v:List (V×V)}(h:jD (u++v)=true){e:V×V}(he:e∈u):yD v e.1=true:=
 have k:=λx hx=>eB (p:=x) h hx (List.mem_append_left _ he)
 alB ⟨(k e (List.mem_append_left _ he)).1,List.all_eq_true.mpr λx hx=>beq_iff_eq.mpr (k x (List.mem_append_right _ hx)).2⟩
theorem xQ{u:List (V×V)}(h:jD u=true):jD (u++u)=true:=by
 cases u with
 |nil=>rfl
 |cons a r=>
  have k:=c5 h
  exact alB ⟨(k a (.head _)).1,List.all_eq_true.mpr λq hq=>alB ((k q ((List.mem_append.mp hq).elim (List.mem_cons_of_mem _) id)).imp id beq_iff_eq.mpr)⟩
def vN(u v:List (V×V))(da db:List DictEntry):Prop:=(∀e∈u++v,yY e.2=true)\/(da=db/\u=v/\∀e∈u,yY e.2=true\/Jt e.2=true)
theorem mB{A:Around}{s:Shared}{E:Value->Shared->Prop}{x:Value}{Q:Bool->Shared->Prop}(h:Q true s):wpAny (Mo C) A (eqBool x x) Q E s:=by
 unfold eqBool
 refine wpAny_holding ?_
 rw[if_pos (by simp)]
 exact wpAny_bind (wpAny_rule (wpAny_pure h))
theorem sE{u:List (V×V)}(hn:(u.map (·.1)).Nodup){i j:Nat}{e e':V×V}(hi:u[i]?=some e)(hj:u[j]?=some e')(he:e.1=e'.1):i=j:=oM hn hi hj he
theorem oC{es:List (V×V)}(hn:(es.map (·.1)).Nodup){i:Nat}{e:V×V}(hi:es[i]?=some e):yA es e.1=some e.2:=by
 rw[dlook_find?]
 cases hf:es.find? λx=>decide (x.1=e.1) with
 |none=>exact absurd rfl (of_decide_eq_false (alO (List.find?_eq_none.mp hf e (List.mem_of_getElem? hi))))
 |some e'=>
  refine xE (List.getElem?_of_mem (List.mem_of_find?_eq_some hf)) λj hj=> ?_
  have k:decide (e'.1=e.1)=true:=List.find?_some (p:=λx:V×V=>decide (x.1=e.1)) hf
  have ij:=oM hn hj hi (alH k)
  exact alQ (λx:V×V=>some x.2) (alS (hj.symm.trans (ij▸hi)))
theorem Ds{u:List (V×V)}(hn:(u.map (·.1)).Nodup):(u.all λe=>decide (yA u e.1=some e.2))=true:=List.all_eq_true.mpr λe he=>by
 refine xE (List.getElem?_of_mem he) λi hi=> ?_
 exact alG (oC hn hi)
theorem AM{v:List (V×V)}{k:V}{j:Nat}{e:V×V}(hj:(v.findIdx? λe=>decide (e.1=k))=some j)(he:v[j]?=some e):yA v k=some e.2:=by rw[aC,hj,Option.bind_some,he];rfl
theorem Cj{v:List (V×V)}{k:V}(hj:(v.findIdx? λe=>decide (e.1=k))=none):yA v k=none:=by rw[aC,hj];rfl
theorem aO(X:y9 C){nm:String}{a b:Addr}{u v:List (V×V)}{da db:List DictEntry}{na nb:Nat}{Q:Bool->Shared->Prop}(ha:(a==sysModules)=false)(hb:(b==sysModules)=false)
  (hoa:s.heap.get? a=some (dictOf da na))(hob:s.heap.get? b=some (dictOf db nb))(hra:jW C Z s.heap u da)(hrb:jW C Z s.heap v db)(hnb:(v.map (·.1)).Nodup)
  (hp:vN u v da db)(hk:jD (u++v)=true)(hu:A.units+110<cLine)
  (h:Q (u.length==v.length&&u.all λe=>decide (yA v e.1=some e.2)) s):wpAny (Mo C) A (Builtin.Dict.samePairs nm a b) Q E s:=by
 have hla:=hra.length
 have hlb:=hrb.length
 have hu64:A.units+64<cLine:=alI (Nat.add_le_add_left (by decide) _) hu
 unfold Builtin.Dict.samePairs Builtin.Dict.showsAll
 rw[if_neg (show¬(a==sysModules)=true by rw[ha];exact Bool.false_ne_true),if_neg (show¬(b==sysModules)=true by rw[hb];exact Bool.false_ne_true)]
 refine wpAny_bind (wpAny_pure (wpAny_bind (wpAny_pure (wpAny_bind (wpAny_dictEntries hoa rfl (wpAny_bind (wpAny_dictEntries hob rfl ?_)))))))
 show wpAny _ _ (if(da.toArray.size !=db.toArray.size)=true then _ else _) _ _ _
 by_cases hsz:da.length=db.length
 case neg=>
  rw[if_pos (show(da.toArray.size !=db.toArray.size)=true from bne_iff_ne.mpr hsz)]
  rw[beq_eq_false_iff_ne.mpr (by rw[hla,hlb];exact hsz),Bool.false_and] at h
  exact wpAny_bind (wpAny_rule (wpAny_pure h))
 case pos=>
  rw[beq_iff_eq.mpr (by rw[hla,hlb];exact hsz),Bool.true_and] at h
  rw[if_neg (show¬(da.toArray.size !=db.toArray.size)=true from λq=>bne_iff_ne.mp q hsz)]
  refine wpAny_bind (wpAny_dictEpoch hoa rfl (wpAny_bind ?_))
  rw[Std.Legacy.Range.forIn_eq_forIn_range']
  have hr0:List.range' 0 ((da.toArray.size-0+1-1)/1) 1=List.range' 0 da.length:=by rw[Nat.sub_zero,Nat.add_sub_cancel,Nat.div_one];rfl
  generalize hB:(u.all λe=>decide (yA v e.1=some e.2))=B at h
  refine wpAny_forIn_list _ (λrest q s'=>s'=s/\q=(none,())/\∃i,rest=List.range' i (da.length-i)/\i<=da.length/\B=((u.drop i).all λe=>decide (yA v e.1=some e.2))) _ ?_ ?_ _ _ ⟨rfl,rfl,0,hr0,Nat.zero_le _,hB.symm⟩
  ·rintro x rest q s' ⟨rfl,rfl,i,hr,hi,hpre⟩
   have hne:da.length-i≠0:=λe=>by rw[e] at hr;exact nomatch hr
   refine xE (Nat.exists_eq_succ_of_ne_zero hne) λm hm=> ?_
   rw[hm,List.range'_succ] at hr
   refine xA (List.cons.inj hr) λxi hrest=> ?_
   subst xi
   have hlt:x<da.length:=Nat.lt_of_sub_pos (Nat.pos_of_ne_zero hne)
   have hlt':x<u.length:=hla▸hlt
   have hux:u[x]?=some u[x]:=List.getElem?_eq_getElem hlt'
   refine xEA (hra.get hux) λde hd hrep=> ?_
   have hmem:u[x]∈u:=List.getElem_mem hlt'
   rw[List.drop_eq_getElem_cons hlt',List.all_cons] at hpre
   have hr:=hrep.is
   generalize u[x]=ux at*
   refine wpAny_bind (wpAny_dictEntries hoa rfl ?_)
   rw[List.getElem?_toArray,hd]
   show wpAny _ _ (holding [de.key,de.val] _>>=_) _ _ _
   refine wpAny_bind (wpAny_holding (wpAny_bind ?_))
   rw[hr.hash]
   refine eW X.j hob hrb hnb (DN hk hmem) hr.key hu ?_
   cases hj:v.findIdx? λe=>decide (e.1=ux.1) with
   |none=>
    rw[Cj hj] at hpre
    have hpre:B=false:=hpre
    exact wpAny_pure (wpAny_pure (wpAny_pure (hpre▸h)))
   |some j=>
    refine xEA (gH hj) λe' he' hek=> ?_
    refine xEA (hrb.get he') λde' hd' hrep'=> ?_
    have hr':=hrep'.is
    rw[AM hj he'] at hpre
    refine wpAny_bind (wpAny_dictEntries hob rfl ?_)
    rw[List.getElem?_toArray,hd']
    have hcmp:∀{Q':Bool->Shared->Prop} {E':Value->Shared->Prop},Q' (decide (ux.2=e'.2)) s'->wpAny (Mo C) A (eqBool de.val de'.val) Q' E' s':=λ{Q' E'} hq=>by
     refine hp.elim (λhp=>cB X.j (n:=8) (m:=8) (by decide) (hp _ (List.mem_append_left _ hmem)) (hp _ (List.mem_append_right _ (List.mem_of_getElem? he'))) hu64 hr.val hr'.val hq) λhp=> ?_
     refine xAA hp λe1 e2 hv=> ?_
     subst e1 e2
     have hji:=sE hnb hux he' (alH hek).symm
     have ed:=alS (hd.symm.trans (hji▸hd'))
     have eu:=alS (hux.symm.trans (hji▸he'))
     refine(hv _ hmem).elim (λp1=>cB X.j (n:=8) (m:=8) (by decide) p1 (eu▸p1) hu64 hr.val hr'.val hq) λp1=> ?_
     rw[alG (alQ Prod.snd eu)] at hq
     exact ed▸mB hq
    refine wpAny_holding (hcmp ?_)
    rw[show decide (some e'.2=some ux.2)=decide (ux.2=e'.2) from hG ⟨λq=>(alS q).symm,λq=>alQ some q.symm⟩] at hpre
    cases hc:decide (ux.2=e'.2) with
    |true=>
     rw[hc] at hpre
     show wpAny _ _ (dictEpoch a>>=_) _ _ _
     refine wpAny_bind (wpAny_dictEpoch hoa rfl ?_)
     rw[if_neg (by rw[bne_self_eq_false];exact Bool.false_ne_true)]
     exact wpAny_pure ⟨rfl,rfl,x+1,hrest.trans (alQ (List.range' (x+1) ·) (show m=da.length-(x+1) by omega)),hlt,hpre⟩
    |false=>
     rw[hc] at hpre
     have hpre:B=false:=hpre
     exact wpAny_pure (wpAny_pure (hpre▸h))
  ·rintro q s' ⟨rfl,rfl,i,hr,hi,hpre⟩
   have hin:i=da.length:=Nat.le_antisymm hi (Nat.le_of_sub_eq_zero ((List.length_range' (s:=i) (step:=1)).symm.trans (alQ List.length hr.symm)))
   rw[hin,<-hla,List.drop_length] at hpre
   have hpre:B=true:=hpre
   exact wpAny_pure (hpre▸h)
theorem eD(X:y9 C){a b:Addr}{u v:List (V×V)}{da db:List DictEntry}{na nb:Nat}{Q:Value->Shared->Prop}(ha:(a==sysModules)=false)(hb:(b==sysModules)=false)
  (hoa:s.heap.get? a=some (dictOf da na))(hob:s.heap.get? b=some (dictOf db nb))(hra:jW C Z s.heap u da)(hrb:jW C Z s.heap v db)(hnb:(v.map (·.1)).Nodup)
  (hp:vN u v da db)(hk:jD (u++v)=true)(hu:A.units+120<cLine)
  (h:Q (.bool (u.length==v.length&&u.all λe=>decide (yA v e.1=some e.2))) s):wpAny (Mo C) A (compareOp .Eq (.ref a) (.ref b)) Q E s:=by
 refine wpAny_richCompare_same_room (op:= .Eq) (zN hoa) (zN hob) PySem.F.slot_dict_eq (wpAny_call_entry PySem.F.slot_dict_eq (zN hoa) PySem.F.entry_dict_eq ?_ (PySem.F.args_dict_eq_2 _ _)) (alI (Nat.le_add_right _ _) hu)
 show wpAny _ _ (Builtin.Dict.dictSlotArgs "__eq__" ⟨[.ref a,.ref b],[]⟩>>=_) _ _ s
 refine wpAny_bind (wpAny_bind (wpAny_notOrdered_dict (zN hoa) (wpAny_pure (wpAny_bind (wpAny_isInstance (T:="dict") (zN hob) PySem.F.sub_dict_dict
  (wpAny_bind (wpAny_pure (wpAny_bind (wpAny_pure (wpAny_bind (aO (A:=A.in1) X ha hb hoa hob hra hrb hnb hp hk (pD hu) ?_)))))))))))
 exact wpAny_pure ⟨_,rfl,(λx=>nomatch x),(beq_true _).symm▸h⟩
theorem eV(X:y9 C){a b:Addr}{u v:List (V×V)}{da db:List DictEntry}{na nb:Nat}{Q:Value->Shared->Prop}(ha:(a==sysModules)=false)(hb:(b==sysModules)=false)
  (hoa:s.heap.get? a=some (dictOf da na))(hob:s.heap.get? b=some (dictOf db nb))(hra:jW C Z s.heap u da)(hrb:jW C Z s.heap v db)(hnb:(v.map (·.1)).Nodup)
  (hp:vN u v da db)(hk:jD (u++v)=true)(hu:A.units+120<cLine)
  (h:Q (.bool (!(u.length==v.length&&u.all λe=>decide (yA v e.1=some e.2)))) s):wpAny (Mo C) A (compareOp .NotEq (.ref a) (.ref b)) Q E s:=by
 refine wpAny_richCompare_same_room (op:= .NotEq) (zN hoa) (zN hob) PySem.F.slot_dict_ne (wpAny_call_entry PySem.F.slot_dict_ne (zN hoa) PySem.F.entry_dict_ne ?_ (PySem.F.args_dict_ne_2 _ _)) (alI (Nat.le_add_right _ _) hu)
 show wpAny _ _ (Builtin.Dict.dictSlotArgs "__ne__" ⟨[.ref a,.ref b],[]⟩>>=_) _ _ s
 refine wpAny_bind (wpAny_bind (wpAny_notOrdered_dict (zN hoa) (wpAny_pure (wpAny_bind (wpAny_isInstance (T:="dict") (zN hob) PySem.F.sub_dict_dict
  (wpAny_bind (wpAny_pure (wpAny_bind (wpAny_pure (wpAny_bind (aO (A:=A.in1) X ha hb hoa hob hra hrb hnb hp hk (pD hu) ?_)))))))))))
 exact wpAny_pure ⟨_,rfl,(λx=>nomatch x),(beq_false _).symm▸h⟩
theorem qY(X:y9 C){l:Loc}{es:List (V×V)}{p:Addr×Addr}(R:Rel C Z U s.heap)(h:U.get l=some (.dict es))(hi:Z l=some p):(p.1==sysModules)=false:=Hl X.sysm (R.QW h hi).RO
def Eqs(C:Cx)(A:Around)(E:Value->Shared->Prop)(s:Shared)(x y:Value)(r:Bool):Prop:=∀Q,(Q (.bool r) s->wpAny (Mo C) A (compareOp .Eq x y) Q E s)/\(Q (.bool (!r)) s->wpAny (Mo C) A (compareOp .NotEq x y) Q E s)
theorem Ey{x y:Value}{n m:Nat}(hn:n<=60)(hm:m<=60){da db:V}(r1:Rd C s.heap n x da)(r2:Rd C s.heap m y db)(hu:A.units+64<cLine):Eqs C A E s x y (decide (da=db)):=λQ=>by
 refine xAE r1 λg1 as ra=> ?_
 refine xAE r2 λg2 bs rb=> ?_
 have a:=c8 (alJ hn (by decide)) g1
 have b:=c8 (alJ hm (by decide)) g2
 exact⟨λq=>SeqAt.compareEq_shaped ra rb a b hu (by rw[aY g1 g2];exact q),λq=>SeqAt.compareNe_shaped ra rb a b hu (by rw[aY g1 g2];exact q)⟩
theorem Cq(X:y9 C){x y:Loc}{u v:List (V×V)}{p p':Addr×Addr}{r:Bool}(R:Rel C Z U s.heap)(hx:U.get x=some (.dict u))(hy:U.get y=some (.dict v))(e:Z x=some p)(e':Z y=some p')(hu:A.units+120<cLine)(h:pR x y u v=some r):Eqs C A E s (.ref p.1) (.ref p'.1) r:=λQ=>by
 have t1:=qY X R hx e
 have t2:=qY X R hy e'
 refine vA (qD R hx e) λJ ds n ho hr hn J=> ?_
 refine vA (qD R hy e') λJ ds' n' ho' hr' hn' J=> ?_
 refine j8 h (λhc h=> ?_) λJ h=>zK h λhc h2=> ?_
 ·have hc:=alA hc
  have hp:vN u v ds ds':= .inl (alN hc.1)
  apply jT h;exact⟨λz=>eD X t1 t2 ho ho' hr hr' hn' hp hc.2 hu z,λz=>eV X t1 t2 ho ho' hr hr' hn' hp hc.2 hu z⟩
 ·have hc:=alA hc
  have hd:=alA hc.1
  have exy:=alH hd.1
  subst exy
  have euv:=zU.dict.inj (alS (hx.symm.trans hy))
  subst euv
  have ep:=alS (e.symm.trans e')
  subst ep
  have ed:ds=ds':=alQ Array.toList (Data.dict.inj (alQ Obj.data (alS (ho.symm.trans ho')))).1
  have hp:vN u u ds ds:= .inr ⟨rfl,rfl,λx hx=>Bool.or_eq_true_iff.mp (alN hc.2 x hx)⟩
  have hself:(u.length==u.length&&u.all λe=>decide (yA u e.1=some e.2))=true:=alB ⟨beq_self_eq_true _,Ds hn⟩
  apply jT h2;exact⟨λz=>eD X t1 t1 ho ho hr hr hn hp (xQ hd.2) hu (by rw[hself];exact z),λz=>eV X t1 t1 ho ho hr hr hn hp (xQ hd.2) hu (by rw[hself];exact z)⟩
theorem Et(X:y9 C){a b:V}{x y:Value}{r:Bool}(R:Rel C Z U s.heap)(ha:zS C Z s.heap a x)(hb:zS C Z s.heap b y)(hu:A.units+130<cLine)(h:nC U a b=some r):Eqs C A E s x y r:=by
 have u64:A.units+64<cLine:=alI (Nat.add_le_add_left (by decide) _) hu
 refine j8 h (λhc h=> ?_) λJ h=> ?_
 ·have hc:=alA hc
  apply jT h;exact(Ey (by decide) (by decide) (vM X.j hc.1 ha) (vM X.j hc.2 hb) u64)
 ·cases ea:a.Rr with
  |some p=>
   rw[ea] at h
   refine zB h λq eb h=>jT h λQ=> ?_
   have e1:x= .bool p:=(dD ea▸ha).Rq
   have e2:y= .bool q:=(dD eb▸hb).Rq
   rw[e1,e2]
   exact⟨λz=>PyProof.Rows.eq_bool z,λz=>PyProof.Rows.ne_bool (by cases p<;>cases q<;>exact z)⟩
  |none=>
   rw[ea] at h
   refine zB h λl el h=>zB h λl' el' h=> ?_
   refine jM h (λvs hl h=>zB h λvs' hl' h=>zB h λp hp h=>zB h λq hq h=> ?_) (λus hl h=>zB h λvs hl' h=> ?_) λJ J h=>zG h
   ·apply jT h;exact(Ey (by decide) (by decide) (d7 X.j R hp (qG el▸ha)) (d7 X.j R hq (qG el'▸hb)) u64)
   ·apply ha.QG el;intro p e
    apply hb.QG el';intro p' e'
    exact Cq X R hl (tK hl') e e' (alI (Nat.add_le_add_left (by decide) _) hu) h
theorem iJ{y:Value}{b:V}{q:Bool}(hb:zS C Z s.heap b y)(h:n5 b=some q){Q:Bool->Shared->Prop}(k:Q q s):wpAny (Mo C) A (PySem.isSame .none y) Q E s/\wpAny (Mo C) A (PySem.isSame y .none) Q E s:=by
 refine j8 h (λhn h=> ?_) λJ h=>zK h λhl h=> ?_
 ·have k:Q true s:=alS h▸k
  apply hb.Rm hn;exact⟨wpAny_pure k,wpAny_pure k⟩
 ·have k:Q false s:=alS h▸k
  refine(Bool.or_eq_true_iff.mp hl).elim (λhl=> ?_) λhl=> ?_
  ·refine xE (Option.isSome_iff_exists.mp hl) λl hl=> ?_
   apply hb.QG hl;exactλJ J=>⟨wpAny_pure k,wpAny_pure k⟩
  ·refine xE (Option.isSome_iff_exists.mp hl) λl hl=> ?_
   apply hb.getTup hl;exactλJ J J J=>⟨wpAny_pure k,wpAny_pure k⟩
theorem bZ{b:V}(h:n5 b=some true):b.isNone=true:=j8 h (λh J=>h) λJ h=>zK h λJ h=>nomatch h
theorem qE.no_tup{a d:Addr}{h:Heap}{o:zU}(r:qE C Z h a d o):∃z,h.get? a=some z/\z.cls≠ .type "tuple":=by
 cases o with
 |list _=>refine dE r λJ J J q J=> ?_;exact⟨_,q,uN (by decide)⟩
 |dict _=>refine dE r λJ J J q J=> ?_;exact⟨_,q,uN (by decide)⟩
 |Qz _ _=>refine dE r λJ J J q J=> ?_;exact⟨_,q,λe=>nomatch e⟩
 |QA _=>refine Ed r λJ J q J=> ?_;exact⟨_,q,uN (by decide)⟩
theorem Ba{a b:V}{x y:Value}{r:Bool}{Q:Bool->Shared->Prop}(R:Rel C Z U s.heap)(ha:zS C Z s.heap a x)(hb:zS C Z s.heap b y)
  (h:isSame U a b=some r)(q:Q r s):wpAny (Mo C) A (PySem.isSame x y) Q E s:=by
 refine zB h λp1 h1 h=>zB h λp2 h2 h=>j8 h (λhc h=> ?_) λJ h=>zB h λl el h=>zB h λl' el' h=>zK h λhc h=> ?_
 ·have q:Q (p1&&p2) s:=alS h▸q
  cases p1 with
  |true=>apply ha.Rm (bZ h1);exact(iJ hb h2 q).1
  |false=>
   have e2:p2=true:=hc
   subst e2
   apply hb.Rm (bZ h2);exact(iJ ha h1 q).2
 ·have q:Q (decide (l=l')) s:=alS h▸q
  apply ha.QG el;intro p e
  apply hb.QG el';intro p' e'
  by_cases hll:l=l'
  ·subst hll
   rw[alG rfl] at q
   exact alS (e.symm.trans e')▸wpAny_isSame_ref_self q
  ·rw[decide_eq_false hll] at q
   have hc:=alA hc
   refine xE (Option.isSome_iff_exists.mp hc.1) λo ho=> ?_
   refine xE (Option.isSome_iff_exists.mp hc.2) λo' ho'=> ?_
   refine xEA ((qE.of R ho e).no_tup) λz hz J=> ?_
   refine xEA ((qE.of R ho' e').no_tup) λz' hz' nz'=> ?_
   exact SeqAt.wpAny_isSame_ref_other' (R.inj l l' _ _ (qL ho) (qL ho') e e' hll).1 hz hz' nz' q
theorem Al{n m:Nat}{u:V}(hu:dM C m u){l:List V}:(∀v∈l,dM C n v)->((fM C l).any λy=>PyData.eqv y (rU C u))=l.any λx=>decide (x=u):=by
 induction l with
 |nil=>exactλJ=>rfl
 |cons v r ih=>
  intro h
  show(PyData.eqv (rU C v) (rU C u)||(fM C r).any λy=>PyData.eqv y (rU C u))=(decide (v=u)||r.any λx=>decide (x=u))
  rw[ih λw hw=>h w (.tail _ hw),aY (h v (.head _)) hu]
def Ins(C:Cx)(A:Around)(E:Value->Shared->Prop)(s:Shared)(x y:Value)(r:Bool):Prop:=∀Q,((∀t,Q (.bool r) {s with toks:=t})->wpAny (Mo C) A (compareOp .In x y) Q E s)/\((∀t,Q (.bool (!r)) {s with toks:=t})->wpAny (Mo C) A (compareOp .NotIn x y) Q E s)
theorem AG(X:y9 C){a:V}{x y:Value}{l:List V}{xs:List Value}(ha:zS C Z s.heap a x)(hu:A.units+64<cLine)(r:zW C Z s.heap l xs)(hc:(l.all yY&&yY a)=true)
  (k:∀{d as bs},ReadsAll s.heap xs (fM C l) as->Reads s.heap x d bs->PyData.canLayAll0 (fM C l)=true->d.canLay0=true->A.units+1+min (PyData.depthAll (fM C l)) d.depth<cLine->
   ∀Q,(Q (.bool ((fM C l).any λy=>PyData.eqv y d)) s->wpAny (Mo C) A (compareOp .In x y) Q E s)/\(Q (.bool (!(fM C l).any λy=>PyData.eqv y d)) s->wpAny (Mo C) A (compareOp .NotIn x y) Q E s)):Ins C A E s x y (l.any λx=>decide (x=a)):=λQ=>by
 have hc:=alA hc
 have al:=sM X.j (alN hc.1) r
 refine xAE (rds al) λg as q=> ?_
 refine xAE (vM X.j hc.2 ha) λg' bs q'=> ?_
 have lay:PyData.canLayAll0 (fM C l)=true:=(kqd_lay 9 (.list (hU C l)) g.1).1
 have z:=k q q' lay (yQ g').1 (alI (by rw[Nat.add_assoc];exact Nat.add_le_add_left (alJ (Nat.add_le_add_left (alJ (Nat.min_le_right _ _) (yQ g').2) 1) (by decide)) _) hu) Q
 rw[Al g' λv hv=>let⟨_,_,r⟩:=al.mem' hv;r.1] at z
 exact⟨λq=>z.1 (q s.toks),λq=>z.2 (q s.toks)⟩
theorem DR(X:y9 C){a b:V}{x y:Value}{r:Bool}(R:Rel C Z U s.heap)(ha:zS C Z s.heap a x)(hb:zS C Z s.heap b y)(hu:A.units+130<cLine)(h:Ou U a b=some r):Ins C A E s x y r:=by
 have u64:A.units+64<cLine:=alI (Nat.add_le_add_left (by decide) _) hu
 refine yN h (λJ J h=>zG h) (λJ J h=>zG h) (λl e h=>zK h λhc h=> ?_) (λJ J h=>zG h) λl e h=>jM h (λvs hl h=>zK h λhc h=> ?_) (λes hl h=>zK h λhc h=> ?_) λJ J h=>zG h
 ·apply jT h
  apply(e▸hb).QR;intro p xs ht hr
  refine mV ht λo ho hcl k hd=> ?_
  exact AG X ha u64 hr hc λq q' z1 z2 z3 Q=>⟨SeqAt.in_tuple_reads (Reads.tuple ho hcl hd q) q' z1 z2 z3,SeqAt.notIn_tuple_reads (Reads.tuple ho hcl hd q) q' z1 z2 z3⟩
 ·apply jT h
  apply(e▸hb).QK;intro p hp
  refine vE (yE R hl hp) λxs n ho hr=> ?_
  exact AG X ha u64 hr hc λq q' z1 z2 z3 Q=>⟨SeqAt.in_list_reads (Reads.list ho rfl rfl q) q' z1 z2 z3,SeqAt.notIn_list_reads (Reads.list ho rfl rfl q) q' z1 z2 z3⟩
 ·apply jT h
  apply(e▸hb).QK;intro p hp Q
  refine vA (qD R hl hp) λJ ds n ho hr hn J=> ?_
  have u:A.units+120<cLine:=alI (Nat.add_le_add_left (by decide) _) hu
  have t:=qY X R hl hp
  exact⟨λz=>wpAny_bind (eM X.j t ho hr hn hc ha u (wpAny_pure (z _))),λz=>wpAny_bind (eM X.j t ho hr hn hc ha u (wpAny_pure (z _)))⟩
theorem Hu(X:y9 C){op:CmpOp}{a b:V}{x y:Value}{r:Bool}{Q:Value->Shared->Prop}(R:Rel C Z U s.heap)(ha:zS C Z s.heap a x)(hb:zS C Z s.heap b y)(hu:A.units+130<cLine)
  (h:cG op a b U=some r)(q:∀t,Q (.bool r) {s with toks:=t}):wpAny (Mo C) A (compareOp op x y) Q E s:=by
 have RB:∀{f:Int->Int->Option Bool},lR a b f=some r->(∀i t j u,f i j=some r->wpAny (Mo C) A (compareOp op (.int i t) (.int j u)) Q E s)->wpAny (Mo C) A (compareOp op x y) Q E s:=λh k=>by
  apply ha.getInts h hb;exact k
 have q0:=q s.toks
 cases op with
 |Eq=>exact(Et X R ha hb hu h Q).1 q0
 |NotEq=>exact zB h λr' h' h=>(Et X R ha hb hu h' Q).2 (by rw[alS h];exact q0)
 |Is=>exact wpAny_bind (Ba R ha hb h (wpAny_pure q0))
 |IsNot=>exact zB h λr' h' h=>wpAny_bind (Ba R ha hb h' (wpAny_pure (by rw[alS h];exact q0)))
 |In=>exact(DR X R ha hb hu h Q).1 q
 |NotIn=>exact zB h λr' h' h=>(DR X R ha hb hu h' Q).2 (by rw[alS h];exact q)
 |Lt=>exact RB h λJ J J J h=>PyProof.Rows.lt_int (by rw[alS h];exact q0)
 |LtE=>exact RB h λJ J J J h=>PyProof.Rows.le_int (by rw[alS h];exact q0)
 |Gt=>exact RB h λJ J J J h=>PyProof.Rows.gt_int (by rw[alS h];exact q0)
 |GtE=>exact RB h λJ J J J h=>PyProof.Rows.ge_int (by rw[alS h];exact q0)
end
theorem Ei:mroOf (.type "bytearray")=pure [.type "bytearray",.type "object"]:=by rw[mroOf_type];kernel_rfl
theorem fJ:typeLookup (.type "bytearray") "__new__"=pure (some (.builtin "bytearray.__new__")):=by rw[typeLookup_type,builtinLookup_eq_fast];kernel_rfl
theorem y6:Slot "bytearray" "__init__" "bytearray.__init__":=
 .of (owner:="bytearray") (n:="__init__") (by rw[typeLookup_type,builtinLookup_eq_fast];kernel_rfl) (by decide+kernel) (by decide+kernel) (by decide+kernel)
  (by first|exact .inl (by decide+kernel)|exact .inr (by decide+kernel)) (by rw[isSubtype_type];kernel_rfl)
theorem nO:Slot "bytearray" "__len__" "bytearray.__len__":=
 .of (owner:="bytearray") (n:="__len__") (by rw[typeLookup_type,builtinLookup_eq_fast];kernel_rfl) (by decide+kernel) (by decide+kernel) (by decide+kernel)
  (by first|exact .inl (by decide+kernel)|exact .inr (by decide+kernel)) (by rw[isSubtype_type];kernel_rfl)
theorem jS:Slot "bytearray" "__getitem__" "bytearray.__getitem__":=
 .of (owner:="bytearray") (n:="__getitem__") (by rw[typeLookup_type,builtinLookup_eq_fast];kernel_rfl) (by decide+kernel) (by decide+kernel) (by decide+kernel)
  (by first|exact .inl (by decide+kernel)|exact .inr (by decide+kernel)) (by rw[isSubtype_type];kernel_rfl)
theorem aP:Slot "bytearray" "__iter__" "bytearray.__iter__":=
 .of (owner:="bytearray") (n:="__iter__") (by rw[typeLookup_type,builtinLookup_eq_fast];kernel_rfl) (by decide+kernel) (by decide+kernel) (by decide+kernel)
  (by first|exact .inl (by decide+kernel)|exact .inr (by decide+kernel)) (by rw[isSubtype_type];kernel_rfl)
theorem yK:Slot "bytearray_iterator" "__next__" "bytearray_iterator.__next__":=
 .of (owner:="bytearray_iterator") (n:="__next__") (by rw[typeLookup_type,builtinLookup_eq_fast];kernel_rfl) (by decide+kernel) (by decide+kernel) (by decide+kernel)
  (by first|exact .inl (by decide+kernel)|exact .inr (by decide+kernel)) (by rw[isSubtype_type];kernel_rfl)
theorem aQ:Slot "bytearray_iterator" "__iter__" "bytearray_iterator.__iter__":=
 .of (owner:="bytearray_iterator") (n:="__iter__") (by rw[typeLookup_type,builtinLookup_eq_fast];kernel_rfl) (by decide+kernel) (by decide+kernel) (by decide+kernel)
  (by first|exact .inl (by decide+kernel)|exact .inr (by decide+kernel)) (by rw[isSubtype_type];kernel_rfl)
theorem fV:entryFor table "bytearray.__init__"=some Builtin.«bytearray.__init__»:=by first|exact entryFor_of_fast (by kernel_rfl)|exact entryFor_of_tree (by kernel_rfl)
theorem lP:entryFor table "bytearray.__len__"=some Builtin.«bytearray.__len__»:=by first|exact entryFor_of_fast (by kernel_rfl)|exact entryFor_of_tree (by kernel_rfl)
theorem uD:entryFor table "bytearray.__getitem__"=some Builtin.«bytearray.__getitem__»:=by first|exact entryFor_of_fast (by kernel_rfl)|exact entryFor_of_tree (by kernel_rfl)
theorem fT:entryFor table "bytearray.__iter__"=some Builtin.«bytearray.__iter__»:=by first|exact entryFor_of_fast (by kernel_rfl)|exact entryFor_of_tree (by kernel_rfl)
theorem wV:entryFor table "bytearray_iterator.__next__"=some Builtin.«bytearray_iterator.__next__»:=by first|exact entryFor_of_fast (by kernel_rfl)|exact entryFor_of_tree (by kernel_rfl)
theorem f8:entryFor table "bytearray_iterator.__iter__"=some Builtin.«dict_keyiterator.__iter__»:=entryFor_alias (id':="dict_keyiterator.__iter__") (by kernel_rfl) rfl (by decide+kernel) (by kernel_rfl)
theorem hZ:entryFor table "bytearray.__new__"=some Builtin.«list.__new__»:=entryFor_alias (id':="list.__new__") (by kernel_rfl) rfl (by decide+kernel) (by kernel_rfl)
theorem lN(a b:Value):argsOk "bytearray.__init__" ⟨[a,b],[]⟩:=by unfold argsOk;kernel_rfl
theorem m9(a:Value):argsOk "bytearray.__len__" ⟨[a],[]⟩:=by unfold argsOk;kernel_rfl
theorem uU(a b:Value):argsOk "bytearray.__getitem__" ⟨[a,b],[]⟩:=by unfold argsOk;kernel_rfl
theorem iT(a:Value):argsOk "bytearray.__iter__" ⟨[a],[]⟩:=by unfold argsOk;kernel_rfl
theorem aS(a:Value):argsOk "bytearray_iterator.__next__" ⟨[a],[]⟩:=by unfold argsOk;kernel_rfl
theorem iB(a:Value):argsOk "bytearray_iterator.__iter__" ⟨[a],[]⟩:=by unfold argsOk;kernel_rfl
theorem kD:TypeCalled "bytearray" "bytearray.__new__" "bytearray.__init__":=
 ⟨by decide+kernel,by decide+kernel,⟨_,_,Ei⟩,madeBy_type Ei fJ (by decide+kernel),by decide+kernel,by rw[isSubtype_type];kernel_rfl,y6⟩
theorem nL(a:Value):checkTypeCall "bytearray" ⟨[a],[]⟩=pure ():=by kernel_rfl
theorem sN(a:Value):checkBuiltinCall "bytearray.__new__" ⟨[.type "bytearray",a],[]⟩=pure ():=by kernel_rfl
theorem aR:plainId "bytearray.__new__"=true:=by decide+kernel
theorem AQ:isSubtype (.type "bytearray") (.type "bytearray")=pure true:=by rw[isSubtype_type];kernel_rfl
set_option maxRecDepth 1000000 in
set_option maxHeartbeats 4000000 in
theorem CJ:("bytearray.__new__".splitOn ".__new__").headD ""="bytearray":=by simp+decide [String.splitOn,String.splitOnAux]
section
variable{prog:Program}{w:World}{A:Around}{E:Value->Shared->Prop}{s:Shared}
theorem kW{a:Addr}{b:Array UInt8}{Q:Array UInt8->Shared->Prop}(h:s.heap.get? a=some (jU b))(q:Q b s):wpAny (model prog w) A (Builtin.Bytes.payload (.ref a)) Q E s:=by
 unfold Builtin.Bytes.payload Builtin.Bytes.payload?
 exact wpAny_bind (wpAny_bind (wpAny_load h (wpAny_pure (wpAny_pure q))))
theorem y5{a:Addr}{b:Array UInt8}(h:s.heap.get? a=some (jU b)):s.TypeIs (.ref a) "bytearray":=⟨_,h,rfl⟩
theorem nN(x:Value){Q₁:Value->Shared->Prop}(h:Q₁ (.ref s.heap.objs.size) {s with heap:=s.heap.push (jU #[])}):
  codeAny (model prog w) A (.call (.builtin "bytearray.__new__") ⟨[.type "bytearray",x],[]⟩) (wants Q₁ E) s:=by
 refine codeAny_of_tree ?_
 show wpAny _ A.in1 (do checkBuiltinCall "bytearray.__new__" ⟨[.type "bytearray",x],[]⟩;again (.builtin "bytearray.__new__" ⟨[.type "bytearray",x],[]⟩)) _ _ s
 refine wpAny_bind (wpAny_of_eq (sN x) (wpAny_pure ⟨plainId_quiet aR _,codeAny_builtin_stack hZ rfl λp st=> ?_⟩))
 rw[Around.under_plainId aR _]
 have hsub:=AQ
 have hown:=CJ
 obtain⟨hp,g,d,tk,os⟩:=s
 simp only[hown]
 wp_walk
 exact h
theorem cM:typeLookup (.type "bytearray") "__release_buffer__"=pure (some (.builtin "bytearray.__release_buffer__")):=by rw[typeLookup_type,builtinLookup_eq_fast];kernel_rfl
theorem FX(v:Value):Builtin.Bytes.bindOptional "bytearray.__init__" "bytearray" ["source","encoding","errors"] [v] []=pure [some v,none,none]:=by kernel_rfl
theorem m3:typeLookup (.type "bytes") "__index__"=pure none:=by rw[typeLookup_type,builtinLookup_eq_fast];kernel_rfl
theorem f6{a:Addr}{Q:Bool->Shared->Prop}(hT:s.TypeIs (.ref a) "bytearray")(h:Q false s):wpAny (model prog w) A (Builtin.Bytes.ownRelease (.ref a)) Q E s:=by
 have key:∀x:String,x="bytearray"->wpAny (model prog w) A (isInstance (.ref a) (.type x)) (λr s'=>Q (!r) s') E s:=λx hx=>by
  rw[hx];exact wpAny_isInstance hT AQ h
 unfold Builtin.Bytes.ownRelease Builtin.Bytes.slotIsOwn
 refine wpAny_bind (wpAny_bind (wpAny_specialOf hT cM ?_))
 dsimp only
 split
 ·rename_i hx
  exact absurd hx (by decide+kernel)
 ·exact wpAny_mono (key _ (by decide+kernel)) (λr s' q=>wpAny_pure q) λJ J x=>x
theorem AF{b:Array UInt8}{t:Tok}{id:String}:Builtin.Bytes.buffer? id (.bytes b t) true=pure (some b):=by
 unfold Builtin.Bytes.buffer?
 rw[KBy.special_eq KBy.look_buffer,KBy.own_buffer,KBy.own_release]
 kernel_rfl
theorem rH{a:Addr}{b c:Array UInt8}{f:Array UInt8->Array UInt8}{Q:Unit->Shared->Prop}(ho:s.heap.get? a=some (jU b))(hf:f b=c)(hz:c.size<=sizeLine)
  (h:∀h',h'.get? a=some (jU c)->Heap.SameBut a s.heap h'->Q () {s with heap:=h'}):wpAny (model prog w) A (Builtin.Bytes.write (.ref a) f) Q E s:=by
 show wpAny _ _ (updateBytearray a f) _ _ _
 unfold updateBytearray
 refine wpAny_bind (wpAny_load ho ?_)
 show wpAny _ _ (update a (Obj.mapBytearray f)>>=λJ=>lookBehind a) _ _ _
 have hS:(s.heap.update a (Obj.mapBytearray f)).get? a=some (jU c):=by
  rw[<-hf]
  exact Heap.get?_update_self (Obj.mapBytearray f) ho rfl
 refine wpAny_bind (wpAny_update ho ?_)
 refine wpAny_lookBehind hS ?_ (h _ hS (Heap.SameBut.update ..))
 show(if c.size>sizeLine then some "bytearray:memory" else none)=none
 rw[if_neg (by omega)]
theorem GP{a:Addr}{h h' h'':Heap}(x:Heap.SameBut a h h')(y:Heap.SameBut a h' h''):Heap.SameBut a h h'':=⟨y.1.trans x.1,λb hb=>(y.2 b hb).trans (x.2 b hb)⟩
theorem CT{self:Value}{b:Array UInt8}{t:Tok}:∃(X1 X3 X4:Sem Fin) (X2:List (Option Value)->Sem Fin) (X5:Option (Array UInt8)->Sem Fin),
  Builtin.«bytearray.__init__» ⟨[self,.bytes b t],[]⟩=(Builtin.Bytes.ownRelease self>>=λr=>if r=true then X1 else Builtin.Bytes.bindOptional "bytearray.__init__" "bytearray" ["source","encoding","errors"] [.bytes b t] []>>=X2)/\
  X2 [some (.bytes b t),none,none]=((Builtin.Bytes.exported self <||>(do return (<-Builtin.Bytes.exportsOf self)>0))>>=λr=>if r=true then X3 else Builtin.Bytes.write self (λJ=> #[])>>=λJ=>specialOf (.bytes b t) "__index__">>=λo=>if o.isSome=true then X4 else Builtin.Bytes.buffer? "bytearray.__init__" (.bytes b t) true>>=X5)/\
  X5 (some b)=(rule "bytearray.__init__.bytes-like">>=λJ=>Builtin.Bytes.write self (λJ=>b)>>=λJ=>ret .none):=⟨_,_,_,_,_,rfl,rfl,rfl⟩
theorem Gq{a:Addr}{b:Array UInt8}{t:Tok}{Q:Fin->Shared->Prop}(ho:s.heap.get? a=some (jU #[]))(hz:b.size<=sizeLine)
  (h:∀h',h'.get? a=some (jU b)->Heap.SameBut a s.heap h'->Q (.done (.ret .none)) {s with heap:=h'}):
  wpC (model prog w) A (Builtin.«bytearray.__init__» ⟨[.ref a,.bytes b t],[]⟩) Q E s:=by
 refine qX (CT (self:= .ref a) (b:=b) (t:=t)) λX1 X3 X4 X2 X5 e1 e2 e3=> ?_
 refine cI e1 (zM (f6 (y5 ho) (zM (wpAny_of_eq (FX _) (cI e2 (zA (zA (lD ?_))))))))
 refine zM ?_
 unfold Builtin.Bytes.exportsOf
 refine wpAny_bind (wpAny_load ho (wpAny_pure (zD ?_)))
 refine zM (rH ho (c:= #[]) rfl (by rw[sizeLine_eq];decide) λh1 g1 b1=> ?_)
 refine zM (wpAny_of_eq (KBy.special_eq m3) (zM (wpAny_of_eq AF (cI e3 (zM (wpAny_rule (zM (rH g1 (c:=b) rfl hz λh2 g2 b2=> ?_))))))))
 exact zL (wpAny_pure (h h2 g2 (GP b1 b2)))
theorem GA(a b:Value)(p:Pos)(self:Value):iZ self (.builtin "bytearray.__init__" ⟨[a,b],[]⟩,p)=false:=by
 have e:iZ self (.builtin "bytearray.__init__" ⟨[a,b],[]⟩,p)=((Builtin.Bytes.sameRef a self&&false)||false):=by kernel_rfl
 rw[e,Bool.and_false];rfl
theorem w5{R:Result->Shared->Prop}{id:String}{args:Args}{b:Builtin}(hok:∀p,okC (.builtin id args,p))(hb:entryFor table id=some b)
  (h:wpC (model prog w) (A.under (.builtin id args)) (b args)
   (λfin s'=>match fin with| .done f=>R (.ok f) s'| .again c'=>c'.quiet=true/\jK (model prog w) A c' R s') (λe s'=>R (.error e) s') s):
  jK (model prog w) A (.builtin id args) R s:=by
 refine zZ ?_ hok
 show wpC _ _ (match entryFor table id with|some b=>b args|none=>unsupported ((withoutEnding? id "#data").getD id)) _ _ s
 rw[hb];exact h
theorem kA{R:Result->Shared->Prop}{id:String}{args:Args}{b:Builtin}(hok:∀p,okC (.builtin id args,p))(hq:plainId id=true)(hb:entryFor table id=some b)
  (h:wpAny (model prog w) A.in1 (checkBuiltinCall id args) (λJ s₁=>wpC (model prog w) A.in1 (b args)
   (λfin s'=>match fin with| .done f=>R (.ok f) s'| .again c'=>c'.quiet=true/\jK (model prog w) A c' R s') (λe s'=>R (.error e) s') s₁)
   (λe s'=>R (.error e) s') s):jK (model prog w) A (.call (.builtin id) args) R s:=by
 refine zZ ?_ (λJ J=>rfl)
 show wpC _ A.in1 (do checkBuiltinCall id args;again (.builtin id args)) _ _ s
 refine zM (wpAny_mono h (λJ s₁ h₁=>zD (And.intro (plainId_quiet hq args) (w5 hok hb ?_))) λJ J h'=>h')
 rw[Around.under_plainId hq args];exact h₁
theorem GD{b:Array UInt8}{t:Tok}{Q:Value->Shared->Prop}(hz:b.size<=sizeLine)
  (h:∀h',h'.get? s.heap.objs.size=some (jU b)->Heap.SameBut s.heap.objs.size (s.heap.push (jU #[])) h'->Q (.ref s.heap.objs.size) {s with heap:=h'}):
  wpC (model prog w) A (call (.type "bytearray") [.bytes b t]) Q E s:=by
 refine xEE kD.mro λc tl hmro=> ?_
 refine vP (zZ ?_ (λJ J=>rfl))
 show wpC _ _ (callAny (.type "bytearray") _) _ _ _
 refine zD ⟨Code.quiet_builtin _ (by decide+kernel),w5 (λJ J=>rfl) F.entry_type_call ?_⟩
 rw[Around.under_plain (weight_type_call_type "bytearray" [.bytes b t] []) rfl]
 unfold Builtin.«type.__call__»
 dsimp only
 simp-iota only[kD.notType,Bool.false_eq_true,if_false,kD.canCreate]
 refine zM (wpAny_of_eq (nL _) ?_)
 refine zM (wpAny_of_eq hmro ?_)
 simp-iota only[List.isEmpty_cons,Bool.false_eq_true,if_false]
 refine zM (wpAny_of_eq kD.made ?_)
 dsimp only
 refine zM (wpAny_pure ?_)
 refine zM (wpAny_holding (wpAny_call (codeAny_mono (nN (Q₁:=λv s'=>v= .ref s.heap.objs.size/\s'={s with heap:=s.heap.push (jU #[])}) (E:=λJ J=>False) (.bytes b t) ⟨rfl,rfl⟩) λr s' hr=> ?_)))
 rcases r with e|(v|_|_|_)<;>first|exact hr.elim|skip
 refine xA hr λe_0 e_1=> ?_
 subst e_0
 subst e_1
 have ho:(s.heap.push (jU #[])).get? s.heap.objs.size=some (jU #[]):=Heap.get?_push_size _ rfl
 have hT:({s with heap:=s.heap.push (jU #[])}:Shared).TypeIs (.ref s.heap.objs.size) "bytearray":=⟨_,ho,rfl⟩
 refine zM (wpAny_isInstance hT AQ ?_)
 simp-iota only[Bool.not_true,Bool.false_eq_true,if_false]
 refine zA (zF ?_)
 unfold callSpecial?
 refine zM (wpAny_specialOf hT y6.lookup ?_)
 dsimp only
 refine zF ?_
 refine zM (wpAny_of_eq (y6.bind _) ?_)
 dsimp only
 refine zA (vP (kA (GA _ _) y6.plain fV (y6.check _ _ _ _ _ _ _ _ hT (lN _ _) ?_)))
 refine Gq (s:={s with heap:=s.heap.push (jU #[])}) ho hz λh' g' b'=> ?_
 refine zD ?_
 show wpC _ _ (if(Value.none !=Value.none)=true then _ else _) _ _ _
 rw[if_neg (by decide)]
 exact zD (h h' g' b')
theorem pT{T id:String}{B:Builtin}{v:Value}{n:Nat}{Q:Value->Shared->Prop}(hT:s.TypeIs v T)(slot:Slot T "__len__" id)(entry:entryFor table id=some B)(args:argsOk id ⟨[v],[]⟩)(hn:n<2 ^ 62)
  (hb:∀(A':Around) (Q':Fin->Shared->Prop),Q' (.done (.ret (.int n s.toks))) {s with toks:=s.toks+1}->wpAny (model prog w) A' (B ⟨[v],[]⟩) Q' E s)
  (h:Q (.int n (s.toks+1)) {s with toks:=s.toks+1+1}):wpAny (model prog w) A (call (.builtin "len") [v]) Q E s:=by
 refine Calls.call_function_entry kind_len plain_len entry_len (args_len1 _) ?_
 unfold Builtin.«len»
 refine wpAny_bind (m:=oneArg "len" _) (wpAny_pure ?_)
 refine wpAny_bind (m:=callSpecial? v (Str.ofString "__len__")) (wpAny_callSpecial?_slot (name:=Str.ofString "__len__") hT slot (wpAny_call_entry slot hT entry (hb _ _ ⟨_,rfl,?_⟩) args))
 refine wpAny_bind (wpAny_holding (wpAny_pure ?_))
 refine wpAny_bind (wpAny_letGo ?_)
 show wpAny _ _ (if((n:Nat):Int)<0 then _ else _) _ _ _
 rw[if_neg (by omega)]
 show wpAny _ _ (if((n:Nat):Int)>=2 ^ 63 then _ else _) _ _ _
 rw[if_neg (by omega)]
 exact wpAny_bind (wpAny_mkInt (wpAny_pure ⟨_,rfl,h⟩))
theorem JX{a:Addr}{b:Array UInt8}{Q:Value->Shared->Prop}(ho:s.heap.get? a=some (jU b))(hz:b.size<2 ^ 62)(h:Q (.int b.size (s.toks+1)) {s with toks:=s.toks+1+1}):wpAny (model prog w) A (call (.builtin "len") [.ref a]) Q E s:=by
 refine pT (y5 ho) nO lP (m9 _) hz (λA' Q' q=> ?_) h
 show wpAny _ _ (Builtin.Bytes.payload (.ref a)>>=_) _ _ _
 exact wpAny_bind (kW ho (wpAny_bind (wpAny_mkInt (wpAny_pure q))))
theorem AR{k:Int}{n:Nat}(h:0<=k)(hn:k.toNat<n):seqIndex? k n=some k.toNat:=
 (alQ (λj:Int=>if(decide (0<=j)&&decide (j<n))=true then some j.toNat else none) (if_neg (Int.not_lt.mpr h))).trans (if_pos (alB ⟨alG h,alG ((Int.toNat_lt h).mp hn)⟩))
theorem FN{a:Addr}{b:Array UInt8}{k:Int}{t:Tok}{c:UInt8}{Q:Value->Shared->Prop}(ho:s.heap.get? a=some (jU b))(h0:0<=k)(hfit:k<2 ^ 63)(hx:b[k.toNat]?=some c)
  (h:Q (.int (c.toNat:Int) s.toks) {s with toks:=s.toks+1}):wpAny (model prog w) A (PySem.getItem (.ref a) (.int k t)) Q E s:=by
 have hT:=y5 ho
 unfold PySem.getItem
 refine wpAny_holding ?_
 refine wpAny_bind (wpAny_sequenceKey hT (by decide) ?_)
 refine wpAny_bind (wpAny_callSpecial?_slot (name:=Str.ofString "__getitem__") hT jS
  (wpAny_call_entry jS hT uD ?_ (uU _ _)))
 show wpAny _ _ (Builtin.Bytes.subscript? (.int k t)>>=_) _ _ s
 unfold Builtin.Bytes.subscript?
 refine wpAny_bind (wpAny_bind (wpAny_specialOf (T:="int") (typeIs_int _ _ _) F.slot_int_index.lookup ?_))
 refine wpAny_bind (wpAny_of_eq (a:=k) rfl ?_)
 have hf:Builtin.Bytes.fitsIndex k=true:=alB ⟨alG (Int.le_trans (by decide) h0),alG hfit⟩
 rw[hf]
 refine wpAny_pure ?_
 dsimp only
 refine wpAny_bind (kW ho ?_)
 rw[AR h0 (Array.getElem?_eq_some_iff.mp hx).1,Option.bind_some,hx]
 exact wpAny_bind (wpAny_mkInt (wpAny_pure ⟨_,rfl,wpAny_pure h⟩))
theorem CO{sl:Addr}{l u:Value}{lo hi:Option Int}{Q:Value×Value×Value->Shared->Prop}(hl:IsPart l lo)(hu:IsPart u hi)(hS:s.heap.IsSliceOf sl l u .none)(h:Q (rawPart lo,rawPart hi,rawPart none) s):wpAny (model prog w) A (Builtin.Bytes.sliceParts (.ref sl)) Q E s:=by
 refine eO hS λo hso hc hd=> ?_
 unfold Builtin.Bytes.sliceParts
 refine wpAny_bind (wpAny_field (x:= .none) hso hd rfl ?_)
 kby_none
 refine wpAny_ite (KBy.ite_no (show¬((Value.none==rawInt 0)=true) from Bool.false_ne_true) ?_)
 refine wpAny_bind (wpAny_field (x:=l) hso hd rfl ?_)
 cases hl<;>cases hu<;>(first
  |(kby_none;(refine wpAny_bind (wpAny_field (x:= .none) hso hd rfl ?_));kby_none)
  |(kby_none;(refine wpAny_bind (wpAny_field (x:= .int _ _) hso hd rfl ?_));kby_int)
  |(kby_int;(refine wpAny_bind (wpAny_field (x:= .none) hso hd rfl ?_));kby_none)
  |(kby_int;(refine wpAny_bind (wpAny_field (x:= .int _ _) hso hd rfl ?_));kby_int))<;>exact wpAny_pure h
theorem CB{a sl:Addr}{b:Array UInt8}{l u:Value}{lo hi:Option Int}{Q:Value->Shared->Prop}(hl:IsPart l lo)(hu:IsPart u hi)(ho:s.heap.get? a=some (jU b))(hS:s.heap.IsSliceOf sl l u .none)(hz:b.size<=sizeLine)
  (h:Q (.ref s.heap.objs.size) {s with heap:=s.heap.push (jU (KBy.picked b lo hi))}):wpAny (model prog w) A (PySem.getItem (.ref a) (.ref sl)) Q E s:=by
 have hTa:=y5 ho
 have hT:s.TypeIs (.ref sl) "slice":=hS.imp λJ q=>⟨q.1,q.2.1⟩
 unfold PySem.getItem
 refine wpAny_holding (wpAny_bind (wpAny_sequenceKey hTa (by decide) (wpAny_bind (wpAny_callSpecial?_slot (name:=Str.ofString "__getitem__") hTa jS
  (wpAny_call_entry jS hTa uD ?_ (uU _ _))))))
 show wpAny _ _ (Builtin.Bytes.subscript? (.ref sl)>>=_) _ _ s
 refine wpAny_bind ?_
 unfold Builtin.Bytes.subscript?
 refine wpAny_bind (wpAny_specialOf hT slice_no_index (wpAny_pure (wpAny_bind (wpAny_typeOf hT ?_))))
 show wpAny _ _ (Builtin.Bytes.sliceParts (.ref sl)>>=λr=>_) _ _ s
 refine wpAny_bind (CO hl hu hS ?_)
 dsimp only
 refine wpAny_bind (kW ho (wpAny_bind (wpAny_of_eq (sliceIndices_raw lo hi none b.size (λe=>nomatch e)) (wpAny_bind ?_))))
 unfold Builtin.Bytes.newBytearray
 exact wpAny_newObj_type (wpAny_pure ⟨_,rfl,wpAny_pure h⟩) (alJ (KBc.size_picked_le b _ _) hz)
def qH(h:Heap)(I a:Addr)(i:Nat):Prop:=∃o,h.get? I=some o/\o.cls= .type "bytearray_iterator"/\o.data= .fields #[.ref a,.int i 0]
theorem qO{I a:Addr}{i:Nat}(y:qH s.heap I a i):s.TypeIs (.ref I) "bytearray_iterator":=let⟨o,ho,hc,_⟩:=y;⟨o,ho,hc⟩
theorem lY{a:Addr}{b:Array UInt8}{Q:Value->Shared->Prop}(ho:s.heap.get? a=some (jU b))(hQ:Q (.ref s.heap.objs.size) {s with heap:=s.heap.push {cls:= .type "bytearray_iterator",data:= .fields #[.ref a,.int 0 0]}}):wpAny (model prog w) A (pyIter (.ref a)) Q E s:=by
 refine wpAny_pyIter_slot (y5 ho) aP (wpAny_call_entry aP (y5 ho) fT ?_ (iT _))
 show wpAny _ _ (do ret (<-newFields "bytearray_iterator" [.ref a,rawInt 0])) _ _ s
 exact wpAny_bind (wpAny_newObj_type (wpAny_pure ⟨_,rfl,"bytearray_iterator",_,⟨_,Heap.get?_push_size _ rfl,rfl⟩,yK.lookup,hQ⟩))
theorem Gf{I a:Addr}{i:Nat}{Q:Value->Shared->Prop}(hit:qH s.heap I a i)(h:Q (.ref I) s):wpAny (model prog w) A (pyIter (.ref I)) Q E s:=by
 refine wpAny_pyIter_slot (qO hit) aQ (wpAny_call_entry aQ (qO hit) f8 ?_ (iB _))
 show wpAny _ _ (ret (.ref I)) _ _ s
 exact wpAny_pure ⟨_,rfl,"bytearray_iterator",_,qO hit,yK.lookup,h⟩
theorem Fy{I a:Addr}{i:Nat}{b:Array UInt8}{c:UInt8}{Q:Option Value->Shared->Prop}(hit:qH s.heap I a i)(ho:s.heap.get? a=some (jU b))(hx:b[i]?=some c)
  (hQ:∀h',qH h' I a (i+1)->Heap.SameBut I s.heap h'->Q (some (.int (c.toNat:Int) s.toks)) {s with heap:=h',toks:=s.toks+1}):wpAny (model prog w) A (pyNext (.ref I)) Q E s:=by
 refine eO (id hit) λo hio hc hd=> ?_
 unfold pyNext
 refine wpAny_bind (wpAny_attempt (wpAny_callSpecial?_slot (name:=PySem.Str.ofString "__next__") (qO hit) yK
  (wpAny_call_entry yK (qO hit) wV ?_ (aS _))))
 show wpAny _ _ (field (.ref I) 0>>=_) _ _ s
 refine wpAny_bind (wpAny_field hio hd (x:= .ref a) rfl ?_)
 dsimp only
 refine wpAny_bind (wpAny_load ho ?_)
 dsimp only
 refine wpAny_bind (wpAny_field hio hd (x:= .int i 0) rfl ?_)
 dsimp only
 simp-iota only[Int.toNat_natCast,hx]
 refine wpAny_bind (wpAny_setField hio hd (by simp) (wpAny_bind (wpAny_mkInt (wpAny_pure ⟨_,rfl,wpAny_pure (hQ _ ?_ (Heap.SameBut.update ..))⟩))))
 exact⟨_,Heap.get?_update_self _ hio (Obj.isFreed_of_fields (Obj.data_mapFields hd _)),(Obj.cls_mapFields ..).trans hc,by
  rw[Obj.data_mapFields hd];simp[rawInt]⟩
theorem HV{I a:Addr}{i:Nat}{b:Array UInt8}{Q:Option Value->Shared->Prop}(hh:A.handled=none)(hit:qH s.heap I a i)(ho:s.heap.get? a=some (jU b))(hx:b[i]?=none)
  (hQ:∀h',Heap.ExtBut I s.heap h'->Q none {s with heap:=h'}):wpAny (model prog w) A (pyNext (.ref I)) Q E s:=by
 refine eO (id hit) λo hio hc hd=> ?_
 unfold pyNext
 refine wpAny_bind (wpAny_attempt (wpAny_callSpecial?_slot (name:=PySem.Str.ofString "__next__") (qO hit) yK
  (wpAny_call_entry yK (qO hit) wV ?_ (aS _))))
 show wpAny _ _ (field (.ref I) 0>>=_) _ _ s
 refine wpAny_bind (wpAny_field hio hd (x:= .ref a) rfl ?_)
 dsimp only
 refine wpAny_bind (wpAny_load ho ?_)
 dsimp only
 refine wpAny_bind (wpAny_field hio hd (x:= .int i 0) rfl ?_)
 dsimp only
 simp-iota only[Int.toNat_natCast,hx]
 refine wpAny_bind (wpAny_rule (wpAny_bind (wpAny_setField hio hd (by simp) (wpAny_bind (wpAny_letGo ?_)))))
 show wpAny _ _ (newExc (.type "StopIteration") []>>=_) _ _ _
 refine wpAny_bind ?_
 simp-iota only[newExc,newTuple]
 refine wpAny_bind (wpAny_newObj_type ?_ (by size_fits))
 refine wpAny_bind (m:=firstArgMember _ _) (wpAny_of_eq (a:=Value.none) (by first|rfl|(simp-iota only[firstArgMember];rfl)) ?_)
 refine wpAny_newObj_type ?_ (by size_fits)
 simp-iota only[raiseNew]
 refine wpAny_bind (wpAny_handled ?_)
 rw[show A.in1.handled=none from hh]
 refine wpAny_bind (wpAny_pure (wpAny_throw ?_))
 refine wpAny_bind (wpAny_isInstance (T:="StopIteration") (b:=true) ⟨_,Heap.get?_push_size _ rfl,rfl⟩ isSubtype_stop ?_)
 exact wpAny_pure (hQ _ (((Heap.SameBut.update ..).extBut.push _).push _))
end
section
variable{C:Cx}{A:Around}{s:Shared}{Z:Emb}{U:St}{E:Value->Shared->Prop}
def Pb(s:Shared)(x:Value):Prop:=∃T id,s.TypeIs x T/\typeLookup (.type T) "__getitem__"=pure (some (.builtin id))
theorem dJ{l:Loc}{bs:List Nat}{p:Addr×Addr}(R:Rel C Z U s.heap)(h:U.get l=some (.QA bs))(hi:Z l=some p):
  p.1=p.2/\∃arr,s.heap.get? p.1=some (jU arr)/\arr.toList.map UInt8.toNat=bs:=qE.of R h hi
theorem pC{X:Addr->Prop}{t:Nat}{b:Array UInt8}{bs:List Nat}{h':Heap}(R:Rel C Z U s.heap)(hk:∀a o,s.heap.get? a=some o->h'.get? a=some o)(hs:s.heap.objs.size<=h'.objs.size)
  (hg:h'.get? s.heap.objs.size=some (jU b))(e:b.toList.map UInt8.toNat=bs):
  zV C X Z U s (Z.Rb U.fr (s.heap.objs.size,s.heap.objs.size)) (U.new (.QA bs)) {s with heap:=h',toks:=t}:=
 zV.new R hk hs (Nat.le_refl _) (Nat.le_refl _) (λext QH=>⟨rfl,b,hg,e⟩) rfl rfl
theorem kX{α:Type}{k:Int}{f:Nat->Option α}{r:α}(h:It k f=some r):0<=k/\k<2 ^ 62/\f k.toNat=some r:=by
 cases k with
 |negSucc n=>exact zG h
 |ofNat n=>
  have h: @Bool.rec (λJ=>Option α) none (f n) (Nat.ble n 4611686018427387903)=some r:=h
  cases q:Nat.ble n 4611686018427387903 with
  |false=>rw[q] at h;exact zG h
  |true=>rw[q] at h;exact⟨Int.natCast_nonneg n,by have:=alE q;show(n:Int)<2 ^ 62;omega,h⟩
theorem wY{α:Type}{i:V}{y:Value}{f:Nat->Option α}{r:α}{h:Heap}(e:idx i f=some r)(hi:zS C Z h i y){G:Value->Prop}(k:∀k t,0<=k->k<2 ^ 62->f k.toNat=some r->G (.int k t)):G y:=
 zB e λJ e q=>by apply hi.Re e;exactλt=>k _ t (kX q).1 (kX q).2.1 (kX q).2.2
theorem KL{k:Int}(h:k<2 ^ 62):k<2 ^ 63:=by omega
theorem OF{k:Int}(h:0<=k): -(2 ^ 63)<=k:=by omega
theorem BV{b:Array UInt8}{bs:List Nat}{k:Nat}{v:V}(e:b.toList.map UInt8.toNat=bs)(h:(bs[k]?).map wT=some v):∃c,b[k]?=some c/\v= .int (c.toNat:Int):=by
 refine xEA (alD h) λn hn e1=> ?_
 rw[<-e,List.getElem?_map] at hn
 refine xEA (alD hn) λc hc e2=> ?_
 exact⟨c,Array.getElem?_toList.symm.trans hc,e1.symm.trans (alQ wT e2.symm)⟩
theorem s7(X:y9 C){a i v:V}{x y:Value}{Q:Value->Shared->Prop}(R:Rel C Z U s.heap)(ha:zS C Z s.heap a x)(hi:zS C Z s.heap i y)(hu:A.units+130<cLine)
  (h:getItem a i U=some v)(q:vY C Z U s v U Q):Pb s x/\wpAny (Mo C) A (PySem.getItem x y) Q E s:=by
 refine yN h (λJ J h=>zG h) (λl e h=> ?_) (λl e h=> ?_) (λJ J h=>zG h) λl e h=>jM h (λvs hl h=> ?_) (λes hl h=>zK h λhc h=> ?_) λbs hl h=> ?_
 ·apply wY h hi;intro k t h0 h1 h
  apply(e▸ha).Rk;intro arr t0 ea
  refine xEA (BV ea h) λc hc ev=> ?_
  have hlt:k.toNat<arr.size:=(Array.getElem?_eq_some_iff.mp hc).1
  refine⟨⟨_,_,typeIs_bytes _ _ _,FB.slot_bytes_getitem.lookup⟩,getItem_gives (typeIs_bytes s _ _) (by decide) FB.slot_bytes_getitem FB.entry_bytes_getitem (FB.args_bytes_getitem_2 _ _) (gives_bytes_getitem _ k _ t c ?_ ?_) (q _ _ _ (jL R) (ev▸ .int _ _))⟩
  ·exact alB ⟨alG (OF h0),alG (KL h1)⟩
  ·rw[AR h0 hlt];exact hc
 ·apply wY h hi;intro k t h0 h1 h
  apply(e▸ha).QR;intro p arr ht hr
  refine xEA (hr.get h) λz hz rz=> ?_
  have hz:=Array.getElem?_toList.symm.trans hz
  exact⟨⟨_,_,ht.typeIs,PySem.F.slot_tuple_getitem.lookup⟩,PyProof.Rows.getItem_tuple ht (OF h0) (KL h1) (j:=k.toNat) (AR h0 (Array.getElem?_eq_some_iff.mp hz).1) hz (q _ _ _ (zV.refl R) rz)⟩
 ·apply wY h hi;intro k t h0 h1 h
  apply(e▸ha).QK;intro p hp
  refine vE (yE R hl hp) λxs n ho hr=> ?_
  refine xEA (hr.get h) λz hz rz=> ?_
  exact⟨⟨_,_,⟨_,ho,rfl⟩,slot_list_getitem.lookup⟩,wpAny_getItem_list (yL ho) h0 (KL h1) (Array.getElem?_toList.symm.trans hz) (q _ _ _ (zV.refl R) rz)⟩
 ·apply(e▸ha).QK;intro p hp
  refine vA (qD R hl hp) λJ ds n ho hr hn J=> ?_
  exact⟨⟨_,_,zN ho,slot_dict_getitem.lookup⟩,uQ X.j ho hr hn hc hi (alI (Nat.add_le_add_left (by decide) _) hu) h λy hy=>q _ _ _ (jL R) (hy.keeps (λJ J e=>e) (Imm.refl _))⟩
 ·apply wY h hi;intro k t h0 h1 h
  apply(e▸ha).QK;intro p hp
  refine Ed (dJ R hl hp) λJ arr ho ea=> ?_
  refine xEA (BV ea h) λc hc ev=> ?_
  exact⟨⟨_,_,y5 ho,jS.lookup⟩,FN ho h0 (KL h1) hc (q _ _ _ (jL R) (ev▸ .int _ _))⟩
theorem cV{v:V}{x:Value}{h:Heap}{d p:Nat}(hv:zS C Z h v x)(hb:Gr d v=some p):∃lo,IsPart x lo/\((lo=none/\p=d)\/lo=some (p:Int)):=by
 refine j8 hb (λhn hb=> ?_) λJ hb=> ?_
 ·apply hv.Rm hn;exact⟨_,.none,.inl ⟨rfl,(alS hb).symm⟩⟩
 ·apply wY hb hv;intro k t h0 _ e
  exact⟨_,.int _ _,.inr (alQ some ((Int.toNat_of_nonneg h0).symm.trans (alQ _ (alS e))))⟩
theorem fN{α:Type}(l:List α){p q:Nat}{lo hi:Option Int}(h1:(lo=none/\p=0)\/lo=some (p:Int))(h2:(hi=none/\q=l.length)\/hi=some (q:Int)):
  (l.drop (lo.elim 0 (clipAt l.length))).take (hi.elim l.length (clipAt l.length)-lo.elim 0 (clipAt l.length))=cut l p q:=by
 have e1:lo.elim 0 (clipAt l.length)=min p l.length:=h1.elim (λh=>by rw[h.1,h.2];exact(Nat.zero_min _).symm) λh=>by rw[h];exact clipAt_nat _ _
 have e2:hi.elim l.length (clipAt l.length)=min q l.length:=h2.elim (λh=>by rw[h.1,h.2];exact(Nat.min_self _).symm) λh=>by rw[h];exact clipAt_nat _ _
 rw[e1,e2,<-List.drop_take]
 unfold cut
 rw[List.take_eq_take_min (i:=q)]
 generalize hm:min q l.length=m
 by_cases hp:p<=l.length
 ·rw[Nat.min_eq_left hp]
 ·rw[Nat.min_eq_right (Nat.le_of_not_le hp),List.drop_eq_nil_of_le,List.drop_eq_nil_of_le]
  ·exact alJ (List.length_take_le' ..) (Nat.le_of_not_le hp)
  ·exact List.length_take_le' ..
theorem eC{b:Array UInt8}{p q:Nat}{lo hi:Option Int}(h1:(lo=none/\p=0)\/lo=some (p:Int))(h2:(hi=none/\q=(b.toList.map UInt8.toNat).length)\/hi=some (q:Int)):
  (KBy.picked b lo hi).toList.map UInt8.toNat=cut (b.toList.map UInt8.toNat) p q:=by
 rw[KBc.picked_eq]
 have:=fN b.toList h1 (h2.imp (λh=>⟨h.1,h.2.trans (alF ..)⟩) id)
 rw[show b.toList.length=b.size from Array.length_toList] at this
 rw[List.toList_toArray,this,cut,cut,List.map_drop,List.map_take]
theorem k7{n:Nat}{lo hi:V}{l u:Value}{h:Heap}{f:Nat->Nat->R V}{r:V×St}{G:Prop}(e:xD n lo hi f=some r)(hl:zS C Z h lo l)(hh:zS C Z h hi u)
  (k:n<1000->∀p q lo' hi',f p q=some r->IsPart l lo'->IsPart u hi'->((lo'=none/\p=0)\/lo'=some (p:Int))->((hi'=none/\q=n)\/hi'=some (q:Int))->G):G:=
 zK e λhn e=>zB e λp hp e=>zB e λq hq e=>(cV hl hp).elim λlo' a=>(cV hh hq).elim λhi' b=>k hn p q lo' hi' e a.1 b.1 a.2 b.2
theorem DF{a lo hi v:V}{x l u:Value}{sl:Addr}{U':St}{Q:Value->Shared->Prop}(R:Rel C Z U s.heap)(ha:zS C Z s.heap a x)(hl:zS C Z s.heap lo l)(hh:zS C Z s.heap hi u)(hS:s.heap.IsSliceOf sl l u .none)
  (h:cN a lo hi U=some (v,U'))(q:vY C Z U s v U' Q):Pb s x/\wpAny (Mo C) A (PySem.getItem x (.ref sl)) Q E s:=by
 refine yN h (λJ J h=>zG h) (λb e h=> ?_) (λJ J h=>zG h) (λJ J h=>zG h) λz e h=>jM h (λvs hz h=> ?_) (λJ J h=>zG h) λbs hz h=> ?_
 ·refine k7 h hl hh λhn p k lo' hi' h il ih cl ch=> ?_
  apply(e▸ha).Rk;intro arr t ea
  refine⟨⟨_,_,typeIs_bytes _ _ _,FB.slot_bytes_getitem.lookup⟩,getItem_meets (typeIs_bytes _ _ _) (by decide) FB.slot_bytes_getitem FB.entry_bytes_getitem (FB.args_bytes_getitem_2 _ _) (KBc.meets_slice2 arr t sl il ih) ⟨hS,?_,λt' k'=>aft q h (jL R) (.bytes _ ?_)⟩⟩
  ·rw[<-ea,alF] at hn
   exact alJ (KBc.size_picked_le arr _ _) (qC hn)
  ·rw[<-ea] at ch ⊢
   exact eC cl ch
 ·refine k7 h hl hh λhn p k lo' hi' h il ih cl ch=> ?_
  apply(e▸ha).QK;intro a ea
  refine vE (yE R hz ea) λxs n ho hr=> ?_
  have hlen:vs.length=xs.size:=hr.length
  refine⟨⟨_,_,⟨_,ho,rfl⟩,slot_list_getitem.lookup⟩,wpAny_getItem_list_slice (yL ho) hS il ih .none (λe=>nomatch e) (aft q h (kK (t:=s.toks) (k:=0) R ?_) (.c yG)) (qC (hlen▸hn))⟩
  have c:=fN xs.toList cl (hr.length▸ch)
  rw[show xs.toList.length=xs.size from Array.length_toList] at c
  have e2:(slicePick xs lo' hi' none).toList=cut xs.toList p k:=by
   rw[<-c]
   unfold slicePick
   rw[sliceBounds_plain]
   simp only[sliceRange_one,pick_run]
  rw[e2]
  exact hr.take.drop
 ·refine k7 h hl hh λhn p k lo' hi' h il ih cl ch=> ?_
  apply(e▸ha).QK;intro a ea
  refine Ed (dJ R hz ea) λJ arr ho eb=> ?_
  refine⟨⟨_,_,y5 ho,jS.lookup⟩,CB il ih ho hS (qC ?_) (aft q h (pC (t:=s.toks) (b:=KBy.picked arr lo' hi') R (λJ J e=>Heap.get?_push_of_some _ e) (by rw[Heap.size_push];exact Nat.le_succ _) (Heap.get?_push_size _ rfl) ?_) (.c yG))⟩
  ·rw[<-eb,alF] at hn;exact hn
  ·rw[<-eb] at ch ⊢
   exact eC cl ch
end
section
variable{prog:Program}{w:World}{A:Around}{E:Value->Shared->Prop}{s:Shared}
theorem xH{d:Addr}{ds:List DictEntry}{ep:Nat}{Q:Value->Shared->Prop}(hd:(d==sysModules)=false)(ho:s.heap.get? d=some (dictOf ds ep))
  (hQ:Q (.ref s.heap.objs.size) {s with heap:=s.heap.push {cls:= .type "dict_keyiterator",data:= .fields #[.ref d,.int 0 0,.int ds.length 0,.int ep 0]}}):
  wpAny (model prog w) A (pyIter (.ref d)) Q E s:=by
 have hT:s.TypeIs (.ref d) "dict":=⟨_,ho,rfl⟩
 refine wpAny_pyIter_slot hT PySem.F.slot_dict_iter (wpAny_call_entry PySem.F.slot_dict_iter hT PySem.F.entry_dict_iter ?_ (PySem.F.args_dict_iter_1 _))
 unfold Builtin.«dict.__iter__»
 refine wpAny_bind ?_
 unfold Builtin.Dict.dictSlotNone
 refine wpAny_bind (wpAny_notOrdered_dict hT ?_)
 show wpAny _ _ (pure (Value.ref d)) _ _ s
 refine wpAny_pure ?_
 show wpAny _ _ (Builtin.Dict.showsAll d>>=_) _ _ s
 unfold Builtin.Dict.showsAll
 rw[if_neg (by rw[hd];exact Bool.false_ne_true)]
 refine wpAny_bind (wpAny_pure ?_)
 refine wpAny_bind (wpAny_dictEntries ho rfl ?_)
 refine wpAny_bind (wpAny_dictEpoch ho rfl ?_)
 refine wpAny_bind (wpAny_newObj_type (wpAny_pure ⟨_,rfl,"dict_keyiterator",_,⟨_,Heap.get?_push_size _ rfl,rfl⟩,PySem.F.slot_dict_keyiterator_next.lookup,?_⟩))
 simpa [rawInt] using hQ
theorem An{it d:Addr}{i ep:Nat}{ds:List DictEntry}{e:DictEntry}{Q:Option Value->Shared->Prop}(hit:s.heap.IsKeyIter it d i ds.length ep)(hod:s.heap.get? d=some (dictOf ds ep))(hx:ds[i]?=some e)
  (hQ:∀h',h'.IsKeyIter it d (i+1) ds.length ep->Heap.SameBut it s.heap h'->Q (some e.key) {s with heap:=h'}):wpAny (model prog w) A (pyNext (.ref it)) Q E s:=by
 refine eO (id hit) λo ho hc hd=> ?_
 unfold pyNext
 refine wpAny_bind (wpAny_attempt (wpAny_callSpecial?_slot (name:=Str.ofString "__next__") hit.typeIs PySem.F.slot_dict_keyiterator_next
  (wpAny_call_entry PySem.F.slot_dict_keyiterator_next hit.typeIs PySem.F.entry_dict_keyiterator_next ?_ (PySem.F.args_dict_keyiterator_next_1 _))))
 refine wpAny_bind (wpAny_pure ?_)
 refine wpAny_bind ?_
 refine wpAny_bind ?_
 first|refine wpAny_bind (wpAny_typeNameOfWhole_keyiter hit.typeIs (wpAny_pure ?_))|refine wpAny_bind (wpAny_typeNameOf_keyiter hit.typeIs (wpAny_pure ?_))
 refine wpAny_bind (wpAny_fieldsOf ho hd ?_)
 have hown:Builtin.Dict_items.ownsTuple "dict_keyiterator"=false:=by decide
 simp-iota only[hown,Bool.false_eq_true,if_false]
 show wpAny _ _ (if(Value.ref d==Value.none)=true then _ else _) _ _ s
 rw[if_neg (show¬((Value.ref d==Value.none)=true) from Bool.false_ne_true)]
 refine wpAny_bind (wpAny_pure ?_)
 refine wpAny_bind (wpAny_dictEntries hod rfl ?_)
 rw[if_neg (by simp)]
 refine wpAny_bind (wpAny_pure ?_)
 refine wpAny_bind (wpAny_dictEpoch hod rfl ?_)
 rw[if_neg (by simp)]
 refine wpAny_pure ?_
 have hlt:i<ds.length:=(List.getElem?_eq_some_iff.mp hx).1
 have hge:ds[i]=e:=(List.getElem?_eq_some_iff.mp hx).2
 dsimp only
 simp-iota only[show¬((i:Int)<0) from by omega,if_false,Int.toNat_natCast,List.getElem?_toArray,hx]
 refine wpAny_bind ?_
 first|refine wpAny_bind (wpAny_typeNameOfWhole_keyiter hit.typeIs (wpAny_pure ?_))|refine wpAny_bind (wpAny_typeNameOf_keyiter hit.typeIs (wpAny_pure ?_))
 refine wpAny_bind (wpAny_isOneOf_keyiter hit.typeIs ?_)
 show wpAny _ _ (setField (.ref it) 1 (rawInt ((i:Int)+1))>>=_) _ _ s
 refine wpAny_bind (wpAny_setField ho hd (by simp) ?_)
 have hit':(s.heap.update it (Obj.mapFields (·.setIfInBounds 1 (rawInt ((i:Int)+1))))).IsKeyIter it d (i+1) ds.length ep:=
  ⟨_,Heap.get?_update_self _ ho (Obj.isFreed_of_fields (Obj.data_mapFields hd _)),(Obj.cls_mapFields ..).trans hc,by rw[Obj.data_mapFields hd];simp[rawInt]⟩
 refine wpAny_bind (wpAny_holding ?_)
 refine wpAny_bind (wpAny_isOneOf_keyiter (s:={s with heap:=s.heap.update it (Obj.mapFields (·.setIfInBounds 1 (rawInt ((i:Int)+1))))}) hit'.typeIs ?_)
 show wpAny _ _ (pure e.key) _ _ _
 exact wpAny_pure (wpAny_pure ⟨_,rfl,wpAny_pure (hQ _ hit' (Heap.SameBut.update ..))⟩)
theorem Eu{it d:Addr}{i ep:Nat}{ds:List DictEntry}{Q:Option Value->Shared->Prop}(hh:A.handled=none)(hit:s.heap.IsKeyIter it d i ds.length ep)
  (hod:s.heap.get? d=some (dictOf ds ep))(hx:ds[i]?=none)(hQ:∀h',Heap.ExtBut it s.heap h'->Q none {s with heap:=h'}):wpAny (model prog w) A (pyNext (.ref it)) Q E s:=by
 refine eO (id hit) λo ho hc hd=> ?_
 unfold pyNext
 refine wpAny_bind (wpAny_attempt (wpAny_callSpecial?_slot (name:=Str.ofString "__next__") hit.typeIs PySem.F.slot_dict_keyiterator_next
  (wpAny_call_entry PySem.F.slot_dict_keyiterator_next hit.typeIs PySem.F.entry_dict_keyiterator_next ?_ (PySem.F.args_dict_keyiterator_next_1 _))))
 refine wpAny_bind (wpAny_pure ?_)
 refine wpAny_bind ?_
 refine wpAny_bind ?_
 first|refine wpAny_bind (wpAny_typeNameOfWhole_keyiter hit.typeIs (wpAny_pure ?_))|refine wpAny_bind (wpAny_typeNameOf_keyiter hit.typeIs (wpAny_pure ?_))
 refine wpAny_bind (wpAny_fieldsOf ho hd ?_)
 have hown:Builtin.Dict_items.ownsTuple "dict_keyiterator"=false:=by decide
 simp-iota only[hown,Bool.false_eq_true,if_false]
 show wpAny _ _ (if(Value.ref d==Value.none)=true then _ else _) _ _ s
 rw[if_neg (show¬((Value.ref d==Value.none)=true) from Bool.false_ne_true)]
 refine wpAny_bind (wpAny_pure ?_)
 refine wpAny_bind (wpAny_dictEntries hod rfl ?_)
 rw[if_neg (by simp)]
 refine wpAny_bind (wpAny_pure ?_)
 refine wpAny_bind (wpAny_dictEpoch hod rfl ?_)
 rw[if_neg (by simp)]
 refine wpAny_pure ?_
 dsimp only
 simp-iota only[show¬((i:Int)<0) from by omega,if_false,Int.toNat_natCast,List.getElem?_toArray,hx]
 refine wpAny_bind ?_
 first|refine wpAny_bind (wpAny_typeNameOfWhole_keyiter hit.typeIs (wpAny_pure ?_))|refine wpAny_bind (wpAny_typeNameOf_keyiter hit.typeIs (wpAny_pure ?_))
 show wpAny _ _ (setField (.ref it) 0 .none>>=_) _ _ s
 refine wpAny_bind (wpAny_setField ho hd (by simp) ?_)
 show wpAny _ _ (newExc (.type "StopIteration") []>>=_) _ _ _
 refine wpAny_bind ?_
 simp-iota only[newExc,newTuple]
 refine wpAny_bind (wpAny_newObj_type ?_ (by size_fits))
 refine wpAny_bind (m:=firstArgMember _ _) (wpAny_of_eq (a:=Value.none) (by first|rfl|(simp-iota only[firstArgMember];rfl)) ?_)
 refine wpAny_newObj_type ?_ (by size_fits)
 simp-iota only[raiseNew]
 refine wpAny_bind (wpAny_handled ?_)
 rw[show A.in1.handled=none from hh]
 refine wpAny_bind (wpAny_pure (wpAny_throw ?_))
 refine wpAny_bind (wpAny_isInstance (T:="StopIteration") (b:=true) ⟨_,Heap.get?_push_size _ rfl,rfl⟩ isSubtype_stop ?_)
 exact wpAny_pure (hQ _ (((Heap.SameBut.update ..).extBut.push _).push _))
theorem Do(hh:A.handled=none)(I d:Addr)(hne:d≠I)(ds:List DictEntry)(ep:Nat):
  Walks prog w A I [I,d] [I] ds.length (λi v=>∃e,ds[i]?=some e/\v=e.key) (λi h=>h.IsKeyIter I d i ds.length ep/\h.get? d=some (dictOf ds ep)) where
 sub:=λb hb=>by simp at hb;simp[hb]
 frame:=λJ J J st hk=>⟨st.1.at λo e=>hk I (by simp) o e,hk d (by simp) _ st.2⟩
 item:=λi s Q E hi st hQ=>by
  obtain⟨e,hx⟩:∃p,ds[i]?=some p:=⟨ds[i],by simp[hi]⟩
  refine An st.1 st.2 hx λh' hit' hs'=> ?_
  exact hQ _ h' s.toks ⟨e,hx,rfl⟩ ⟨hit',(hs'.2 d hne).trans st.2⟩ λb o hb e=>hs'.extBut b o (λh=>hb (by simp[h])) e
 done:=λs Q E st hQ=>Eu hh st.1 st.2 (by simp) λh' he'=>hQ h' s.toks λb o hb e=>he' b o (λh=>hb (by simp[h])) e
 self:=λJ J J J st hQ=>wpAny_pyIter_keyiter st.1 hQ
theorem DW{d:Addr}{ds:List DictEntry}{ep:Nat}(lo:(d==sysModules)=false):KdlSrc prog w "dict" d d ds.length (λi v=>∃e,ds[i]?=some e/\v=e.key) (λh=>h.get? d=some (dictOf ds ep)) where
 type:=λJ hm=>⟨_,hm,rfl⟩
 there:=λJ hm=>⟨Heap.lt_size hm,Heap.lt_size hm⟩
 keep:=λJ J hm hk=>hk d (.inl rfl) _ hm
 notList:=by decide
 notTuple:=by decide
 hint:=λJ J J J hm hq=>kdl_hint_dict ⟨_,hm,rfl⟩ hq
 iter:=λJ J hh hm=>⟨_,_,(λJ J hq=>xH lo hm hq),Do hh _ d (Nat.ne_of_lt (Heap.lt_size hm)) ds ep,⟨⟨_,Heap.get?_push_size _ rfl,rfl,rfl⟩,Heap.get?_push_of_some _ hm⟩⟩
end
section
variable{C:Cx}{A:Around}{s:Shared}{Z:Emb}{U:St}{E:Value->Shared->Prop}
theorem x5{es:List (V×V)}{ds:List DictEntry}{h:Heap}(r:jW C Z h es ds):zW C Z h (es.map (·.1)) (ds.map (·.key)):=by
 induction r with
 |nil=>exact .nil
 |cons a _ ih=>exact .cons a.is.key ih
theorem BQ(X:y9 C){l:Loc}{p:Addr×Addr}{es:List (V×V)}{Q:Value->Shared->Prop}(hh:A.handled=none)(R:Rel C Z U s.heap)(hl:U.get l=some (.dict es))(hi:Z l=some p)(hz:es.length<1000)
  (q:vY C Z U s (.c U.fr) (U.new (.list (es.map (·.1)))) Q):wpAny (Mo C) A (call (.type "list") [.ref p.1]) Q E s:=by
 refine vA (qD R hl hi) λJ ds n ho hr hn J=> ?_
 have hlen:=hr.length
 refine kdl_call (DW (ep:=n) (qY X R hl hi)) hh ho (qC (hlen▸hz)) λh' tk acc' c' hk hg hacc=> ?_
 have e:acc'.toList=ds.map (·.key):=List.ext_getElem? λi=>by
  rw[Array.getElem?_toList,List.getElem?_map]
  cases hx:acc'[i]? with
  |none=>rw[List.getElem?_eq_none (hacc.1▸Array.getElem?_eq_none_iff.mp hx)];rfl
  |some v=>
   refine xEA (hacc.2 i v hx) λe he ev=> ?_
   rw[he,ev];rfl
 refine q _ _ _ (zV.new R hk (Nat.le_of_lt (Heap.lt_size hg)) (Nat.le_refl _) (Nat.le_refl _) (λext QH=>⟨rfl,acc',c',hg,?_⟩) rfl rfl) (.c yG)
 rw[e]
 exact(x5 hr).keeps ext QH
end
theorem iH:typeLookup (.type "list") "keys"=pure none:=by rw[typeLookup_type,builtinLookup_eq_fast];kernel_rfl
section
variable{prog:Program}{w:World}{A:Around}{E:Value->Shared->Prop}{s:Shared}
theorem nV{a:Addr}{xs:Array Value}{k:Nat}{Q:Option Value->Shared->Prop}(hx:s.heap.get? a=some (listOf xs k))(hA:A.handled=none)
  (h:∀h' tk,(∀b o,s.heap.get? b=some o->h'.get? b=some o)->Q none {s with heap:=h',toks:=tk}):wpAny (model prog w) A (getAttr? (.ref a) "keys") Q E s:=by
 obtain⟨hp,g,d,tk,os⟩:=s
 have hT:∀tk',(⟨hp,g,d,tk',os⟩:Shared).TypeIs (.ref a) "list":=λJ=>⟨_,hx,rfl⟩
 have f1:=sub_AttributeError
 have f3:=F.slot_list_getattribute.lookup
 have f4:=F.slot_list_getattribute.bind (.ref a)
 have f5:=am_list_getattr_none
 unfold getAttr? getAttrBy? getAttrBy
 repeat (any_goals (first|assumption|exact hT _|((with_reducible show wpAny _ _ (call (Value.builtin "list.__getattribute__") _ _) _ _ _);refine call_meets F.slot_list_getattribute (hT _) am_entry_list_getattribute (F.args_list_getattribute_2 _ _) (meets_getattribute_miss_list a xs k #[] "keys" _ iH (by decide+kernel)) ⟨hx,hA,λh' tk' e hx'=> ?_⟩)|wp_step))
 refine xEE hx'.there λt' u' he=> ?_
 show wpAny _ _ (getattributeRaised _ _ _ _ _ _ _) _ _ _
 unfold getattributeRaised
 repeat (any_goals (first|assumption|wp_step))
 exact h _ _ hx'.keeps
end
theorem St.new_upd{U:St}{o o':zU}:(U.new o).Q6 U.fr o'=U.new o':=pG rfl rfl λx=>by
 by_cases h:x=U.fr
 ·rw[h,zP];exact zJ.symm
 ·exact(zH h).trans ((vC h).trans (vC h).symm)
theorem wW:plainId "dict.update.loop"=true:=by decide+kernel
theorem iV:entryFor table "dict.update.loop"=some Builtin.«dict.update.loop»:=entryFor_of_tree (by kernel_rfl)
section
variable{C:Cx}{A:Around}{s:Shared}{Z:Emb}{U:St}{E:Value->Shared->Prop}
theorem Dx{v:V}{p:V×V}{x:Value}{h:Heap}(hp:eI v=some p)(hv:zS C Z h v x){G:Value->Prop}
  (k:∀a y z n o,h.get? a=some o->o.cls= .type "tuple"->o.data= .seq #[y,z] n->zS C Z h p.1 y->zS C Z h p.2 z->yZ p.1=true->G (.ref a)):G x:=by
 refine zB hp λl e hp=> ?_
 cases l with
 |nil=>exact zG hp
 |cons c l=>
  refine yU hp λd el hq=>zK hq λhk hq=> ?_
  apply hv.getTup e;intro a xs ht hr
  refine mV ht λo ho hc n hd=> ?_
  obtain⟨xs⟩:=xs
  cases el
  cases hr with|cons r1 hr=>cases hr with|cons r2 hr=>cases hr with|nil=>cases hq;exact k a _ _ n o ho hc hd r1 r2 hk
noncomputable def mM(es:List (V×V))(ps:List (V×V)):List (V×V):=ps.foldl (λd p=>uG d p.1 p.2) es
theorem f9{κ:Type}{q:κ->κ->Bool}{k:κ}{w:V}{P:κ->Prop}:∀{es:List (κ×V)},(∀e∈es,P e.1)->P k->(∀e∈lT q k w es,P e.1)/\(lT q k w es).length<=es.length+1
 |[],_,hk=>⟨λe he=>by rw[alK he];exact hk,Nat.le_refl _⟩
 |a::r,h,hk=>by
  show(∀e∈ @Bool.rec (λJ=>List (κ×V)) (a::lT q k w r) ((a.1,w)::r) (q a.1 k),P e.1)/\(@Bool.rec (λJ=>List (κ×V)) (a::lT q k w r) ((a.1,w)::r) (q a.1 k)).length<=_
  have ih:=f9 (q:=q) (w:=w) (λe he=>h e (.tail _ he)) hk
  cases q a.1 k with
  |true=>exact⟨λe he=>(alC he).elim (λe'=>by rw[e'];exact h a (.head _)) λhe=>h e (.tail _ he),Nat.le_succ _⟩
  |false=>exact⟨λe he=>(alC he).elim (λe'=>by rw[e'];exact h a (.head _)) (ih.1 e),Nat.succ_le_succ ih.2⟩
theorem fX{es:List (V×V)}{k v:V}:(uG es k v).length<=es.length+1:=(f9 (P:=λJ=>True) (λJ J=>trivial) trivial).2
theorem cY{es:List (V×V)}{k v:V}{n:Nat}(h:∀e∈es,jR e.1=n)(hk:jR k=n):∀e∈uG es k v,jR e.1=n:=(f9 (P:=λk=>jR k=n) h hk).1
theorem u1{es:List (V×V)}{k:V}{n:Nat}(h:∀e∈es,jR e.1=n)(hk:jR k=n)(hi:yZ k=true):yD es k=true:=alB ⟨hi,List.all_eq_true.mpr λe he=>beq_iff_eq.mpr ((h e he).trans hk.symm)⟩
theorem F8{l:Loc}{a:Addr}{o:zU}(h:own Z (U.Q6 l o) a)(hl:U.get l≠none):own Z U a:=by
 refine yW h λl' p h1 h2 h3=> ?_
 refine⟨l',p,?_,h2,h3⟩
 by_cases q:l'=l
 ·exact q▸hl
 ·exact zH q▸h1
theorem gK{o o':zU}{a:Addr}(h:own Z (U.new o) a):own Z (U.new o') a:=F8 (U:=U.new o') (o:=o) (l:=U.fr) (St.new_upd.symm▸h) (qL zJ)
theorem wB{I a:Addr}{i:Nat}{h:Heap}{o:Obj}(hit:h.IsListIter I a i)(ho:h.get? I=some o):¬u3 o:=by
 obtain⟨o',ho',hc,_⟩:=hit
 have e:=alS (ho.symm.trans ho')
 exact jQ (by rw[e,hc];exact uN (by decide)) (by rw[e,hc];exact uN (by decide))
theorem BK(X:y9 C){n:Nat}{l:Loc}{a:Addr}{I:Addr}{all:List V}{kn:Nat}(hla:U.get l=some (.list all))(hia:Z l=some (a,a))(hld:l≠U.fr)(hh:A.handled=none)(hu:A.units+130<cLine)
  (hI0:C.h0.objs.size<=I){R:Result->Shared->Prop}:
  ∀(m i:Nat) (s':Shared) (ps:List (V×V)) (es:List (V×V)),all.length-i=m->i<=all.length->(all.drop i).mapM eI=some ps->(∀p∈ps,jR p.1=kn)->(∀e∈es,jR e.1=kn)->es.length+ps.length<=1000->
   Rel C (Z.Rb U.fr (n,n)) (U.new (.dict es)) s'.heap->s'.heap.IsListIter I a i->¬own (Z.Rb U.fr (n,n)) (U.new (.dict [])) I->a≠I->a≠n->I≠n->
   (∀s'',zV C (λb=>b=I) (Z.Rb U.fr (n,n)) (U.new (.dict es)) s' (Z.Rb U.fr (n,n)) (U.new (.dict (mM es ps))) s''->R (.ok (.ret .none)) s'')->∀t:Int,
   codeAny (Mo C) A (.builtin "dict.update.loop" ⟨[.ref n,.ref I,.int t 0,.none],[]⟩) R s':=by
 intro m
 induction m with
 |zero=>
  intro i s' ps es hm hi hps hkp hke hz hR hit hno hne hne2 hne3 q t
  refine vE (yE hR (l:=l) (vs:=all) (p:=(a,a)) ((vC hld).trans hla) ((w8 hld).trans hia)) λxs xn hl0 hv=> ?_
  have hl:=yL hl0
  have hie:i=all.length:=Nat.le_antisymm hi (Nat.le_of_sub_eq_zero hm)
  subst hie
  rw[List.drop_length] at hps
  cases c7 hps
  refine codeAny_builtin iV ?_
  rw[Around.under_plainId wW _]
  show wpAny _ A.in1 (pyNext (.ref I)>>=_) _ _ s'
  have hsz:=hv.length
  refine wpAny_bind (aV (wpAny_pyNext_list_end hh hit hl (Array.getElem?_eq_none (Nat.le_of_eq hsz.symm)) λh' he hs=> ?_))
  show wpAny _ _ (Builtin.Dict.addKeywords n []>>=_) _ _ _
  refine wpAny_bind (wpAny_pure (wpAny_pure (q _ ?_)))
  exact zV.R1 hR he hs (λo=>hno (gK o)) rfl (Cx.QJ hI0) (λo ho=>wB hit ho) rfl rfl
 |succ m ih=>
  intro i s' ps es hm hi hps hkp hke hz hR hit hno hne hne2 hne3 q t
  refine vE (yE hR (l:=l) (vs:=all) (p:=(a,a)) ((vC hld).trans hla) ((w8 hld).trans hia)) λxs xn hl0 hv=> ?_
  have hl:=yL hl0
  have hlt:i<all.length:=Nat.lt_of_sub_pos (hm▸Nat.succ_pos m)
  rw[List.drop_eq_getElem_cons hlt] at hps
  refine yW (aK hps) λp ps' hp hps' e_4=> ?_
  subst e_4
  refine xEA (hv.get (List.getElem?_eq_getElem hlt)) λx hx rx=> ?_
  rw[Array.getElem?_toList] at hx
  refine codeAny_builtin iV ?_
  rw[Around.under_plainId wW _]
  show wpAny _ A.in1 (pyNext (.ref I)>>=_) _ _ s'
  refine wpAny_bind (wpAny_pyNext_list_item hit hl hx λh1 hit1 hs1=> ?_)
  have S1:zV C (λb=>b=I) (Z.Rb U.fr (n,n)) (U.new (.dict es)) s' (Z.Rb U.fr (n,n)) (U.new (.dict es)) {s' with heap:=h1}:=
   zV.R1 hR (λb o hb e=>hs1.extBut b o hb e) (Nat.le_of_eq hs1.1.symm) (λo=>hno (gK o)) rfl (Cx.QJ hI0) (λo ho=>wB hit ho) rfl rfl
  apply Dx hp (rx.keeps (λJ J e=>e) S1.QH);intro pa y z pn po hpo hpc hpd r1 r2 hkk
  refine wpAny_bind (wpAny_holding ?_)
  refine wpAny_bind (wpAny_tryCatch ?_)
  unfold Builtin.Dict.pairItems
  refine wpAny_bind (wpAny_typeOf (T:="tuple") ⟨po,hpo,hpc⟩ ?_)
  rw[if_pos (by decide)]
  refine wpAny_bind (wpAny_seqItems hpo hpd (wpAny_pure ?_))
  dsimp-iota only[Option.getD_some]
  refine wpAny_holding ?_
  have hal:yD es p.1=true:=u1 (n:=kn) hke (hkp p (.head _)) hkk
  rw[List.length_cons] at hz
  refine eN (A:=A.in1) (l:=U.fr) X.j S1.Q8 zJ yG hal (by omega) r1 r2 (oG hu) λs2 S2=> ?_
  rw[St.new_upd] at S2
  have S3:=S1.trans (S2.Q7 (jjY:=λb=>b=I) λJ f=>f.elim)
  have hit2:s2.heap.IsListIter I a (i+1):=by
   refine xEA hit1 λo ho r=> ?_
   exact⟨o,S2.keep I o ho (λq=>hno (gK q)) (λf=>f),r⟩
  refine wpAny_pure ⟨plainId_quiet wW _,?_⟩
  refine ih (i+1) s2 ps' (uG es p.1 p.2) (by omega) hlt hps' (λp hp=>hkp p (.tail _ hp)) (cY hke (hkp p (.head _))) ?_ S2.Q8 hit2 hno hne hne2 hne3 (λs3 S4=>q s3 (S3.trans S4)) _
  have:=fX (es:=es) (k:=p.1) (v:=p.2)
  omega
theorem CZ{ps:List (V×V)}(h:jD ps=true):∃n,∀p∈ps,jR p.1=n:=by
 cases ps with
 |nil=>exact⟨0,λJ q=>nomatch q⟩
 |cons a r=>exact⟨jR a.1,λp hp=>(eB h hp (.head _)).2⟩
theorem fC{α β:Type}{f:α->Option β}{l:List α}{r:List β}(h:l.mapM f=some r):r.length=l.length:=(jF h).length.symm
theorem Bz(X:y9 C){l:Loc}{p:Addr×Addr}{vs:List V}{ps:List (V×V)}{Q:Value->Shared->Prop}(hh:A.handled=none)(hu:A.units+140<cLine)(R:Rel C Z U s.heap)(hl:U.get l=some (.list vs))(hi:Z l=some p)(hz:vs.length<1000)
  (hp:vs.mapM eI=some ps)(hk:jD ps=true)(q:vY C Z U s (.c U.fr) (U.new (.dict (mM [] ps))) Q):wpAny (Mo C) A (call (.type "dict") [.ref p.1]) Q E s:=by
 obtain⟨a,d⟩:=p
 have ad:a=d:=(qE.of R hl hi).1
 subst ad
 refine vE (yE R hl hi) λxs xn ho hv=> ?_
 refine xE (CZ hk) λkn hkn=> ?_
 have hlt:=Heap.lt_size ho
 have hld:l≠U.fr:=λq=>nn hl (q▸R.R6 _ (Nat.le_refl _))
 have hplen:=fC hp
 refine callType_codes (Q₁:=λobj s₁=>obj= .ref s.heap.objs.size/\s₁={s with heap:=s.heap.push {cls:= .type "dict",data:= .dict #[]}}) F.kt_called_dict (F.kt_typeCall_dict_1 _) F.entry_dict_init (kt_code_dict_new _ ⟨rfl,rfl⟩) ?_
 rintro obj s₁ ⟨rfl,rfl⟩
 have hT:({s with heap:=s.heap.push {cls:= .type "dict",data:= .dict #[]}}:Shared).TypeIs (.ref s.heap.objs.size) "dict":=⟨_,Heap.get?_push_size _ rfl,rfl⟩
 refine⟨hT,F.args_dict_init_2 _ _,?_⟩
 have S1:zV C Nil Z U s (Z.Rb U.fr (s.heap.objs.size,s.heap.objs.size)) (U.new (.dict [])) {s with heap:=s.heap.push {cls:= .type "dict",data:= .dict #[]}}:=
  zV.new R (λJ J e=>Heap.get?_push_of_some _ e) (by rw[Heap.size_push];exact Nat.le_succ _) (Nat.le_refl _) (Nat.le_refl _) (λJ J=>⟨rfl,[],0,Heap.get?_push_size _ rfl,.nil,List.nodup_nil⟩) rfl rfl
 have ho1:(s.heap.push {cls:= .type "dict",data:= .dict #[]}).get? a=some (PySem.W.listOf xs xn):=Heap.get?_push_of_some _ ho
 unfold Builtin.«dict.__init__»
 refine wpAny_bind ?_
 unfold Builtin.Dict.selfAndRest
 refine wpAny_bind (wpAny_notOrdered_dict hT ?_)
 show wpAny _ _ (pure (s.heap.objs.size,[Value.ref a])) _ _ _
 refine wpAny_pure ?_
 show wpAny _ _ (Builtin.Dict.updateFrom "dict.__init__" s.heap.objs.size (.ref a) [] .none) _ _ _
 unfold Builtin.Dict.updateFrom
 refine wpAny_bind (wpAny_typeOf (T:="list") ⟨_,ho1,rfl⟩ ?_)
 rw[if_pos (by decide)]
 refine wpAny_bind (aV (nV (s:={s with heap:=s.heap.push {cls:= .type "dict",data:= .dict #[]}}) ho1 hh λh2 tk k2 hs2=> ?_))
 simp-iota only[Option.isNone_none,if_true]
 have S2:zV C Nil (Z.Rb U.fr (s.heap.objs.size,s.heap.objs.size)) (U.new (.dict [])) {s with heap:=s.heap.push {cls:= .type "dict",data:= .dict #[]}} (Z.Rb U.fr (s.heap.objs.size,s.heap.objs.size)) (U.new (.dict [])) {s with heap:=h2,toks:=tk}:=
  zV.R9 S1.Q8 k2 hs2 rfl rfl
 refine wpAny_bind (wpAny_rule ?_)
 refine wpAny_bind (wpAny_pyIter_list (s:={s with heap:=h2,toks:=tk}) ⟨_,k2 _ _ ho1,rfl,_,rfl⟩ ?_)
 have S3:zV C Nil (Z.Rb U.fr (s.heap.objs.size,s.heap.objs.size)) (U.new (.dict [])) {s with heap:=h2,toks:=tk} (Z.Rb U.fr (s.heap.objs.size,s.heap.objs.size)) (U.new (.dict [])) {s with heap:=h2.push {cls:= .type "list_iterator",data:= .fields #[.ref a,.int 0 0]},toks:=tk}:=
  zV.R9 S2.Q8 (λJ J e=>Heap.get?_push_of_some _ e) (by rw[Heap.size_push];exact Nat.le_succ _) rfl rfl
 have S:=(S1.trans S2).trans S3
 have hle:s.heap.objs.size<h2.objs.size:=by
  have:=hs2
  rw[Heap.size_push] at this
  exact this
 have hlt2:a<h2.objs.size:=Nat.lt_trans hlt hle
 have hI:¬own (Z.Rb U.fr (s.heap.objs.size,s.heap.objs.size)) (U.new (.dict [])) h2.objs.size:=λo=>by
  obtain⟨x,hx,_⟩:=S2.Q8.ownLives o
  exact absurd (Heap.lt_size hx) (Nat.lt_irrefl _)
 refine wpAny_pure ⟨plainId_quiet wW _,?_⟩
 refine BK (A:=A.in1) X (kn:=kn) (all:=vs) (l:=l) (a:=a) (I:=h2.objs.size) hl hi hld hh (show A.units+1+130<cLine from alI (by rw[Nat.add_assoc];exact Nat.add_le_add_left (by decide) _) hu) (Nat.le_of_lt (alI R.size hle)) vs.length 0 _ ps [] rfl (Nat.zero_le _) hp hkn (λJ q=>nomatch q) (by rw[hplen,List.length_nil,Nat.zero_add];exact Nat.le_of_lt hz)
  S3.Q8 ⟨_,Heap.get?_push_size _ rfl,rfl,rfl⟩ hI (Nat.ne_of_lt hlt2) (Nat.ne_of_lt hlt) (Nat.ne_of_gt hle) (λs'' Sx=> ?_) 0
 refine⟨rfl,q _ _ _ (((S.Q7 (jjY:=λb=>b=h2.objs.size) λJ f=>f.elim).trans Sx).Q7 λb hb=> .inr (by subst hb;exact Nat.le_of_lt hle)) (.c yG)⟩
end
section
variable{C:Cx}{A:Around}{s:Shared}{Z:Emb}{U:St}{E:Value->Shared->Prop}
theorem Du{d:Addr}{ep:Nat}{Q:List Value->Shared->Prop}(hh:A.handled=none)(lo:(d==sysModules)=false)(ho:s.heap.get? d=some (dictOf [] ep))
  (h:∀h' tk,(∀b o,s.heap.get? b=some o->h'.get? b=some o)->Q [] {s with heap:=h',toks:=tk}):wpAny (Mo C) A (collect (.ref d)) Q E s:=by
 have hlt:=Heap.lt_size ho
 have key:∀R:Result->Shared->Prop,(∀h' tk c',(∀b o,s.heap.get? b=some o->h'.get? b=some o)->h'.get? s.heap.objs.size=some {cls:= .type "list",dict:=none,data:= .seq #[] c',slots:= #[]}->R (.ok (.ret (.ref s.heap.objs.size))) {s with heap:=h',toks:=tk})->
   codeAny (Mo C) A (.builtin "proto.collect" ⟨[.ref d],[]⟩) R s:=by
  intro R hR
  refine codeAny_builtin PySem.F.entry_proto_collect ?_
  rw[Around.under_plainId PySem.F.plain_proto_collect _]
  show wpAny _ A.in1 (newList []>>=λl=>again (.builtin "list.__iadd__" ⟨[l,.ref d],[]⟩)) _ _ s
  refine wpAny_bind (wpAny_newObj_type ?_)
  refine wpAny_pure ⟨plainId_quiet PySem.F.plain_list_iadd _,codeAny_builtin PySem.F.entry_list_iadd ?_⟩
  rw[Around.under_plainId PySem.F.plain_list_iadd _]
  show wpAny _ A.in1 (Builtin.List.listExtendWith (.ref s.heap.objs.size) (.ref d) (.ref s.heap.objs.size)) _ _ _
  refine kdl_extend (R:=R) (s:={s with heap:=s.heap.push {cls:= .type "list",data:= .seq ([]:List Value).toArray}}) (DW (prog:=C.prog) (w:=C.w) (ds:=[]) (ep:=ep) lo) hh (Heap.get?_push_of_some _ ho) s.heap.objs.size (Nat.ne_of_gt hlt) (Nat.ne_of_gt hlt) _ 0 (Heap.get?_push_size _ rfl) (λh' tk acc' c' hk hg hacc=> ?_) (by simp)
  have:acc'= #[]:=Array.eq_empty_of_size_eq_zero hacc.1
  subst this
  exact hR h' tk c' (λb o e=>hk b o (Nat.ne_of_lt (Heap.lt_size e)) (Heap.get?_push_of_some _ e)) hg
 unfold collect
 refine wpAny_bind (wpAny_runValue (key _ λh' tk c' hk hg=> ?_))
 show wpAny _ A (load s.heap.objs.size>>=_) _ _ _
 exact wpAny_bind (wpAny_load hg (wpAny_pure (h h' tk hk)))
theorem GO{d:Addr}{ep:Nat}{Q:Value->Shared->Prop}(hh:A.handled=none)(lo:(d==sysModules)=false)(ho:s.heap.get? d=some (dictOf [] ep))
  (h:∀a h' tk n,s.heap.objs.size<=a->h'.get? a=some (PySem.W.listOf #[] n)->(∀b o,s.heap.get? b=some o->h'.get? b=some o)->Q (.ref a) {s with heap:=h',toks:=tk}):wpAny (Mo C) A (call (.builtin "sorted") [.ref d]) Q E s:=by
 refine Calls.call_function_entry kind_sorted plain_sorted entry_sorted (args_sorted1 _) ?_
 unfold Builtin.«sorted»
 refine wpAny_bind (m:=checkCount "sorted" 1 1 _) (wpAny_pure ?_)
 refine wpAny_bind (aV (Du hh lo ho λh1 tk k1 hs1=> ?_))
 refine wpAny_bind (wpAny_newList ?_)
 have hoL:(h1.push (seqObj "list" #[] 0)).get? h1.objs.size=some (seqObj "list" #[] 0):=Heap.get?_push_size _ rfl
 have hs1':s.heap.objs.size<=h1.objs.size:=hs1
 refine wpAny_bind (wpAny_holding (wpAny_call_entry slot_list_sort ⟨_,hoL,rfl⟩ entry_list_sort (list_sort_tree (vs:=[]) (ns:=[]) hoL .nil (by decide) λout ns' a1 a2 a3=>⟨_,rfl,?_⟩) (args_list_sort _)))
 refine wpAny_pure ⟨_,rfl,?_⟩
 have e0:ns'=[]:=a2.eq_nil
 subst e0
 have e1:out= #[]:=by
  have:=a1.length
  exact Array.eq_empty_of_size_eq_zero (by simpa using this)
 subst e1
 refine xE (sortedHeap_at (h:=h1.push (seqObj "list" #[] 0)) (a:=h1.objs.size) (vs:=[]) (n:=0) (out:= #[]) hoL) λe he=> ?_
 refine h h1.objs.size _ tk e hs1' he λb o q=> ?_
 have hb1:=k1 b o q
 have hlt:=Heap.lt_size hb1
 rw[sortedHeap_old (Nat.ne_of_lt hlt) (by rw[Heap.size_push];exact Nat.lt_succ_of_lt hlt)]
 exact Heap.get?_push_of_some _ hb1
theorem BW(X:y9 C){l:Loc}{p:Addr×Addr}{Q:Value->Shared->Prop}(hh:A.handled=none)(R:Rel C Z U s.heap)(hl:U.get l=some (.dict []))(hi:Z l=some p)
  (q:vY C Z U s (.c U.fr) (U.new (.list [])) Q):wpAny (Mo C) A (call (.builtin "sorted") [.ref p.1]) Q E s:=by
 refine vA (qD R hl hi) λJ ds n ho hr hn J=> ?_
 cases hr
 exact aV (GO hh (qY X R hl hi) ho λb h' tk k hb hg hk hsz=>q _ _ _ (zV.new (a:=b) (d:=b) R hk hsz hb hb (λext QH=>⟨rfl,#[],k,hg,.nil⟩) rfl rfl) (.c yG))
end
section
variable{C:Cx}{A:Around}{s:Shared}{Z:Emb}{U:St}{E:Value->Shared->Prop}{h:Heap}
theorem AS(x y:Str)(t:Tok):(Value.str x t).isStr y=(x==y):=rfl
structure Oe(C:Cx)(Z:Emb)(h:Heap)(e:Nat×V)(d:DictEntry):Prop where
 key:∃x t,C.T.j[e.1]?=some x/\d.key= .str x t
 val:zS C Z h e.2 d.val
theorem KY.is{e:Nat×V}{d:DictEntry}(r:KY C Z h e d):Oe C Z h e d:=by cases r with|mk a b=>exact⟨⟨_,_,a,rfl⟩,b⟩
theorem lA(W:C.T.j.Nodup){a:Nat}{x:Str}(hx:C.T.j[a]?=some x){fs ds}(r:vK C Z h fs ds):(ds.findIdx? λe=>e.key.isStr x)=fs.findIdx? λe=>e.1==a:=r.findIdx λf d J J r=>by
 refine vE r.is.key λy t hk e=> ?_
 rw[e,AS]
 exact Bool.eq_iff_iff.mpr (beq_iff_eq.trans (Iff.trans ⟨λq=>bI W hk (q▸hx),λq=>alS (hk.symm.trans (q▸hx))⟩ beq_iff_eq.symm))
theorem vK.modify{v:V}{val:Value}{es ds}{i:Nat}(r:vK C Z h es ds)(q:zS C Z h v val):vK C Z h (es.modify i λe=>(e.1,v)) (ds.modify i λe=>⟨e.hash,e.key,val⟩):=Al2.modify r λf d r=>by
 cases r with|mk a _=>exact .mk a q
theorem vK.noRef{fs ds}(r:vK C Z h fs ds):(ds.any (·.refKey))=false:=List.any_eq_false.mpr λd hd q=>by
 obtain⟨_,_,r⟩:=r.mem' hd
 obtain⟨y,t,_,e⟩:=r.is.key
 rw[DictEntry.refKey,e] at q
 exact jG q
theorem Bq{fs:List (Nat×V)}{k:Nat}:kR fs k=((fs.findIdx? λe=>e.1==k).bind λi=>fs[i]?).map (·.2):=by
 rw[show kR fs k=_ from MW▸b8,List.find?_eq_bind_findIdx?_getElem?]
theorem DC{ds:List DictEntry}{x:Str}:(ds.find? λe=>e.key.isStr x)=(ds.findIdx? λe=>e.key.isStr x).bind λi=>ds[i]?:=by
 rw[List.find?_eq_bind_findIdx?_getElem?]
theorem sT(W:C.T.j.Nodup){a:Nat}{x:Str}(hx:C.T.j[a]?=some x){fs:List (Nat×V)}{ds:List DictEntry}(r:vK C Z h fs ds){v:V}(hv:kR fs a=some v):∃y,getL x ds=some (some y)/\zS C Z h v y:=by
 rw[Bq] at hv
 refine xEA (alD hv) λe he ev=> ?_
 refine xEA (Option.bind_eq_some_iff.mp he) λi hi he=> ?_
 refine xEA (r.get he) λd hd rd=> ?_
 unfold getL
 rw[DC,lA W hx r,hi,Option.bind_some,hd]
 exact⟨_,rfl,ev▸rd.is.val⟩
theorem Bc{l:Loc}{cl:Nat}{fs:List (Nat×V)}{p:Addr×Addr}(R:Rel C Z U s.heap)(hl:U.get l=some (.Qz cl fs))(hi:Z l=some p):
  p.1≠p.2/\cl∈C.cls/\∃ds n,InstAt s.heap p.1 (instObj cl p.2) cl (some (dictOf ds n))/\s.heap.get? p.2=some (dictOf ds n)/\vK C Z s.heap fs ds/\(fs.map (·.1)).Nodup:=by
 refine oK (qE.of R hl hi) λne ds n h1 h2 h3 h4 h5=> ?_
 exact⟨ne,h5,ds,n,⟨h1,rfl,rfl,h2⟩,h2,h3,h4⟩
structure AW(K:Frag)(cl:Addr)(x:Str):Prop where
 get:plainGet K cl x=true
 dict:hasDictIn K cl=true
 over:plainOver K cl=true
 set:findIn K (.ref cl) "__setattr__"=some (some (.builtin "object.__setattr__"))
 taker:takerIn K cl x=some none
 plain:∃Qy,findIn K (.ref cl) x=some Qy/\noGet K Qy=true
theorem eQ{K:Frag}{cl:Addr}{x:Str}(e:Bv K cl x=true):AW K cl x:=by
 obtain⟨e,e6⟩:=alA e
 obtain⟨e,e5⟩:=alA e
 obtain⟨e,e4⟩:=alA e
 obtain⟨e,e3⟩:=alA e
 obtain⟨e1,e2⟩:=alA e
 refine⟨e1,e2,e3,eq_of_beq e4,eq_of_beq e5,?_⟩
 cases h:findIn K (.ref cl) x with
 |none=>rw[h] at e6;exact jG e6
 |some Qy=>rw[h] at e6;exact⟨Qy,rfl,e6⟩
theorem rA{a:Nat}{x:Str}(hx:C.T.j[a]?=some x):x∈C.T.j:=List.mem_of_getElem? hx
theorem HW{v:V}{y:Value}(r:zS C Z h v y):handedIn y=true:=by
 cases r with
 |bi n e=>exact e
 |_=>rfl
theorem rK(X:y9 C){v r:V}{x:Value}{a:Nat}{name:Str}{Q:Value->Shared->Prop}(R:Rel C Z U s.heap)(hv:zS C Z s.heap v x)(hn:C.T.j[a]?=some name)(h:getAttr v a U=some r)
  (q:vY C Z U s r U Q):wpAny (Mo C) A (PySem.getAttr x name true) Q E s:=by
 refine zB h λl el h=>zB h λcf hl h=> ?_
 apply hv.QG el;intro p hp
 refine pN (Bc R (JW hl) hp) λne hc ds n hI hd hf hnd=> ?_
 have e:=eQ (X.attrs cf.1 hc name (rA hn))
 refine xEA e.plain λQy e6 e7=> ?_
 refine xEA (sT X.j.1 hn hf h) λy hy ry=> ?_
 exact get_value (X.KX.keeps R.keep) hI (plainGet_of e.get).1 (findObj_own e.dict e6 e7 hy) (HW ry) (q _ _ _ (jL R) ry)
theorem Dw{name:Str}{k:Int}{key z:Value}{ds:List DictEntry}:(putL name k key z ds).length<=ds.length+1:=by
 rw[<-putL_find];split
 ·rw[List.length_modify];exact Nat.le_succ _
 ·rw[List.length_append];exact Nat.le_refl _
theorem Cr(W:C.T.j.Nodup){a:Nat}{name:Str}{k:Int}{t:Nat}{z:Value}{v:V}{fs:List (Nat×V)}{ds:List DictEntry}(hn:C.T.j[a]?=some name)(hf:vK C Z h fs ds)(hnd:(fs.map (·.1)).Nodup)(hv:zS C Z h v z):
  vK C Z h (tI fs a v) (putL name k (.str name t) z ds):=by
 rw[<-putL_find,lA W hn hf]
 cases hfi:fs.findIdx? λe=>e.1==a with
 |none=>rw[i0 hfi];exact hf.append (.cons (.mk hn hv) .nil)
 |some i=>rw[iW hfi];exact vK.modify hf hv
theorem rP(X:y9 C){o v:V}{x z:Value}{a:Nat}{name:Str}{U':St}{Q:Unit->Shared->Prop}(R:Rel C Z U s.heap)(ho:zS C Z s.heap o x)(hv:zS C Z s.heap v z)(hn:C.T.j[a]?=some name)(h:setAttr o a v U=some U')
  (q:∀s',zV C Nil Z U s Z U' s'->Q () s'):wpAny (Mo C) A (PySem.setAttr x name z) Q E s:=by
 refine zB h λl el h=>zB h λcf hl h=>zK h λhz h=> ?_
 have hl:=JW hl
 apply ho.QG el;intro p hp
 revert q;apply jT h;intro q
 refine pN (Bc R hl hp) λne hc ds n hI hd hf hnd=> ?_
 have e:=eQ (X.attrs cf.1 hc name (rA hn))
 have K:=X.KX.keeps R.keep
 refine set_plain K hI e.set (osa_open (s:={s with toks:=s.toks+1}) K hI e.over e.taker λb=> ?_)
 refine xEA (any_some e.dict) λcd hcd hd'=> ?_
 refine wpAny_bind (wpAny_pure (wpAny_bind (wpAny_bind (wpAny_loadPart (s:={s with toks:=s.toks+1}) hI.at_ (wpAny_bind (looks_clsIn K hcd _ _ _ _ (λJ J e=>e) ?_))))))
 rw[hd']
 refine wpAny_pure (a:=some p.2) (wpAny_bind (wpAny_pure (wpAny_bind ?_)))
 unfold nsSet
 refine wpAny_bind (wpAny_bind (wpAny_askSetting (wpAny_pure (wpAny_bind (wpAny_mkText (wpAny_bind (wpAny_loadPart (s:={s with toks:=s.toks+1+1}) hd ?_)))))))
 dsimp only
 have c:(!ds.toArray.any (·.key.isStr name)&&ds.toArray.any (·.refKey))=false:=by
  rw[<-Array.any_toList (p:=λx:DictEntry=>x.refKey),List.toList_toArray,vK.noRef hf,Bool.and_false]
 rw[aRefKeyMayBeTheName_at,c]
 have jD':(s.heap.update p.2 (Obj.putName name (PyData.keyHash C.w.params name) (.str name (s.toks+1)) z)).get? p.2=some (dictOf (putL name (PyData.keyHash C.w.params name) (.str name (s.toks+1)) z ds) (putN name ds n)):=by
  rw[<-putName_dict]
  exact Heap.get?_update_self _ hd (by rw[putName_dict];rfl)
 have hlen:(putL name (PyData.keyHash C.w.params name) (.str name (s.toks+1)) z ds).length<1000:=alI Dw (hf.length▸Nat.lt_of_lt_of_le (Nat.succ_lt_succ hz) (by decide))
 refine wpAny_updatePart (s:={s with toks:=s.toks+1+1}) hd (wpAny_bind (wpAny_lookBehind jD' (pastItsLine_dict (by rw[List.size_toArray];exact Nat.le_succ_of_le (qC hlen))) (wpAny_pure (q _ (zV.Q6 (jjD:=p.2) R hl hp (.inr rfl) (Heap.SameBut.update ..) (λim=>⟨ne,_,_,?_,jD',?_,Am hnd,hc⟩) rfl rfl)))))
 ·exact(Heap.get?_update_other _ _ (Ne.symm ne)).trans hI.at_
 ·exact Cr X.j.1 hn (vK.keeps (λJ J e=>e) im hf) hnd (hv.keeps (λJ J e=>e) im)
end
section
variable{C:Cx}{A:Around}{s:Shared}{Z:Emb}{U:St}{E:Value->Shared->Prop}
theorem Dn{v:V}{n:Nat}{x:Value}{h:Heap}(hb:EF v=some n)(hv:zS C Z h v x):n<256/\∃t,x= .int (n:Int) t:=by
 refine zB hb λk e hb=>zK hb λhk hb=> ?_
 apply hv.Re e;intro t
 have e:=alS hb
 exact⟨by omega,t,alQ (Value.int · t) (by omega)⟩
theorem sO{h:Heap}{bs:List Nat}{xs:List Value}(r:Al2 (λx n=>n<256/\∃t,x= .int (n:Int) t) xs bs):IntsAre xs (bs.map λ(n:Nat)=>(n:Int))/\∀n∈bs,n<256:=by
 induction r with
 |nil=>exact⟨.nil,λJ q=>nomatch q⟩
 |cons a _ ih=>
  refine xAE a λhl t e=> ?_
  rw[e]
  exact⟨.cons _ _ ih.1,λm hm=>(alC hm).elim (λe=>e▸hl) (ih.2 m)⟩
theorem nU{bs:List Nat}(h:∀n∈bs,n<256):(byteArr (bs.map λ(n:Nat)=>(n:Int))).toList.map UInt8.toNat=bs:=by
 unfold byteArr
 rw[List.toList_toArray,List.map_map,List.map_map]
 refine(List.map_congr_left λb hb=> ?_).trans (List.map_id bs)
 show((b:Int).toNat.toUInt8).toNat=b
 rw[Int.toNat_natCast,Nat.toUInt8_eq,UInt8.toNat_ofNat_of_lt' (h b hb)]
theorem CL{a:Addr}{ds:List DictEntry}{n:Nat}{Q:Value->Shared->Prop}(lo:(a==sysModules)=false)(ho:s.heap.get? a=some (dictOf ds n))(hz:ds.length<2 ^ 62)(h:Q (.int ds.length (s.toks+1)) {s with toks:=s.toks+1+1}):
  wpAny (Mo C) A (call (.builtin "len") [.ref a]) Q E s:=by
 refine pT (zN ho) PySem.F.slot_dict_len PySem.F.entry_dict_len (PySem.F.args_dict_len_1 _) hz (λA' Q' q=> ?_) h
 show wpAny _ _ (dictSize a>>=_) _ _ s
 unfold dictSize
 refine wpAny_bind (wpAny_bind (wpAny_dictEntries ho rfl (wpAny_pure ?_)))
 show wpAny _ _ (Builtin.Dict.pendingCount a>>=_) _ _ s
 refine wpAny_bind (wpAny_pendingCount_other lo ?_)
 refine wpAny_bind (wpAny_mkInt (wpAny_pure ?_))
 exact q
theorem nH{α:Type}{as:List V}{xs:List Value}{f:V->Option α}{r:α}(h:QQ as f=some r)(ha:zW C Z s.heap as xs){G:List Value->Prop}(k:∀a x,zS C Z s.heap a x->f a=some r->G [x]):G xs:=by
 refine yU h λa e h=> ?_
 subst e
 cases ha with|cons a1 ha=>cases ha with|nil=>exact k _ _ a1 h
theorem Ek{n:Nat}(h:n<1000):n<2 ^ 62:=Nat.lt_trans h (by decide)
theorem EM{n:Nat}(h:n<1000):(n:Int)<2 ^ 63:=by omega
theorem Ff(X:y9 C){v a:V}{x:Value}{U':St}{Q:Value->Shared->Prop}(R:Rel C Z U s.heap)(ha:zS C Z s.heap a x)(h:O4 U a=some (v,U'))(q:vY C Z U s v U' Q):wpAny (Mo C) A (call (.builtin "len") [x]) Q E s:=by
 have fin:∀{n m:Nat},n=m->rL n U=some (v,U')->n<1000/\∀t k,Q (.int m t) {s with toks:=k}:=λe h=>jX h λhz h=>⟨hz,λJ J=>aft q h (jL R) (e▸ .int _ _)⟩
 refine yN h (λJ J h=>zG h) (λl e h=> ?_) (λl e h=> ?_) (λJ J h=>zG h) λl e h=>jM h (λvs hl h=> ?_) (λes hl h=> ?_) λbs hl h=> ?_
 ·apply(e▸ha).Rk;intro arr t ea
  have hl:l.length=arr.size:=ea▸alF ..
  have z:=fin hl h
  exact len_bytes (alJ (Nat.le_of_lt (hl▸z.1)) (by decide)) (z.2 _ _)
 ·apply(e▸ha).QR;intro p arr ht hr
  have z:=fin hr.length h
  exact PyProof.Rows.len_tuple ht (EM (alI (Nat.le_of_eq hr.length.symm) z.1)) (z.2 _ _)
 ·apply(e▸ha).QK;intro p hp
  refine vE (yE R hl hp) λys n ho hr=> ?_
  have z:=fin hr.length h
  exact PyProof.Rows.len_list (yL ho) (EM (alI (Nat.le_of_eq hr.length.symm) z.1)) (z.2 _ _)
 ·apply(e▸ha).QK;intro p hp
  refine vA (qD R hl hp) λJ ds n ho hr hn J=> ?_
  have z:=fin hr.length h
  exact CL (qY X R hl hp) ho (Ek (alI (Nat.le_of_eq hr.length.symm) z.1)) (z.2 _ _)
 ·apply(e▸ha).QK;intro p hp
  refine Ed (dJ R hl hp) λJ arr ho eb=> ?_
  have hl:bs.length=arr.size:=eb▸alF ..
  have z:=fin hl h
  exact JX ho (Ek (hl▸z.1)) (z.2 _ _)
theorem Bf(X:y9 C){v a:V}{x:Value}{n:String}{U':St}{Q:Value->Shared->Prop}(hh:A.handled=none)(hu:A.units+150<cLine)(R:Rel C Z U s.heap)(ha:zS C Z s.heap a x)(h:lH n U a=some (v,U'))(q:vY C Z U s v U' Q):
  keeperOf (.type n)=pure .machine/\wpC (Mo C) A (call (.type n) [x]) Q E s:=by
 refine j8 h (λe h=> ?_) λJ h=>j8 h (λe h=> ?_) λJ h=>j8 h (λe h=> ?_) λJ h=>j8 h (λe h=> ?_) λJ h=>zK h λe h=> ?_
 ·subst e
  refine zB h λk ek h=>zK h λhk h=> ?_
  apply ha.Re ek;intro t
  exact⟨rfl,zL (call_range_1 (aft q h (q4 (t:=s.toks+1+1) _ R) (.Rt (t1:=s.toks) (t2:=t) (t3:=s.toks+1) (by rw[Int.toNat_of_nonneg hk.1];exact Heap.get?_push_size _ rfl))))⟩
 ·subst e
  refine zB h λl el h=>zB h λes hl h=>jX h λhz h=> ?_
  apply ha.QG el;intro p hp
  exact⟨rfl,zL (BQ X hh R (tK hl) hp hz λJ J J S r=>aft q h S r)⟩
 ·subst e
  refine zB h λl el h=>zB h λvs hl h=>jX h λhz h=>zB h λps hps h=>zK h λhk h=> ?_
  apply ha.QG el;intro p hp
  exact⟨rfl,zL (Bz X hh (alI (Nat.add_le_add_left (by decide) _) hu) R (i8 hl) hp hz hps hk λJ J J S r=>aft q h S r)⟩
 ·subst e
  refine zB h λl el h=>zB h λvs hl h=>jX h λhz h=>zB h λbs hb h=> ?_
  apply ha.QG el;intro p hp
  refine vE (yE R (i8 hl) hp) λys n ho hr=> ?_
  refine xA (sO (h:=s.heap) (hr.al.join (jF hb) λv x n J r e=>Dn e r)) λhi hb=> ?_
  refine⟨rfl,zL (aV (call_bytes_ints (vs:=ys.toList) (yL (xs:=ys.toList.toArray) (n:=n) ho) hi (λm hm=> ?_) (qC (hr.length▸hz)) hh λh' t k hk hsz=>aft q h (zV.R9 R hk hsz rfl rfl) (.bytes _ (nU hb))))⟩
  refine xEA (List.mem_map.mp hm) λm' hm' e=> ?_
  have:=hb m' hm'
  omega
 ·subst e
  refine zB h λl el h=>jX h λhz h=> ?_
  apply ha.getBytes el;intro arr t e
  exact⟨rfl,Js (GD (qC (by rw[<-e,alF] at hz;exact hz)) λh' g' b' hsz=>aft q h (pC (t:=s.toks) R (λb o ho=>b'.extBut b o (Nat.ne_of_lt (Heap.lt_size ho)) (Heap.get?_push_of_some _ ho)) hsz g' e) (.c yG))⟩
theorem De(X:y9 C){f v:V}{as:List V}{x:Value}{xs:List Value}{U':St}{Q:Value->Shared->Prop}(hh:A.handled=none)(hu:A.units+150<cLine)(R:Rel C Z U s.heap)(hf:zS C Z s.heap f x)(ha:zW C Z s.heap as xs)
  (h:iQ f as U=some (v,U'))(q:vY C Z U s v U' Q):keeperOf x=pure .machine/\wpC (Mo C) A (call x xs) Q E s:=by
 cases e:f.RQ with
 |some n=>
  have h:QQ as (DX n U)=some (v,U'):=by unfold iQ at h;rw[e] at h;exact h
  have ex:x= .builtin n:=(AX e▸hf).Rq.2
  rw[ex]
  apply nH h ha;intro a y r h
  refine j8 h (λe h=> ?_) λJ h=>zK h λe h=> ?_
  ·subst e;exact⟨rfl,zL (Ff X R r h q)⟩
  ·subst e
   refine zB h λl el h=>zB h λes hl h=>zK h λhe h=> ?_
   apply r.QG el;intro p hp
   exact⟨rfl,zL (BW X hh R (List.isEmpty_iff.mp he▸tK hl) hp λJ J J S r=>aft q h S r)⟩
 |none=>
  have h:(pur f.RS λs=>QQ as (lH s U))=some (v,U'):=by unfold iQ at h;rw[e] at h;exact h
  refine zB h λn en h=> ?_
  have ex:x= .type n:=(Aa en▸hf).Rq
  rw[ex]
  apply nH h ha;intro a y r h
  exact Bf X hh hu R r h q
end
section
variable{C:Cx}{A:Around}{s:Shared}{Z:Emb}{U:St}{E:Value->Shared->Prop}
theorem Aj{o:V}{m:Nat}{x:Value}{QU QS:Nat}{name:Str}{pl:Sem Bool}{Q:Value×List Value->Shared->Prop}(R:Rel C Z U s.heap)(ho:zS C Z s.heap o x)(hm:pV QU QS o m U=some ())
  (wA:C.T.j[QU]?=some "append")(wG:C.T.j[QS]?=some "get")(hn:C.T.j[m]?=some name)(q:∀id,keeperOf (.builtin id)=pure .machine->((m=QU/\id="list.append")\/(m=QS/\id="dict.get"))->Q (.builtin id,[x]) s):wpAny (Mo C) A (getMethod x name pl) Q E s:=by
 refine zB hm λl el hm=>jM hm (λvs hl hm=>zK hm λe J=> ?_) (λes hl hm=>zK hm λe J=> ?_) λJ J h=>zG h
 ·revert q;apply ho.QG el;intro p hp q
  refine vE (yE R hl hp) λxs n hob J=> ?_
  rw[alS (hn.symm.trans (e▸wA))]
  exact getMethod_builtin ⟨_,hob,rfl⟩ PySem.F.plainAttrs_list PySem.F.slot_list_append PySem.F.type_list_append (λa ea=>Value.ref.inj ea▸⟨_,hob,rfl⟩) (q _ rfl (.inl ⟨e,rfl⟩))
 ·revert q;apply ho.QG el;intro p hp q
  refine dE (qD R hl hp) λJ ds n hob J=> ?_
  rw[alS (hn.symm.trans (e▸wG))]
  exact getMethod_builtin ⟨_,hob,rfl⟩ PySem.F.plainAttrs_dict PySem.F.slot_dict_get PySem.F.type_dict_get (λa ea=>Value.ref.inj ea▸⟨_,hob,rfl⟩) (q _ rfl (.inr ⟨e,rfl⟩))
theorem C5(X:y9 C){o v:V}{m QU QS:Nat}{as:List V}{x:Value}{xs:List Value}{id:String}{U':St}{Q:Value->Shared->Prop}(hu:A.units+150<cLine)(R:Rel C Z U s.heap)(ho:zS C Z s.heap o x)(ha:zW C Z s.heap as xs)
  (hne:QU≠QS)(hid:(m=QU/\id="list.append")\/(m=QS/\id="dict.get"))(h:CC QU QS o m as U=some (v,U'))(q:vY C Z U s v U' Q):wpAny (Mo C) A (call (.builtin id) (x::xs)) Q E s:=by
 refine zB h λl el h=> ?_
 apply nH h ha;intro a y a1 h
 apply ho.QG el;intro p hp
 refine jM h (λvs hl h=>zK h λhc h=> ?_) (λes hl h=>zK h λhc h=> ?_) λJ J h=>zG h
 ·have e:id="list.append":=hid.elim And.right λh=>absurd (hc.1.symm.trans h.1) hne
  subst e
  refine dE (qE.of R hl hp) λeq ys n hob hr=> ?_
  refine call_meets PySem.F.slot_list_append ⟨_,hob,rfl⟩ PySem.F.entry_list_append (PySem.F.args_list_append_2 _ _) (list_append p.1 ys n _ (qC (n:=ys.size) ((show vs.length=ys.size from hr.length)▸hc.2)|>λJ=>by have hz:=hc.2;rw[show vs.length=ys.size from hr.length] at hz;rw[sizeLine_eq];omega)) ⟨hob,?_⟩
  refine aft q h (zV.Q6 (jjD:=p.1) R hl hp (.inl rfl) (Heap.SameBut.update ..) (λim=>⟨eq,_,_,PySem.IsL.update (n:=n) hob _,?_⟩) rfl rfl) .none
  rw[Array.toList_push]
  exact(hr.keeps (λJ J e=>e) im).append (.cons (a1.keeps (λJ J e=>e) im) .nil)
 ·have e:id="dict.get":=hid.elim (λh=>absurd (h.1.symm.trans hc.1) hne) And.right
  subst e
  refine vA (qD R hl hp) λJ ds n hob hr hn J=> ?_
  refine wpAny_call_entry PySem.F.slot_dict_get (zN hob) PySem.F.entry_dict_get ?_ (PySem.F.args_dict_get_2 _ _)
  show wpAny _ _ (dictGet p.1 _>>=_) _ _ s
  refine wpAny_bind (kQ (A:=A.in1) X.j hob hr hn hc.2 a1 (oG (alI (Nat.add_le_add_left (by decide) _) hu)) λr hrr=> ?_)
  cases hf:yA es a with
  |some u=>
   rw[hf] at hrr h
   refine xEA hrr λz ez hz=> ?_
   rw[ez]
   exact wpAny_pure ⟨z,rfl,aft q h (jL R) hz⟩
  |none=>
   rw[hf] at hrr h
   rw[show r=none from hrr]
   show wpAny _ _ (Builtin.Dict.missed p.1 _>>=_) _ _ _
   exact wpAny_bind (wpAny_missed_other (qY X R hl hp) (wpAny_pure ⟨.none,rfl,aft q h (jL R) .none⟩))
end
section
variable{C:Cx}{A:Around}{s:Shared}{Z:Emb}{U:St}{E:Value->Shared->Prop}
inductive jO(C:Cx)(Z:Emb)(U:St)(I:Addr)(h:Heap):V->Nat->Prop
 |Q1 {l a xs i}:h.IsTupleIter I a i->IsTup h a xs->zW C Z h l xs.toList->jO C Z U I h (.Q1 l) i
 |bytes {l arr t i}:KBw.IsBytesIter h I arr t i->arr.toList.map UInt8.toNat=l->jO C Z U I h (.bytes l) i
 |Rt {n:Nat} {i:Nat}:IsRangeIter h I (i:Int) ((n:Int)-(i:Int)) 1->jO C Z U I h (.Rt n) i
 |list {x vs p i}:U.get x=some (.list vs)->Z x=some p->h.IsListIter I p.1 i->jO C Z U I h (.c x) i
 |QA {x vs p i}:U.get x=some (.QA vs)->Z x=some p->qH h I p.1 i->jO C Z U I h (.c x) i
def tY(n:String)(o:Obj):Prop:=o.cls= .type n/\(∃vs,o.data= .fields vs)/\¬u3 o/\(["enumerate","zip","dict_itemiterator","dict_reverseitemiterator","odict_iterator","itertools.zip_longest","itertools.pairwise"].contains n)=false
theorem cX{n:String}{o:Obj}{vs:Array Value}(hc:o.cls= .type n)(hd:o.data= .fields vs)(h1:n≠"tuple")(h2:n≠"range")(h3:(["enumerate","zip","dict_itemiterator","dict_reverseitemiterator","odict_iterator","itertools.zip_longest","itertools.pairwise"].contains n)=false):tY n o:=
 ⟨hc,⟨_,hd⟩,jQ (hc▸uN h1) (hc▸uN h2),h3⟩
theorem jO.still{I:Addr}{h:Heap}{v:V}{i:Nat}(x:jO C Z U I h v i):∃o n,h.get? I=some o/\tY n o:=by
 cases x with
 |Q1 h1 _ _=>refine eO h1 λo ho hc hd=> ?_;exact⟨o,_,ho,cX hc hd (by decide) (by decide) (by decide)⟩
 |bytes h1 _=>refine eO h1 λo ho hc hd=> ?_;exact⟨o,_,ho,cX hc hd (by decide) (by decide) (by decide)⟩
 |Rt h1=>exact⟨_,_,h1,cX rfl rfl (by decide) (by decide) (by decide)⟩
 |list _ _ h1=>refine eO h1 λo ho hc hd=> ?_;exact⟨o,_,ho,cX hc hd (by decide) (by decide) (by decide)⟩
 |QA _ _ h1=>refine eO h1 λo ho hc hd=> ?_;exact⟨o,_,ho,cX hc hd (by decide) (by decide) (by decide)⟩
theorem pW{I:Addr}{v:V}{i:Nat}{y:Value}{t:Expr}{Q:Unit->Shared->Prop}(x:jO C Z U I s.heap v i)(h:Q () s):wpAny (Mo C) A (letOwnedTupleGo t (.ref I) y) Q E s:=by
 obtain⟨o,n,ho,hc,⟨vs,hd⟩,_,hn⟩:=x.still
 have core:wpAny (Mo C) A (do
   let(.ref r,.ref a):=(Value.ref I,y)|return
   let o<-load r
   match o.cls,o.data with
   | .type n,.fields vs=>
    if ["enumerate","zip","dict_itemiterator","dict_reverseitemiterator","odict_iterator","itertools.zip_longest","itertools.pairwise"].contains n&&vs[0]?==some (rawInt a) then
     rule "for.unpacks-the-owned-tuple"
     updateField r 0 .none
   |_,_=>pure ()) Q E s:=by
  cases y with
  |ref a=>
   dsimp only
   refine wpAny_bind (wpAny_load ho ?_)
   rw[hc,hd]
   dsimp only
   rw[hn,Bool.false_and,if_neg Bool.false_ne_true]
   exact wpAny_pure h
  |_=>exact wpAny_pure h
 unfold letOwnedTupleGo
 cases t with
 |Tuple=>exact core
 |List=>exact core
 |_=>exact wpAny_pure h
theorem aD{x:Loc}{vs:List V}(h:U.get x=some (.list vs)):qM (.c x) U=some (vs,some x):=by
 show jV (U.get x) _ _ _=_;rw[h];rfl
theorem eH{x:Loc}{bs:List Nat}(h:U.get x=some (.QA bs)):qM (.c x) U=some (bs.map wT,some x):=by
 show jV (U.get x) _ _ _=_;rw[h];rfl
theorem jO.step{X:Addr->Prop}{I:Addr}{v:V}{i:Nat}{Z':Emb}{U':St}{s':Shared}(x:jO C Z U I s.heap v i)(S:zV C X Z U s Z' U' s')(hI:¬own Z U I)(hX:¬X I)
  (hs:∀{vs lo},qM v U=some (vs,lo)->kN U U' lo=true):jO C Z' U' I s'.heap v i:=by
 have kp:∀{P:Obj->Prop},(∃o,s.heap.get? I=some o/\P o)->∃o,s'.heap.get? I=some o/\P o:=λh=>h.imp λo q=>⟨S.keep I o q.1 hI hX,q.2⟩
 cases x with
 |Q1 h1 h2 h3=>exact .Q1 (kp h1) (let⟨o,ho,hc,n,hd⟩:=h2;⟨o,S.QH _ _ ho (.inl ⟨hc,_,n,hd⟩),hc,n,hd⟩) (h3.keeps S.ext S.QH)
 |bytes h1 h2=>exact .bytes (kp h1) h2
 |Rt h1=>exact .Rt (S.keep I _ h1 hI hX)
 |list hg hi h1=>exact .list ((alH (hs (aD hg))).trans hg) (S.ext _ _ hi) (kp h1)
 |QA hg hi h1=>exact .QA ((alH (hs (eH hg))).trans hg) (S.ext _ _ hi) (kp h1)
theorem cJ{a:V}{x:Value}{vs:List V}{lo:Option Loc}{Q:Value->Shared->Prop}(R:Rel C Z U s.heap)(ha:zS C Z s.heap a x)(h:qM a U=some (vs,lo))
  (q:∀I s',zV C Nil Z U s Z U s'->s.heap.objs.size<=I->I<s'.heap.objs.size->jO C Z U I s'.heap a 0->Q (.ref I) s'):wpAny (Mo C) A (pyIter x) Q E s:=by
 have fin:∀{o:Obj},jO C Z U s.heap.objs.size (s.heap.push o) a 0->Q (.ref s.heap.objs.size) {s with heap:=s.heap.push o}:=λ{o} it=>q _ _ (q4 (t:=s.toks) _ R) (Nat.le_refl _) (by rw[Heap.size_push];exact Nat.lt_succ_self _) it
 refine yN h (λJ J h=>zG h) (λl e h=> ?_) (λl e h=> ?_) (λk e h=>zK h λhk h=> ?_) λl e h=>jM h (λus hl h=> ?_) (λJ J h=>zG h) λbs hl h=> ?_
 ·subst e
  apply ha.Rk;intro arr t eb
  exact KBw.pyIter_bytes (fin (.bytes ⟨_,Heap.get?_push_size _ rfl,rfl,rfl⟩ eb))
 ·subst e
  apply ha.QR;intro p xs ht hr
  exact wpAny_pyIter_tuple ht (fin (.Q1 ⟨_,Heap.get?_push_size _ rfl,rfl,rfl⟩ (ht.keeps λJ J e=>Heap.get?_push_of_some _ e) (hr.keeps (λJ J e=>e) (Imm.of_keeps λJ J e=>Heap.get?_push_of_some _ e))))
 ·subst e
  refine Ie ha.Rq λp t1 t2 t3 ho ex=> ?_
  rw[ex]
  refine wpAny_pyIter_range ho (small_one (by decide) (by decide) (by omega) (by omega)) (fin (.Rt ?_))
  have e1:Builtin.Range.rangeSize 0 (k:Int) 1=(k:Int):=by rw[rangeSize_one];split<;>omega
  rw[e1]
  show(s.heap.push _).get? s.heap.objs.size=some {cls:= .type "range_iterator",dict:=none,data:= .fields #[rawInt ((0:Nat):Int),rawInt ((k:Int)-((0:Nat):Int)),rawInt 1],slots:= #[]}
  rw[show((k:Int)-((0:Nat):Int))=(k:Int) from Int.sub_zero _]
  exact Heap.get?_push_size _ rfl
 ·subst e
  apply ha.QK;intro p hp
  refine vE (yE R hl hp) λxs n ho hr=> ?_
  exact wpAny_pyIter_list (yL ho) (fin (.list hl hp ⟨_,Heap.get?_push_size _ rfl,rfl,rfl⟩))
 ·subst e
  apply ha.QK;intro p hp
  refine Ed (dJ R hl hp) λJ arr ho J=> ?_
  exact lY ho (fin (.QA hl hp ⟨_,Heap.get?_push_size _ rfl,rfl,rfl⟩))
theorem nW{I:Addr}{v:V}{i:Nat}{Q:Value->Shared->Prop}(x:jO C Z U I s.heap v i)(h:Q (.ref I) s):wpAny (Mo C) A (pyIter (.ref I)) Q E s:=by
 cases x with
 |Q1 h1 _ _=>exact wpAny_pyIter_tupleiter h1 h
 |bytes h1 _=>exact KBw.pyIter_self h1 h
 |Rt h1=>exact wpAny_pyIter_rangeiter h1 h
 |list _ _ h1=>exact wpAny_pyIter_listiter h1 h
 |QA _ _ h1=>exact Gf h1 h
def Ny(C:Cx)(Z:Emb)(U:St)(s:Shared)(I:Addr)(v:V)(i:Nat)(Q:Option Value->Shared->Prop)(o:Option V):Prop:=match o with
 |some u=>∀s' y,zV C (λb=>b=I) Z U s Z U s'->zS C Z s'.heap u y->jO C Z U I s'.heap v (i+1)->Q (some y) s'
 |none=>∀s',zV C (λb=>b=I) Z U s Z U s'->Q none s'
theorem aG{I:Addr}{v:V}{i:Nat}{vs:List V}{lo:Option Loc}{Q:Option Value->Shared->Prop}(hh:A.handled=none)(R:Rel C Z U s.heap)(x:jO C Z U I s.heap v i)(hI:¬own Z U I)(hI0:C.h0.get? I=none)(h:qM v U=some (vs,lo))
  (q:Ny C Z U s I v i Q vs[i]?):wpAny (Mo C) A (pyNext (.ref I)) Q E s:=by
 have hst:∀o,s.heap.get? I=some o->¬u3 o:=λo e=>by
  refine EN x.still λo' J ho J J hs J=> ?_
  exact alS (ho.symm.trans e)▸hs
 have S1:∀{h' tk},Heap.SameBut I s.heap h'->zV C (λb=>b=I) Z U s Z U {s with heap:=h',toks:=tk}:=λhb=>zV.other R hb hI rfl hI0 hst rfl rfl
 have item:∀{u:V},vs[i]?=some u->∀{y:Value} {h':Heap} {t:Nat},Heap.SameBut I s.heap h'->(Imm s.heap h'->zS C Z h' u y)->(Imm s.heap h'->jO C Z U I h' v (i+1))->Q (some y) {s with heap:=h',toks:=t}:=λ{u} hu {y h' t} hb r it=>by
  rw[hu] at q
  have S:=S1 (tk:=t) hb
  exact q _ _ S (r S.QH) (it S.QH)
 have stop:vs[i]?=none->∀h',Heap.ExtBut I s.heap h'->s.heap.objs.size<=h'.objs.size->Q none {s with heap:=h'}:=λhu h' hb hs=>by
  rw[hu] at q
  exact q _ (zV.R1 (s':={s with heap:=h',toks:=s.toks}) R hb hs hI rfl hI0 hst rfl rfl)
 cases x with
 | @Q1 l a xs i h1 h2 h3=>
  have e:l=vs:=(Prod.mk.inj (alS h)).1
  subst e
  cases hv:l[i]? with
  |some u=>
   refine xEA (h3.get hv) λy hy ry=> ?_
   exact wpAny_pyNext_tuple_item h1 h2 (Array.getElem?_toList.symm.trans hy) λh' hit' hs'=>item hv hs' (λim=>ry.keeps (λJ J e=>e) im) λim=> .Q1 hit' (let⟨o,ho,hc,n,hd⟩:=h2;⟨o,im _ _ ho (.inl ⟨hc,_,n,hd⟩),hc,n,hd⟩) (h3.keeps (λJ J e=>e) im)
  |none=>exact aV (wpAny_pyNext_tuple_end hh h1 h2 (by have:=List.getElem?_eq_none_iff.mp hv;rw[h3.length] at this;exact Array.getElem?_eq_none this) λh' he hs=>stop hv h' he hs)
 | @bytes l arr t i h1 h2=>
  have e:l.map wT=vs:=(Prod.mk.inj (alS h)).1
  subst e
  cases hc:arr[i]? with
  |some c=>exact KBw.next_item h1 hc λh' hit' hs'=>item (u:= .int (c.toNat:Int)) (by rw[<-h2,List.getElem?_map,List.getElem?_map,Array.getElem?_toList,hc];rfl) hs' (λJ=> .int _ _) λJ=> .bytes hit' h2
  |none=>exact aV (KBw.next_end hh h1 hc λh' he hs=>stop (by rw[<-h2,List.getElem?_map,List.getElem?_map,Array.getElem?_toList,hc];rfl) h' he hs)
 | @Rt n i h1=>
  have e:(List.range n).map wT=vs:=zK h λJ h=>(Prod.mk.inj (alS h)).1
  subst e
  by_cases hin:i<n
  ·refine wpAny_pyNext_range_item h1 (by omega) λh' hit' hs'=>item (u:= .int (i:Int)) (by rw[List.getElem?_map,List.getElem?_range hin];rfl) hs' (λJ=> .int _ _) λJ=> .Rt ?_
   have e2:(n:Int)-((i+1:Nat):Int)=(n:Int)-(i:Int)-1:=by omega
   rw[e2];exact hit'
  ·exact aV (wpAny_pyNext_range_end hh h1 (by omega) λh' he hs=>stop (List.getElem?_eq_none (by rw[alF,List.length_range];exact Nat.le_of_not_lt hin)) h' he hs)
 | @list y us p i hg hi h1=>
  have e:us=vs:=(Prod.mk.inj (alS ((aD hg).symm.trans h))).1
  subst e
  refine vE (yE R hg hi) λxs n ho hr=> ?_
  cases hv:us[i]? with
  |some u=>
   refine xEA (hr.get hv) λz hz rz=> ?_
   exact wpAny_pyNext_list_item h1 (yL ho) (Array.getElem?_toList.symm.trans hz) λh' hit' hs'=>item hv hs' (λim=>rz.keeps (λJ J e=>e) im) λJ=> .list hg hi hit'
  |none=>exact aV (wpAny_pyNext_list_end hh h1 (yL ho) (by have:=List.getElem?_eq_none_iff.mp hv;rw[hr.length] at this;exact Array.getElem?_eq_none this) λh' he hs=>stop hv h' he hs)
 | @QA y us p i hg hi h1=>
  have e:us.map wT=vs:=(Prod.mk.inj (alS ((eH hg).symm.trans h))).1
  subst e
  refine Ed (dJ R hg hi) λJ arr ho eb=> ?_
  cases hc:arr[i]? with
  |some c=>exact Fy h1 ho hc λh' hit' hs'=>item (u:= .int (c.toNat:Int)) (by rw[<-eb,List.getElem?_map,List.getElem?_map,Array.getElem?_toList,hc];rfl) hs' (λJ=> .int _ _) λJ=> .QA hg hi hit'
  |none=>exact aV (HV hh h1 ho hc λh' he hs=>stop (by rw[<-eb,List.getElem?_map,List.getElem?_map,Array.getElem?_toList,hc];rfl) h' he hs)
end
end
section
open PySem PySem.W PyProof.Rows
open PySem.Sem (wp)
abbrev No:Value->Shared->Prop:=λJ J=>False
section
variable{α:Type}{M:Model}{A:Around}{E:Value->Shared->Prop}{s:Shared}{env:PySem.Env}
theorem j3{m:Sem α}{k:Value->Sem Unit}{Q:α->Shared->Prop}(h:wpC M A m Q No s):wpC M A (m.onRaise k) Q E s:=
 nR (u2 h (λJ J x=>x) λJ J f=>f.elim)
theorem m7{m:Sem α}{Q:Except Value α->Shared->Prop}(h:wpC M A m (λa=>Q (.ok a)) No s):wpC M A m.attempt Q E s:=λΓ p hΓ hc=>by
 rw[Sem.wp_attempt]
 exact Sem.wp_mono M Γ m (λJ J J x=>x) (λJ J J f=>f.elim) p s (h Γ p hΓ hc)
theorem bN{tag:String}{Q:Unit->Shared->Prop}(h:Q () s):wpC M A (rule tag) Q E s:=zL (wpAny_rule h)
theorem d9{c:Code}{Q:Flow->Shared->Prop}(hc:jK M A c (λr s'=>match r with| .ok f=>Q f s'| .error _=>False) s):wpC M A (runOwn c env) Q E s:=by
 unfold runOwn
 refine j3 (Ae ?_ nofun)
 have e:A.mark none=A:=by cases A;simp[Around.mark]
 rw[e]
 exact aB hc λr s' h=>by cases r<;>exact h
theorem mQ{c:Prop}[Decidable c]{pos:Pos}{k:PUnit->Sem α}{Q:α->Shared->Prop}(h:wpC M A (k ()) Q E s):wpC M A (if c then(standAt pos>>=k) else k ()) Q E s:=by
 split
 ·exact z6 h
 ·exact h
theorem BG{c:Prop}[Decidable c]{a b:Sem α}{Q:α->Shared->Prop}(h:if c then wpC M A a Q E s else wpC M A b Q E s):wpC M A (if c then a else b) Q E s:=by split<;>simp_all
end
section
variable{prog:Program}{w:World}{A:Around}{E:Value->Shared->Prop}{R:Result->Shared->Prop}{s:Shared}{env:PySem.Env}
theorem dB(h:R (.ok .next) s):jK (model prog w) A (.block [] env) R s:=by
 refine zZ ?_ (λJ J=>rfl)
 show wpC _ _ (do return Fin.done (<-(execs [] env).onRaise (λx=>do noteFrame x env;theTreesLotGoes x))) _ _ s
 exact zA (j3 (zL (wpAny_execs_nil (zD h))))
theorem w2{target:Expr}{it:Value}{body:List Stmt}
  (h:wpC (model prog w) A (pyNext it) (λr s₁=>match r with
   |none=>R (.ok .next) s₁
   |some v=>wpC (model prog w) A (letOwnedTupleGo target it v) (λJ s₂=>wpC (model prog w) A (assign target env v) (λJ s₃=>wpC (model prog w) A (execs body env) (λf s₄=>match f with
     | .next| .cont=>jK (model prog w) A (.forLoop target it body [] env) R s₄
     | .brk=>R (.ok .next) s₄
     | .ret v=>R (.ok (.ret v)) s₄) No s₃) No s₂) No s₁) No s):jK (model prog w) A (.forLoop target it body [] env) R s:=by
 refine zZ ?_ (λJ J=>rfl)
 rw[show A.under (Code.forLoop target it body [] env)=A from Around.under_of_weight rfl]
 show wpC _ A ((forTurn target it body [] env).onRaise (λx=>do noteFrame x env;theTreesLotGoes x)) _ _ s
 refine j3 ?_
 simp-iota only[forTurn]
 refine z6 (zA (j3 (zX h λr s₁ h₁=> ?_)))
 cases r with
 |none=>exact zD ⟨rfl,dB h₁⟩
 |some v=>
  refine zA (zX h₁ λJ s₂ h₂=>zA (zX h₂ λJ s₃ h₃=>zA (zX h₃ λf s₄ h₄=> ?_)))
  cases f with
  |next=>exact zD ⟨rfl,h₄⟩
  |cont=>exact zD ⟨rfl,h₄⟩
  |brk=>exact zD h₄
  |ret v=>exact zD h₄
theorem l0{test:Expr}{body:List Stmt}
  (h:wpC (model prog w) A (isTrue test env (eval test env)) (λb s₂=>match b with
   |false=>R (.ok .next) s₂
   |true=>wpC (model prog w) A (execs body env) (λf s₄=>match f with
     | .next| .cont=>jK (model prog w) A (.whileLoop test body [] env) R s₄
     | .brk=>R (.ok .next) s₄
     | .ret v=>R (.ok (.ret v)) s₄) No s₂) No s):jK (model prog w) A (.whileLoop test body [] env) R s:=by
 refine zZ ?_ (λJ J=>rfl)
 rw[show A.under (Code.whileLoop test body [] env)=A from Around.under_of_weight rfl]
 show wpC _ A ((whileTurn test body [] env).onRaise (λx=>do noteFrame x env;theTreesLotGoes x)) _ _ s
 refine j3 ?_
 simp-iota only[whileTurn]
 refine zA (zX h λb s₂ h₂=> ?_)
 cases b with
 |false=>
  simp-iota only[Bool.false_eq_true,if_false]
  exact zA (zL (wpAny_execs_nil (zD h₂)))
 |true=>
  simp-iota only[if_true]
  refine zA (zX h₂ λf s₄ h₄=> ?_)
  cases f with
  |next=>exact zD ⟨rfl,h₄⟩
  |cont=>exact zD ⟨rfl,h₄⟩
  |brk=>exact zD h₄
  |ret v=>exact zD h₄
theorem Ak{target iter:Expr}{body:List Stmt}{pos:Pos}{Q:Flow->Shared->Prop}(hs:∀x,foldedSetIterable iter env x=pure x)
  (h:wpC (model prog w) A (eval iter env) (λx s₁=>wpC (model prog w) A (pyIter x) (λit s₂=>
   jK (model prog w) A (.forLoop target it body [] env) (λr s'=>match r with| .ok f=>Q f s'| .error _=>False) s₂) E s₁) E s):wpC (model prog w) A (exec (.For target iter body [] pos) env) Q E s:=by
 rw[exec_For]
 exact z6 (zA (zX h λx s₁ h₁=>zM (wpAny_of_eq (hs x) (z6 (zA (zF (zX h₁ λit s₂ h₂=>d9 h₂)))))))
theorem BP{test:Expr}{body:List Stmt}{pos:Pos}{Q:Flow->Shared->Prop}
  (h:jK (model prog w) A (.whileLoop test body [] env) (λr s'=>match r with| .ok f=>Q f s'| .error _=>False) s):wpC (model prog w) A (exec (.While test body [] pos) env) Q E s:=by
 rw[arm_exec_While];exact z6 (d9 h)
theorem bV{elt target iter:Expr}{ifs:List Expr}{scope:Scope}{pos:Pos}{it acc:Value}
  (h0:jK (model prog w) A (.compLoop (.ListComp elt [⟨target,iter,ifs,0⟩] scope pos) 0 it acc env) R s)
  (h:wpC (model prog w) A (pyIter it) (λit' s'=>jK (model prog w) A (.compLoop (.ListComp elt [⟨target,iter,ifs,0⟩] scope pos) 0 it' acc env) R s') No s):
  jK (model prog w) A (.compStart (.ListComp elt [⟨target,iter,ifs,0⟩] scope pos) 0 it acc env) R s:=by
 refine zZ ?_ (λJ J=>rfl)
 rw[show A.under (Code.compStart (.ListComp elt [⟨target,iter,ifs,0⟩] scope pos) 0 it acc env)=A from Around.under_of_weight rfl]
 show wpC _ _ ((compStart (.ListComp elt [⟨target,iter,ifs,0⟩] scope pos) 0 it acc env).onRaise (λx=>do noteFrame x env;standAt theWindowsPlace)) _ _ s
 refine j3 ?_
 unfold compStart
 show wpC _ _ (ask>>=_) _ _ s
 refine zM (wpAny_askSetting (BG ?_))
 split
 ·first
   |exact zA (zD (zD (And.intro rfl h0)))
   |exact zD (And.intro rfl h0)
 ·first
   |exact zA (bN (z6 (zA (zX h λit' s' h'=>zD (And.intro rfl h')))))
   |(refine zA (bN ?_);show wpC _ _ (standAt iter.pos>>=_) _ _ s;exact z6 (zA (zX h λit' s' h'=>zD (And.intro rfl h'))))
theorem d6{elt target iter:Expr}{ifs:List Expr}{scope:Scope}{pos:Pos}{it acc:Value}
  (h:wpC (model prog w) A (pyNext it) (λr s₁=>match r with
   |none=>R (.ok .next) s₁
   |some v=>wpC (model prog w) A (letOwnedTupleGo target it v) (λJ s₂=>wpC (model prog w) A (assign target env v) (λJ s₃=>
     wpC (model prog w) A (forIn ifs true λc r=>if r=true then do let ok<-isTrue c env (eval c env);pure (ForInStep.yield ok) else pure (ForInStep.yield r)) (λok s₄=>match ok with
      |false=>jK (model prog w) A (.compLoop (.ListComp elt [⟨target,iter,ifs,0⟩] scope pos) 0 it acc env) R s₄
      |true=>wpC (model prog w) A (eval elt env) (λx s₅=>wpC (model prog w) A (call (.builtin "list.append") [acc,x]) (λJ s₆=>
        jK (model prog w) A (.compLoop (.ListComp elt [⟨target,iter,ifs,0⟩] scope pos) 0 it acc env) R s₆) No s₅) No s₄) No s₃) No s₂) No s₁) No s):
  jK (model prog w) A (.compLoop (.ListComp elt [⟨target,iter,ifs,0⟩] scope pos) 0 it acc env) R s:=by
 refine zZ ?_ (λJ J=>rfl)
 rw[show A.under (Code.compLoop (.ListComp elt [⟨target,iter,ifs,0⟩] scope pos) 0 it acc env)=A from Around.under_of_weight rfl]
 show wpC _ A ((compTurn (.ListComp elt [⟨target,iter,ifs,0⟩] scope pos) 0 it acc env).onRaise (λx=>do noteFrame x env;theTreesLotGoes x)) _ _ s
 refine j3 ?_
 rw[compTurn_list]
 refine z6 (zA (zX h λr s₁ h₁=> ?_))
 cases r with
 |none=>exact zD h₁
 |some v=>
  refine zA (zX h₁ λJ s₂ h₂=>zA (zX h₂ λJ s₃ h₃=>zA (zX h₃ λok s₄ h₄=> ?_)))
  cases ok with
  |false=>exact zD ⟨rfl,h₄⟩
  |true=>exact zA (zA (zX h₄ λx s₅ h₅=>zA (zX h₅ λJ s₆ h₆=>zD (zD ⟨rfl,h₆⟩))))
def pK(prog:Program)(w:World)(A:Around)(use:Option (Value->Sem Unit))(Q:Value->Shared->Prop)(E:Value->Shared->Prop)(acc:Value)(cenv:PySem.Env)(r:Result)(s':Shared):Prop:=match r with
 | .ok _=>(match use with
  |none=>∃m,s'.heap.Ns cenv.locals m/\∀h',Heap.SameBut cenv.locals s'.heap h'->Q acc {s' with heap:=h'}
  |some u=>wpC (model prog w) A (u acc) (λJ s''=>∃m,s''.heap.Ns cenv.locals m/\∀h',Heap.SameBut cenv.locals s''.heap h'->Q .none {s'' with heap:=h'}) E s')
 | .error _=>False
theorem tD{e:Expr}{scope:Scope}{pos:Pos}{newAcc first:Sem Value}{g:Comprehension}{gs:List Comprehension}{use:Option (Value->Sem Unit)}
  (hcl:clausesOf e=g::gs)(hkind:scope.kind= .function)(hnames:∀x∈scope.names,x.2= .local->scope.names.lookup x.1=some .local):
  ∃F:Value->Sem Value,comprehension e scope env pos newAcc false first use=(first>>=λx=>standAt pos>>=λJ=>foldedSetIterable g.iter env x>>=λx=>holding [x] (pyIter x)>>=F)/\
   ∃G:Value->PUnit->Sem Value,(∀it,F it=if use.isSome=true then(standAt e.pos>>=G it) else G it ())/\
    ∃K:Value->Value->PySem.Env->Sem Value,(∀it u,G it u=newAcc>>=λacc=>closureFor scope env>>=λcl=>newFunctionEnv scope env.globals cl [] env.qual none .none (some env)>>=K it acc)/\
     ∀it acc cenv {Q E s₄},jK (model prog w) A (.compStart e 0 it acc {cenv with scope:=relabel scope env}) (pK prog w A use Q E acc cenv) s₄->wpC (model prog w) A (K it acc cenv) Q E s₄:=by
 unfold comprehension
 rw[hcl]
 apply Exists.intro
 refine⟨rfl,?_⟩
 apply Exists.intro
 refine⟨λit=>rfl,?_⟩
 apply Exists.intro
 refine⟨λit u=>rfl,λit acc cenv {Q E s₄} h₄=> ?_⟩
 dsimp only
 have hv:∀x∈(scope.names.filter λx=>(x.2== .local||x.2== .cell)&&x.1 !=(".0":Str)).reverse,x.2= .local->
   Env.kindOf {cenv with scope:=relabel scope env} x.1=some .local:=λx hx hl=>lookup_relabel_local (hnames x (alL (List.mem_reverse.mp hx)).1 hl)
 have hv':∀x∈(scope.names.filter λx=>(x.2== .local||x.2== .cell)&&x.1 !=(".0":Str)).reverse.drop 1++(scope.names.filter λx=>(x.2== .local||x.2== .cell)&&x.1 !=(".0":Str)).reverse.take 1,
   x.2= .local->Env.kindOf {cenv with scope:=relabel scope env} x.1=some .local:=λx hx hl=>by
  rcases List.mem_append.mp hx with h1|h1
  ·exact hv x (List.mem_of_mem_drop h1) hl
  ·exact hv x (List.mem_of_mem_take h1) hl
 have em:A.mark none=A:=by cases A;simp[Around.mark]
 refine zF (zA (m7 (zF (Ae ?_ nofun))))
 rw[em]
 refine aB h₄ λr s' hr=> ?_
 cases r with
 |ok f=>
  cases use with
  |none=>
   refine xEA hr λm hn hr=> ?_
   exact zA (zF (zL (wpAny_comp_letGo (cenv:={cenv with scope:=relabel scope env}) hkind _ s' m hv hn λh' m' J hs'=>zD (hr h' hs'))))
  |some u=>
   refine zA (bN (zA (zF (zX hr λJ s'' hr'=> ?_))))
   refine xEA hr' λm hn hr'=> ?_
   exact zA (zL (wpAny_comp_letGo (cenv:={cenv with scope:=relabel scope env}) hkind _ s'' m hv' hn λh' m' J hs'=>zD (hr' h' hs')))
 |error x=>exact hr.elim
theorem kY{e:Expr}{scope:Scope}{pos:Pos}{newAcc first:Sem Value}{g:Comprehension}{gs:List Comprehension}{use:Option (Value->Sem Unit)}{Q:Value->Shared->Prop}
  (hcl:clausesOf e=g::gs)(hs:∀x,foldedSetIterable g.iter env x=pure x)
  (hkind:scope.kind= .function)(hnames:∀x∈scope.names,x.2= .local->scope.names.lookup x.1=some .local)
  (h:wpC (model prog w) A first (λx s₁=>wpC (model prog w) A (pyIter x) (λit s₂=>wpC (model prog w) A newAcc (λacc s₃=>wpC (model prog w) A (closureFor scope env) (λcl s₃'=>
   wpC (model prog w) A (newFunctionEnv scope env.globals cl [] env.qual none .none (some env)) (λcenv s₄=>
    jK (model prog w) A (.compStart e 0 it acc {cenv with scope:=relabel scope env}) (pK prog w A use Q E acc cenv) s₄) E s₃') E s₃) E s₂) E s₁) E s):
  wpC (model prog w) A (comprehension e scope env pos newAcc false first use) Q E s:=by
 refine EV (tD (env:=env) (prog:=prog) (w:=w) (A:=A) (pos:=pos) (newAcc:=newAcc) (first:=first) (use:=use) hcl hkind hnames) λF e1 G e2 K e3 e4=> ?_
 rw[e1]
 refine zA (zX h λx s₁ h₁=>z6 (zM (wpAny_of_eq (hs x) (zA (zF (zX h₁ λit s₂ h₂=> ?_))))))
 rw[e2]
 refine mQ ?_
 rw[e3]
 exact zA (zX h₂ λacc s₃ h₃=>zA (zX h₃ λcl s₃' h₃'=>zA (zX h₃' λcenv s₄ h₄=>e4 _ _ _ h₄)))
end
end
section
open PySem PySem.W PyProof.Rows PySem.Calls
open PySem.Sem (wp)
section
variable{α:Type}{M:Model}{A:Around}{E:Value->Shared->Prop}{s:Shared}{env:PySem.Env}
theorem uK{Q:List Value->Shared->Prop}(h:Q [] s):wpC M A (spliced []) Q E s:=zD h
theorem vQ{x:Sem Value}{rest:List (Bool×Sem Value)}{Q:List Value->Shared->Prop}
  (h:wpC M A x (λv s₁=>wpC M A (spliced rest) (λvs s₂=>Q (v::vs) s₂) E s₁) E s):wpC M A (spliced ((false,x)::rest)) Q E s:=by
 rw[spliced]
 refine zA (zX h λv s₁ h₁=> ?_)
 simp-iota only[Bool.false_eq_true,if_false]
 exact zA (zD (zA (zF (zX h₁ λvs s₂ h₂=>zD h₂))))
theorem tO{f:Value}{args:List (Bool×Sem Value)}{Q:PySem.Args->Shared->Prop}(hp:args.all (λx=> !x.1)=true)
  (h:wpC M A (spliced args) (λvs s'=>Q ⟨vs,[]⟩ s') E s):wpC M A (evalArgs f true args []) Q E s:=by
 have go:wpC M A (spliced args>>=λvs=>holding (vs++(none:Option Value).toList) (pure (⟨vs,[]⟩:PySem.Args))) Q E s:=
  zA (zX h λvs s' h'=>zF (zD h'))
 cases args with
 |nil=>
  unfold evalArgs
  show wpC M A (spliced []>>=_) Q E s
  refine zA (zX h λvs s' h'=> ?_)
  refine zF ?_
  exact zA (zD (zA (zD (zD h'))))
 |cons a r=>
  obtain⟨st,x⟩:=a
  have hst:st=false:=by
   rw[List.all_cons,Bool.and_eq_true] at hp
   simpa using hp.1
  subst hst
  unfold evalArgs
  show wpC M A (spliced ((false,x)::r)>>=_) Q E s
  refine zA (zX h λvs s' h'=> ?_)
  refine zF ?_
  exact zA (zD (zA (zD (zD h'))))
theorem C6{vs:List Value}{m:Sem Value}{Q:Value->Shared->Prop}(h:wpC M A m Q E s):wpC M A (m.keep vs) Q E s:=λΓ p hΓ hc=>by
 rw[Sem.wp_keep];exact h Γ p hΓ hc
theorem u0{pos:Pos}{f:Value}{first:List Value}{args:List (Bool×Sem Value)}{Q:Value->Shared->Prop}(hp:args.all (λx=> !x.1)=true)
  (h:wpC M A (spliced args) (λvs s₁=>∃k,(k=Keeper.frame\/k=Keeper.machine)/\(∀(A':Around) (Q':Keeper->Shared->Prop),Q' k s₁->wpAny M A' (keeperOf f) Q' E s₁)/\wpC M A (call f (first++vs)) Q E s₁) E s):
  wpC M A (callWith pos f first args []) Q E s:=by
 have hany:args.any (·.1)=false:=by
  rw[List.any_eq_false]
  intro x hx
  have:=alN hp x hx
  simpa using this
 unfold callWith
 refine zA (zF (tO hp (zX h λvs s₁ h₁=>z6 ?_)))
 refine eO h₁ λk hk hL hc=> ?_
 have tail:∀{t:Sem Value},wpC M A t Q E s₁->wpC M A (t>>=λr=>holding [r] point>>=λJ=>pure r) Q E s₁:=
  λht=>zA (zX ht λr s₂ hr=>zA (zF (zL (wpAny_point (zD hr)))))
 simp-iota only[hany,List.any_nil,Bool.or_false]
 refine zM (hL _ _ ?_)
 rcases hk with rfl|rfl
 ·dsimp only
  refine BG ?_
  split
  ·exact tail hc
  ·exact tail (by unfold callMarked;exact C6 hc)
 ·exact tail hc
end
section
variable{prog:Program}{w:World}{A:Around}{E:Value->Shared->Prop}{R:Result->Shared->Prop}{s:Shared}
theorem kS{body:List Stmt}{env:PySem.Env}(h:wpC (model prog w) (A.deeper env) (execs body env) (λf s'=>R (.ok (.ret (match f with| .ret v=>v|_=> .none))) s') No s):jK (model prog w) A (.func body env) R s:=by
 refine zZ ?_ (λJ J=>rfl)
 show wpC _ (A.deeper env) (do point;match<-(execs body env).onRaise (leaving env) with| .ret v=>ret v|_=>ret .none) _ _ s
 refine zM (wpAny_point (zA (j3 (zX h λf s' h'=> ?_))))
 cases f<;>exact zD h'
theorem wN{a:Addr}{args:PySem.Args}{o:Obj}{fd:FuncData}{body:List Stmt}(hroom:A.depth<recursionLimit)(ho:s.heap.get? a=some o)
  (hd':o.data= .func fd)(hco:fd.scope.isCoroutine=false)(hgen:fd.scope.isGenerator=false)(hbody:fd.body= .stmts body)(hcd:s.heap.CodeRec fd.code fd.qualname)
  (h:wpAny (model prog w) A.in1 (bindArgs fd args) (λbinds s₁=>
   wpAny (model prog w) A.in1 (newFunctionEnv fd.scope fd.globals fd.closure binds (fd.qualname++".<locals>.") (some a) fd.code none fd.builtins)
    (λenv s₂=>s₂.heap.NoLimit/\jK (model prog w) A (.func body env) R s₂) (λe s'=>R (.error e) s') s₁) (λe s'=>R (.error e) s') s):
  jK (model prog w) A (.call (.ref a) args) R s:=by
 refine zZ (zL ?_) (λJ J=>rfl)
 show wpAny _ A.in1 (callAny (.ref a) args) _ _ s
 simp-iota only[callAny]
 refine wpAny_bind (wpAny_load ho ?_)
 refine rG hcd λc oc vs tq hc hoc hdc hq=> ?_
 rw[hd']
 dsimp only
 unfold callFunction
 rw[hc,hco,hgen,hbody]
 dsimp only
 rw[hc] at h
 refine wpAny_bind (m:=field (.ref c) 1) (wpAny_field hoc hdc hq (wpAny_bind (wpAny_pure ?_)))
 exact wpAny_bind (wpAny_mono h (λbinds s₁ h₁=>wpAny_bind (wpAny_mono h₁ (λenv s₂ h₂=>wpAny_bind (wpAny_enterFrame h₂.1 hroom
  (wpAny_pure (And.intro rfl h₂.2)))) λJ J h'=>h')) λJ J h'=>h')
theorem DJ(a:Value)(r:List Value)(p:Pos)(self:Value):iZ self (.builtin "type.__call__" ⟨a::r,[]⟩,p)=false:=by
 have e:iZ self (.builtin "type.__call__" ⟨a::r,[]⟩,p)=((Builtin.Bytes.sameRef a self&&false)||false):=by kernel_rfl
 rw[e,Bool.and_false];rfl
theorem Di{id:String}{args:PySem.Args}{b:Builtin}(hok:∀p,okC (.builtin id args,p))(hb:entryFor table id=some b)
  (h:wpC (model prog w) (A.under (.builtin id args)) (b args)
   (λfin s'=>match fin with| .done f=>R (.ok f) s'| .again c'=>c'.quiet=true/\jK (model prog w) A c' R s') (λe s'=>R (.error e) s') s):
  jK (model prog w) A (.builtin id args) R s:=by
 refine zZ ?_ hok
 show wpC _ _ (match entryFor table id with|some b=>b args|none=>unsupported ((withoutEnding? id "#data").getD id)) _ _ s
 rw[hb];exact h
theorem pI{C:Addr}{rest:List Value}:∃(X1:Sem Fin) (F:Option String->Sem Fin),
  Builtin.«type.__call__» ⟨.ref C::rest,[]⟩=(mroOf (.ref C)>>=λm=>if m.isEmpty=true then X1 else Bind.madeBy (.ref C)>>=F)/\∃(X2:Value->Sem Fin) (X3:Value->Option Value->Sem Fin),
  (∀id,F (some id)=(holding [.builtin id] (call (.builtin id) (.ref C::rest) [])>>=λobj=>isInstance obj (.ref C)>>=λr=>if(!r)=true then X2 obj else holding [obj] (callSpecial? obj "__init__" rest [])>>=X3 obj))/\∀obj,X3 obj (some .none)=ret obj:=by
 refine⟨_,_,rfl,?_⟩
 refine⟨_,_,λJ=>rfl,?_⟩
 exactλJ=>rfl
theorem CQ{f:Value}{args:Args}:∃F:Option Value->Sem Fin,callAny.viaDunder f args=(specialOf f "__call__">>=F)/\F (some (.builtin "type.__call__"))=again (.call (.builtin "type.__call__") ⟨f::args.pos,args.kw⟩):=by
 refine⟨_,rfl,?_⟩
 show(bindSpecial (.builtin "type.__call__") f>>=_)=_
 rw[tc_bind]
 rfl
theorem Cu{C:Addr}{args:Args}{oc:Value}{od:Option Addr}{cd:ClassData}{sl:Array (Option Value)}:∃k:Obj->Sem Fin,callAny (.ref C) args=(load C>>=k)/\k ⟨oc,od,.cls cd,sl⟩=callAny.viaDunder (.ref C) args:=⟨_,rfl,rfl⟩
theorem Mz{C:Addr}{rest:List Value}{init:Value}{h:Heap}{g:Array GenState}{d:Drawn}{t:Nat}{os:OsState}(jjY:Makes (model prog w) h C)(hi:Looks (model prog w) h (typeLookup (.ref C) "__init__") (some init))
  (hb:∀self,Looks (model prog w) h (bindSpecial init self) (init,[self]))(hne:(some init !=some (Value.builtin "object.__init__"))=true)
  (hq:jK (model prog w) (A.under (.builtin "type.__call__" ⟨.ref C::rest,[]⟩)) (.call init ⟨.ref (h.objs.size+1)::rest,[]⟩) (λr s'=>match r with
   | .ok (.ret v)=>v= .none/\R (.ok (.ret (.ref (h.objs.size+1)))) s'
   |_=>False) ⟨(h.push emptyDict).push (instObj C h.objs.size),g,d,t,os⟩):
  jK (model prog w) A (.call (.ref C) ⟨rest,[]⟩) R ⟨h,g,d,t,os⟩:=by
 have jY':=jjY
 obtain⟨⟨oc,od,cd,sl,hC,e1,e2,e4⟩,made,base,self,top,call,typ⟩:=jjY
 refine zZ (zL ?_) (λJ J=>rfl)
 refine xEA (Cu (C:=C) (args:=⟨rest,[]⟩) (oc:=oc) (od:=od) (cd:=cd) (sl:=sl)) λk0 d0 d3=> ?_
 refine xEA (CQ (f:= .ref C) (args:=⟨rest,[]⟩)) λF0 d1 d2=> ?_
 refine j4 d0 (wpAny_bind (wpAny_load hC (j4 (d3.trans d1) (wpAny_bind (call.at (j4 d2 (wpAny_pure (a:=Fin.again (.call (.builtin "type.__call__") ⟨.ref C::rest,[]⟩)) (And.intro rfl ?_))))))))
 refine zZ ?_ (λJ J=>rfl)
 show wpC _ A.in1 (do checkBuiltinCall "type.__call__" ⟨.ref C::rest,[]⟩;again (.builtin "type.__call__" ⟨.ref C::rest,[]⟩)) _ _ _
 refine zM (check_slot tc_kind tc_split typ (tc_args _ _ _) (zD (And.intro (Code.quiet_builtin _ (by decide+kernel)) ?_)))
 refine Di (DJ _ _) entry_typeCall ?_
 refine AJ (pI (C:=C) (rest:=rest)) λX1 F a1 X2 X3 a2 a3=> ?_
 have hm:Looks (model prog w) h (mroOf (.ref C)) cd.mro:=((Looks.ld (part:=none) hC).andThen .now).andThen .now
 refine cI a1 (zM (hm.at (cI (if_neg (λq=>Bool.noConfusion (e4.symm.trans q))) (zM (made.at (cI (a2 _) (zM (wpAny_holding (wpAny_call (new_K (R:=λr s'=>match r with| .ok (.ret v)=>v= .ref (h.objs.size+1)/\s'=⟨(h.push emptyDict).push (instObj C h.objs.size),g,d,t,os⟩|_=>False) jY' hi (.inl hne) ⟨rfl,rfl⟩|>λz=>codeAny_mono z λr s' hr=> ?_))))))))))
 rcases r with e|(v|_|_|_)<;>first|exact hr.elim|skip
 refine xA hr λe_0 e_1=> ?_
 subst e_0
 subst e_1
 have k:∀b o,h.get? b=some o->((h.push emptyDict).push (instObj C h.objs.size)).get? b=some o:=λb o e=>Heap.get?_push_of_some _ (Heap.get?_push_of_some _ e)
 have hx:((h.push emptyDict).push (instObj C h.objs.size)).get? (h.objs.size+1)=some (instObj C h.objs.size):=by heap_get
 have t1:Looks (model prog w) ((h.push emptyDict).push (instObj C h.objs.size)) (typeOf (.ref (h.objs.size+1))) (.ref C):=(Looks.ld hx).andThen .now
 have s1:=self.keeps k
 have i1:=hi.keeps k
 have b1:=(hb (.ref (h.objs.size+1))).keeps k
 unfold isInstance callSpecial? specialOf
 refine zM (wpAny_bind (t1.at (s1.at (zA (zF (zM (wpAny_bind (t1.at (i1.at (zF (zM (b1.at (zA (vP (aB hq λr s' z=> ?_)))))))))))))))
 rcases r with e|(v|_|_|_)<;>first|exact z.elim|skip
 obtain⟨rfl,z⟩:=z
 exact zD (cI (a3 _) (zD z))
end
end
section
open PySem PySem.W PyProof.Rows
section
variable{C:Cx}{n:Nat}{env:PySem.Env}{N:z7}
abbrev SE1(C:Cx)(n:Nat)(env:PySem.Env)(N:z7)(e:Expr)(f:FnK):Prop:=SE C n env N (eval e env) f
abbrev ST1(C:Cx)(n:Nat)(env:PySem.Env)(N:z7)(e:Expr)(f:FnK):Prop:=ST C n env N (isTrue e env (eval e env)) f
theorem kO.cl{A:Around}{k:Nat}(O:kO n A)(h:k<=200):A.units+k<cLine:=by
 have:cLine=9900:=rfl
 have:=O.2.2.2
 omega
theorem Ip{l r:Expr}{op:Operator}{pos:Pos}{f g:FnK}(hl:SE1 C n env N l f)(hr:SE1 C n env N r g):
  SE1 C n env N (.BinOp l op r pos) (λY U K=>f Y U λx U=>g Y U (pE (tN op x) K)):=by
 intro A s Z U Y K Q E O R F h q
 rw[arm_eval_BinOp]
 exact zA (hl O R F h λx U1 s1 Z1 vx h S1 r1=>zA (zF (hr O S1.Q8 (F.Q5 S1) h λy U2 s2 Z2 vy h S2 r2=>j0 h λv U' h hk=>
  z6 (vR (zL (jD4 S2.Q8 (r1.keeps S2.ext S2.QH) r2 h (q.at hk (S1.trans S2))))))))
theorem H3{e:Expr}{pos:Pos}{f:FnK}(he:SE1 C n env N e f):SE1 C n env N (.UnaryOp .USub e pos) (λY U K=>f Y U (pE O2 K)):=by
 intro A s Z U Y K Q E O R F h q
 rw[arm_eval_UnaryOp]
 refine zA (he O R F h λx U1 s1 Z1 vx h S1 r1=>j0 h λv U' h hk=>zB h λi e h=> ?_)
 apply r1.Re e;intro t
 exact z6 (zF (zL (PyProof.Rows.neg_int (aft (q.at hk S1) h (jL S1.Q8) (.int _ _)))))
theorem Jr{e:Expr}{pos:Pos}{f:FnK}(he:SE1 C n env N e f):SE1 C n env N (.UnaryOp .Not e pos) (λY U K=>f Y U (LV K)):=by
 intro A s Z U Y K Q E O R F h q
 rw[arm_eval_UnaryOp]
 refine zA (he O R F h λx U1 s1 Z1 vx h S1 r1=>zQ h λb hb hk=>z6 (zF (zL ?_)))
 unfold unaryOp
 refine wpAny_holding ?_
 dsimp only
 rw[if_pos (by decide)]
 exact wpAny_bind (cU S1.Q8 r1 hb (wpAny_pure (q _ _ _ _ _ hk S1 (.bool _))))
theorem IA{e:Expr}{pos:Pos}{f:FnK}(he:ST1 C n env N e f):ST1 C n env N (.UnaryOp .Not e pos) (λY U K=>f Y U (LV K)):=by
 intro A s Z U Y K Q E O R F h q
 rw[arm_isTrue_UnaryOp]
 exact zA (he O R F h λv U1 s1 Z1 hk S1=>zQ hk λb hb hk=>⟨b,hb,zD (q.have hk S1 rfl)⟩)
theorem Il{e:Expr}{f:FnK}(he:SE1 C n env N e f)(h:isTrue e env (eval e env)=(do let v<-eval e env;standAt e.pos;holding [v] (truthy v))):ST1 C n env N e f:=by
 intro A s Z U Y K Q E O R F h' q
 rw[h]
 exact zA (he O R F h' λv U1 s1 Z1 vx hk S1 r1=>(q _ _ _ _ hk S1).elim λb z=>z6 (zF (zL (cU S1.Q8 r1 z.1 z.2))))
theorem Lu{c a b:Expr}{pos:Pos}{fc fa fb:FnK}(hc:ST1 C n env N c fc)(ha:SE1 C n env N a fa)(hb:SE1 C n env N b fb):
  SE1 C n env N (.IfExp c a b pos) (λY U K=>fc Y U (Kq (fa Y) (fb Y) K)):=by
 intro A s Z U Y K Q E O R F h q
 rw[arm_eval_IfExp]
 refine zA (hc O R F h λv U1 s1 Z1 h S1=>zQ h λt ht h=>⟨t,ht,?_⟩)
 cases t with
 |true=>exact ha O S1.Q8 (F.Q5 S1) h (q.go S1)
 |false=>exact hb O S1.Q8 (F.Q5 S1) h (q.go S1)
theorem Mk{c a b:Expr}{pos:Pos}{fc fa fb:FnK}(hc:ST1 C n env N c fc)(ha:ST1 C n env N a fa)(hb:ST1 C n env N b fb):
  ST1 C n env N (.IfExp c a b pos) (λY U K=>fc Y U (Kq (fa Y) (fb Y) K)):=by
 intro A s Z U Y K Q E O R F h q
 rw[arm_isTrue_IfExp]
 refine zA (hc O R F h λv U1 s1 Z1 h S1=>zQ h λt ht h=>⟨t,ht,?_⟩)
 cases t with
 |true=>exact ha O S1.Q8 (F.Q5 S1) h (q.go S1)
 |false=>exact hb O S1.Q8 (F.Q5 S1) h (q.go S1)
theorem bF{e:Expr}{a:Str}{whole:Sem Value}(h:uH e=true):attributeBase e a env whole=whole:=by
 cases e with
 |Call f as kws p=>cases f<;>first|rfl|(cases as<;>first|rfl|(cases kws<;>first|rfl|exact jG h))
 |_=>rfl
theorem FQ(X:y9 C){e:Expr}{a:Str}{i:Nat}{pos:Pos}{f:FnK}(hb:uH e=true)(hi:C.T.j[i]?=some a)(he:SE1 C n env N e f):
  SE1 C n env N (.Attribute e a pos) (λY U K=>f Y U (Io i K)):=by
 intro A s Z U Y K Q E O R F h q
 rw[arm_eval_Attribute,bF hb]
 exact zA (he O R F h λx U1 s1 Z1 vx h S1 r1=>zQ h λr hr hk=>z6 (zA (zF (zL (rK X S1.Q8 r1 hi hr λs2 Z2 y S2 r2=>
  zM (wpAny_letTemporaryGo (zD (q _ _ _ _ _ hk (S1.trans S2) r2))))))))
theorem IC(X:y9 C){e i:Expr}{pos:Pos}{f g:FnK}(hs:∀o x,subscripted i false o x=operate [o,x] (PySem.getItem o x))(he:SE1 C n env N e f)(hi:SE1 C n env N i g):
  SE1 C n env N (.Subscript e i pos) (λY U K=>f Y U λa U=>g Y U (Ik a K)):=by
 intro A s Z U Y K Q E O R F h q
 rw[arm_eval_Subscript]
 refine zA (he O R F h λx U1 s1 Z1 vx h S1 r1=>zA (zF (hi O S1.Q8 (F.Q5 S1) h λy U2 s2 Z2 vy h S2 r2=>zQ h λr hr hk=>z6 (zL ?_))))
 obtain⟨⟨T,id,hT,hl⟩,hg⟩:=s7 (E:=E) (A:=A) X S2.Q8 (r1.keeps S2.ext S2.QH) r2 (O.cl (by decide)) hr (q.at hk (S1.trans S2))
 exact tail_any hT hl hg (hs _ _)
theorem H0{e:Expr}{lo hi:Option Expr}{p pos:Pos}{f g k:FnK}(he:SE1 C n env N e f)(hl:SE C n env N (valueOrNone (evalOpt lo env)) g)(hh:SE C n env N (valueOrNone (evalOpt hi env)) k):
  SE1 C n env N (.Subscript e (.Slice lo hi none p) pos) (λY U K=>f Y U λa U=>g Y U λp U=>k Y U (pE (cN a p) K)):=by
 intro A s Z U Y K Q E O R F h q
 rw[arm_eval_Subscript]
 refine zA (he O R F h λx U1 s1 Z1 vx h S1 r1=> ?_)
 rw[arm_eval_Slice]
 refine zA (zF (zA (hl O S1.Q8 (F.Q5 S1) h λy U2 s2 Z2 vy h S2 r2=> ?_)))
 refine zA (zF (hh O S2.Q8 (F.Q5 (S1.trans S2)) h λz U3 s3 Z3 vz h S3 r3=>j0 h λv U' h hk=> ?_))
 refine zA (zF (zD ?_))
 refine zL (wpAny_newObj_type (T:="slice") ?_)
 have S4:zV C Nil Z3 U3 s3 Z3 U3 {s3 with heap:=s3.heap.push {cls:= .type "slice",data:= .fields #[vy,vz,.none]}}:=q4 (t:=s3.toks) _ S3.Q8
 refine z6 (zL ?_)
 obtain⟨⟨T,id,hT,hl'⟩,hg⟩:=DF (E:=E) (A:=A) (sl:=s3.heap.objs.size) S4.Q8 (((r1.keeps S2.ext S2.QH).keeps S3.ext S3.QH).keeps S4.ext S4.QH) ((r2.keeps S3.ext S3.QH).keeps S4.ext S4.QH) (r3.keeps S4.ext S4.QH) (Heap.IsSliceOf.new _ _ _ _) h
  (q.at hk (((S1.trans S2).trans S3).trans S4))
 exact tail_any hT hl' hg rfl
end
abbrev Two{α β:Type}(P:α->β->Prop):List α->List β->Prop:=Al2 P
section
variable{C:Cx}{n:Nat}{env:PySem.Env}{N:z7}
abbrev FF:=IR->FnK
noncomputable def uC(e:Expr):Bool:= !Nat.beq e.ctorIdx 22
theorem u6{e:Expr}{r:List Expr}(h:uC e=true):starEach (e::r) env=(false,eval e env)::starEach r env:=by
 cases e<;>first|rfl|exact jG h
theorem fF{pos:Pos}{es:List Expr}(h:es.all uC=true):(backTo pos (starEach es env)).all (λx=> !x.1)=true:=by
 induction es with
 |nil=>rfl
 |cons e r ih=>
  have h:=alA h
  rw[u6 h.1]
  exact ih h.2
theorem ses{pos:Pos}{F:FF}{es:List Expr}{irs:List IR}(h:Two (λe ir=>uC e=true/\SE1 C n env N e (F ir)) es irs):
  SEs C n env N (spliced (backTo pos (starEach es env))) (λY U=>evs (λir U=>F ir Y U) irs U):=by
 induction h with
 |nil=>
  intro A s Z U Y K Q E O R Fr h q
  exact uK (q _ _ _ _ _ h (zV.refl R) .nil)
 |cons he hr ih=>
  intro A s Z U Y K Q E O R Fr h q
  rw[u6 he.1]
  exact vQ (he.2 O R Fr h λx U1 s1 Z1 vx h S1 r1=>ih O S1.Q8 (Fr.Q5 S1) h λxs U2 s2 Z2 vys hk S2 r2=>
   q _ _ _ _ _ hk (S1.trans S2) (.cons (r1.keeps S2.ext S2.QH) r2))
theorem IO{es:List Expr}{k:Nat}{pos:Pos}{F:FF}{irs:List IR}(h:Two (λe ir=>uC e=true/\SE1 C n env N e (F ir)) es irs):
  SE1 C n env N (.Tuple es k pos) (λY U K=>evs (λir U=>F ir Y U) irs U (pE Ij K)):=by
 intro A s Z U Y K Q E O R Fr h' q
 rw[arm_eval_Tuple]
 exact z6 (zA (ses h O R Fr h' λxs U1 s1 Z1 ys h' S1 r1=>j0 h' λv U' h' hk=>jX h' λhz h'=>zL (l7 S1.Q8 r1 hz λs2 Z2 y S2 r2=>aft (q.at hk S1) h' S2 r2)))
theorem Jz{es:List Expr}{pos:Pos}{F:FF}{irs:List IR}(h:Two (λe ir=>uC e=true/\SE1 C n env N e (F ir)) es irs):
  SE1 C n env N (.List es pos) (λY U K=>evs (λir U=>F ir Y U) irs U (pE eK K)):=by
 intro A s Z U Y K Q E O R Fr h' q
 rw[arm_eval_List]
 exact z6 (zA (ses h O R Fr h' λxs U1 s1 Z1 ys h' S1 r1=>j0 h' λv U' h' hk=>jX h' λhz h'=>zL (sD S1.Q8 r1 hz λs2 Z2 y S2 r2=>aft (q.at hk S1) h' S2 r2)))
theorem FT{op:BoolOp}{pos:Pos}{F:FF}{es:List Expr}{irs:List IR}(h:Two (λe ir=>SE1 C n env N e (F ir)) es irs):
  SE C n env N (boolOp pos op (evalEach es env)) (λY U=>evb (λir U=>F ir Y U) op irs U):=by
 induction h with
 |nil=>intro A s Z U Y K Q E O R Fr h q;exact h.elim
 |cons he hr ih=>
  intro A s Z U Y K Q E O R Fr h q
  cases hr with
  |nil=>exact he O R Fr h q
  |cons he2 hr2=>
   refine zA (he O R Fr h λx U1 s1 Z1 vx h S1 r1=>zQ h λb hb h=>z6 (zA (zF (zL (cU S1.Q8 r1 hb ?_)))))
   have stop:K x U1->wpC (Mo C) A (pure vx) Q E s1:=λh=>zD (q _ _ _ _ _ h S1 r1)
   have go:=λh=>ih O (E:=E) S1.Q8 (Fr.Q5 S1) h (q.go S1)
   cases op<;>cases b<;>first|exact go h|exact stop h
theorem EP{op:BoolOp}{F:FF}{es:List Expr}{irs:List IR}(h:Two (λe ir=>ST1 C n env N e (F ir)) es irs):
  ST C n env N (allTrue op es env) (λY U=>evb (λir U=>F ir Y U) op irs U):=by
 induction h with
 |nil=>intro A s Z U Y K Q E O R Fr h q;exact h.elim
 |cons he hr ih=>
  intro A s Z U Y K Q E O R Fr h q
  rw[arm_allTrue_cons]
  cases hr with
  |nil=>exact zA (he O R Fr h λv U1 s1 Z1 h S1=>(q _ _ _ _ h S1).imp λb z=>⟨z.1,by cases op<;>cases b<;>exact zD z.2⟩)
  |cons he2 hr2=>
   refine zA (he O R Fr h λv U1 s1 Z1 h S1=>zQ h λb hb h=>⟨b,hb,?_⟩)
   have stop:K v U1->wpC (Mo C) A (pure b) Q E s1:=λh=>zD (q.have h S1 hb)
   have go:=λh=>ih O (E:=E) S1.Q8 (Fr.Q5 S1) h (q.go S1)
   cases op<;>cases b<;>first|exact go h|exact stop h
def SCe(C:Cx)(n:Nat)(env:PySem.Env)(N:z7)(t:Value->Sem Value)(u:Value->Sem Bool)(f:V->FnK):Prop:=
 ∀{A:Around} {s:Shared} {Z:Emb} {U:St} {Y:Env} {a:V} {x:Value} {K:V->St->Prop} {E:Value->Shared->Prop},kO n A->Rel C Z U s.heap->FrI C Z U s.heap env N Y->zS C Z s.heap a x->f a Y U K->
  (∀{Q:Value->Shared->Prop},Fn C Z U s K Q->wpC (Mo C) A (t x) Q E s)/\∀{Q:Bool->Shared->Prop},FC C Z U s K Q->wpC (Mo C) A (u x) Q E s
theorem EB(X:y9 C){pos:Pos}{F:FF}{es:List Expr}{irs:List IR}(h:Two (λe ir=>SE1 C n env N e (F ir)) es irs):
  ∀{ops:List CmpOp},ops.length=es.length->SCe C n env N (λx=>compareChain pos x ops (evalEach es env)) (λx=>testChain pos x ops (evalEach es env)) (λa Y U=>evc (λir U=>F ir Y U) irs ops a U):=by
 induction h with
 |nil=>
  intro ops hl A s Z U Y a x K E O R Fr ra h
  exact h.elim
 |cons he hr ih=>
  intro ops hl A s Z U Y a x K E O R Fr ra h
  cases ops with
  |nil=>exact h.elim
  |cons op ops=>
   have Q4:∀{s1 Z1 U1 vy y r} {Q:Value->Shared->Prop} {E:Value->Shared->Prop},zV C Nil Z U s Z1 U1 s1->zS C Z1 s1.heap y vy->cG op a y U1=some r->(∀t,Q (.bool r) {s1 with toks:=t})->wpAny (Mo C) A (compareOp op x vy) Q E s1:=λS1 r1 hr' q=>
    Hu X S1.Q8 (ra.keeps S1.ext S1.QH) r1 (O.cl (by decide)) hr' q
   cases hr with
   |nil=>
    cases ops with
    |cons _ _=>exact nomatch hl
    |nil=>
     refine⟨λ{Q} q=> ?_,λ{Q} q=> ?_⟩
     ·exact zA (zF (he O R Fr h λy U1 s1 Z1 vy h S1 r1=>zQ h λr hr' h=>z6 (vR (zL (Q4 S1 r1 hr' λt=>q _ _ _ _ _ h (S1.trans (jL S1.Q8)) (.bool _))))))
     ·exact zA (zF (he O R Fr h λy U1 s1 Z1 vy h S1 r1=>zQ h λr hr' h=>z6 (zA (vR (zL (Q4 S1 r1 hr' λt=>
       zF (zL (wpAny_truthy_bool (q.have h (S1.trans (jL S1.Q8)) rfl)))))))))
   |cons he2 hr2=>
    cases ops with
    |nil=>exact nomatch hl
    |cons op2 ops=>
     have hl':=Nat.succ.inj hl
     refine⟨λ{Q} q=> ?_,λ{Q} q=> ?_⟩
     ·refine zA (zF (he O R Fr h λy U1 s1 Z1 vy h S1 r1=>zQ h λr hr' h=>z6 (zA (zF (zL (Q4 S1 r1 hr' λt=>zM (wpAny_release' (zM (wpAny_holding (wpAny_truthy_bool ?_))))))))))
      have S2:=S1.trans (jL (X:=Nil) (t:=t) S1.Q8)
      cases r with
      |false=>exact zD (q _ _ _ _ _ h S2 (.bool _))
      |true=>exact(ih hl' O S2.Q8 (Fr.Q5 S2) (r1.keeps (λJ J e=>e) (Imm.refl _)) h).1 (q.go S2)
     ·refine zA (zF (he O R Fr h λy U1 s1 Z1 vy h S1 r1=>zQ h λr hr' h=>z6 (zA (zF (zL (Q4 S1 r1 hr' λt=>zM (wpAny_release' (zM (wpAny_holding (wpAny_truthy_bool ?_))))))))))
      have S2:=S1.trans (jL (X:=Nil) (t:=t) S1.Q8)
      cases r with
      |false=>exact zD (q.have h S2 rfl)
      |true=>exact(ih hl' O S2.Q8 (Fr.Q5 S2) (r1.keeps (λJ J e=>e) (Imm.refl _)) h).2 (q.go S2)
end
section
variable{C:Cx}{n:Nat}{env:PySem.Env}{N:z7}
theorem gN{op:CmpOp}{e:Expr}(h:qV e=true):behindInMarks op e=false:=by
 cases e<;>first|rfl|exact jG h
theorem eU{es:List Expr}:∀{ops:List CmpOp},es.all qV=true->lastMarks ops es=false:=by
 induction es with
 |nil=>intro ops _;rcases ops with _|⟨_,_|_⟩<;>rfl
 |cons e r ih=>
  intro ops h
  have h:=alA h
  have k:=λops=>ih (ops:=ops) h.2
  cases ops with
  |nil=>cases r<;>rfl
  |cons op ops=>cases r<;>cases ops<;>first|exact gN h.1|exact k _
theorem HZ(X:y9 C){pos:Pos}{F:FF}{a:Expr}{ops:List CmpOp}{es:List Expr}{irs:List IR}{f:FnK}(hs:es.all qV=true)(hl:ops.length=es.length)(ha:SE1 C n env N a f)(h:Two (λe ir=>SE1 C n env N e (F ir)) es irs):
  SE1 C n env N (.Compare a ops es pos) (λY U K=>f Y U (Jy (evc (λir U=>F ir Y U) irs ops) K)):=by
 intro A s Z U Y K Q E O R Fr h' q
 rw[arm_eval_Compare,PyProof.Rows.markedEach_of_false _ _ _ (eU hs)]
 exact zA (ha O R Fr h' λx U1 s1 Z1 vx h' S1 r1=>(EB X h hl O S1.Q8 (Fr.Q5 S1) r1 h').1 (q.go S1))
theorem Km(X:y9 C){pos:Pos}{F:FF}{a:Expr}{ops:List CmpOp}{es:List Expr}{irs:List IR}{f:FnK}(hs:es.all qV=true)(hl:ops.length=es.length)(ha:SE1 C n env N a f)(h:Two (λe ir=>SE1 C n env N e (F ir)) es irs):
  ST1 C n env N (.Compare a ops es pos) (λY U K=>f Y U (Jy (evc (λir U=>F ir Y U) irs ops) K)):=by
 intro A s Z U Y K Q E O R Fr h' q
 rw[arm_isTrue_Compare,PyProof.Rows.markedEach_of_false _ _ _ (eU hs)]
 exact zA (ha O R Fr h' λx U1 s1 Z1 vx h' S1 r1=>(EB X h hl O S1.Q8 (Fr.Q5 S1) r1 h').2 (q.go S1))
noncomputable def Ca(e:Expr):Bool:= !Nat.beq e.ctorIdx 20
theorem wZ{f:Expr}{as:List Expr}{ks:List Keyword}{pos:Pos}(h:Ca f=true):eval (.Call f as ks pos) env=(do
  callWith pos (<-eval f env) [] (backTo pos (starEach as env)) (backToKw pos (keywordEach ks env))):=by
 cases f<;>first|rfl|exact jG h
theorem cR{P:Expr->IR->Prop}{es:List Expr}{irs:List IR}(h:Two (λe ir=>uC e=true/\P e ir) es irs):es.all uC=true:=List.all_eq_true.mpr λJ he=>(h.mem he).elim λJ q=>q.2.1
theorem GU(X:y9 C){Φ:Orc}(HF:SF C n Φ){f:Expr}{as:List Expr}{pos:Pos}{F:FF}{g:FnK}{irs:List IR}(hp:Ca f=true)(hf:SE1 C n env N f g)(h:Two (λe ir=>uC e=true/\SE1 C n env N e (F ir)) as irs):
  SE1 C n env N (.Call f as [] pos) (λY U K=>g Y U (Jx (λir U=>F ir Y U) Φ irs K)):=by
 intro A s Z U Y K Q E O R Fr h' q
 rw[wZ hp]
 refine zA (hf O R Fr h' λx U1 s1 Z1 vx h' S1 r1=>u0 (fF (cR h)) (ses h O S1.Q8 (Fr.Q5 S1) h' λxs U2 s2 Z2 ys h' S2 r2=> ?_))
 have S:=S1.trans S2
 have r1':=r1.keeps S2.ext S2.QH
 have h': @Option.rec Nat (λJ=>Prop) (E7 (iQ x xs U2) K) (λa=>Φ a xs U2 K) x.Rx:=h'
 cases hob:x.Rx with
 |some a=>
  rw[hob] at h'
  obtain⟨⟨o,e⟩,ex⟩:=(n7 hob▸r1':zS C Z2 s2.heap (.obj a) vx).Rq
  rw[ex]
  refine xA (HF (R:=λr s'=>match r with| .ok (.ret v)=>Q v s'| .ok _=>False| .error e=>E e s') O S2.Q8 r2 h' (q.go S)) λhk hc=> ?_
  refine xEA (looks_keep (M:=Mo C) hk (X.KX.keeps λb o e=>S.Q8.keep b o e)) λk hkk L=> ?_
  exact⟨k,hkk,λA' Q' hq=>L.here hq,vP hc⟩
 |none=>
  rw[hob] at h'
  refine j0 h' λv U' h' hk=> ?_
  refine xA (De (E:=E) X O.1 (O.cl (k:=150) (by decide)) S2.Q8 r1' r2 h' (q.at hk S)) λh3 h4=> ?_
  exact⟨.machine,.inr rfl,λA' Q' hq=>wpAny_of_eq h3 hq,h4⟩
theorem Gp(X:y9 C){W:jY}{o:Expr}{name:Str}{apos pos:Pos}{as:List Expr}{m:Nat}{F:FF}{g:FnK}{irs:List IR}(hb:uH o=true)(hl:(apos.endLine==pos.line)=true)(hn:C.T.j[m]?=some name)
  (wA:C.T.j[W.QU]?=some "append")(wG:C.T.j[W.QS]?=some "get")(hne:W.QU≠W.QS)(h20:as.length<20)
  (ho:SE1 C n env N o g)(h:Two (λe ir=>uC e=true/\SE1 C n env N e (F ir)) as irs):
  SE1 C n env N (.Call (.Attribute o name apos) as [] pos) (λY U K=>g Y U (Id (λir U=>F ir Y U) W m irs K)):=by
 intro A s Z U Y K Q E O R Fr h' q
 rw[arm_eval_Call,bF hb]
 refine zA (ho O R Fr h' λx U1 s1 Z1 vx h' S1 r1=>zQ h' λJ h3 h'=>z6 ?_)
 have hform:methodCallForm (as.length+([]:List Keyword).length) (backTo pos (starEach as env)) (backToKw pos (keywordEach [] env))=true:=by
  unfold methodCallForm
  rw[fF (cR h)]
  exact alG (Nat.lt_trans h20 (by decide))
 unfold methodCall
 rw[hform]
 have hpos:methodCallPos true o env apos pos=pure pos:=by unfold methodCallPos;simp[hl]
 rw[hpos]
 refine zA (zF (zL (Aj S1.Q8 r1 h3 wA wG hn λid hkeep hid=> ?_)))
 refine zA (zD ?_)
 refine u0 (fF (cR h)) (ses h O S1.Q8 (Fr.Q5 S1) h' λxs U2 s2 Z2 ys h' S2 r2=>j0 h' λv U' h' hk=> ?_)
 exact⟨.machine,.inr rfl,λA' Q' hq=>wpAny_of_eq hkeep hq,zL (C5 X (O.cl (k:=150) (by decide)) S2.Q8 (r1.keeps S2.ext S2.QH) r2 hne hid h' (q.at hk (S1.trans S2)))⟩
end
section
variable{C:Cx}{n:Nat}{env:PySem.Env}{N:z7}
noncomputable abbrev Ke{α:Type}(l:List (α×α)):List α:=l.flatMap λp=>[p.1,p.2]
abbrev Prs(C:Cx)(Z:Emb)(h:Heap):List (V×V)->List (Value×Value)->Prop:=Two λp y=>zS C Z h p.1 y.1/\zS C Z h p.2 y.2
theorem Prs.keeps{Z Z':Emb}{h h':Heap}(hi:∀l p,Z l=some p->Z' l=some p)(hm:Imm h h'){ps ys}(r:Prs C Z h ps ys):Prs C Z' h' ps ys:=
 Al2.map r λJ J a=>⟨a.1.keeps hi hm,a.2.keeps hi hm⟩
theorem Jb{Z:Emb}{h:Heap}{ys:List (Value×Value)}:∀{us:List V} {ps:List (V×V)},Fa us=some ps->zW C Z h us (Ke ys)->Prs C Z h ps ys:=by
 induction ys with
 |nil=>intro us ps hp hr;cases hr with|nil=>exact alS hp▸ .nil
 |cons y ys ih=>
  intro us ps hp hr
  cases hr with|cons r1 hr=>cases hr with|cons r2 hr=>
  refine xEA (alD hp) λps' h1 e=> ?_
  exact e▸ .cons ⟨r1,r2⟩ (ih h1 hr)
theorem Dr{pos:Pos}{F:FF}{ks:List (Option Expr)}{a:List IR}(hk:Two (λo ir=>∃e,o=some e/\SE1 C n env N e (F ir)) ks a):
  ∀{vs:List Expr} {b:List IR},Two (λe ir=>SE1 C n env N e (F ir)) vs b->ks.length=vs.length->∀{A:Around} {s:Shared} {Z:Emb} {U:St} {Y:Env} {K:List V->St->Prop} {Q:List (Value×Value)->Shared->Prop} {E:Value->Shared->Prop},
   kO n A->Rel C Z U s.heap->FrI C Z U s.heap env N Y->evs (λir U=>F ir Y U) ((a.zip b).flatMap λp=>[p.1,p.2]) U K->
   (∀us U' s' Z' ys,K us U'->zV C Nil Z U s Z' U' s'->zW C Z' s'.heap us (Ke ys)->ys.length=ks.length->Q ys s')->wpC (Mo C) A (evalPairs (pairTrees ks vs env pos)) Q E s:=by
 induction hk with
 |nil=>
  intro vs b hv hl A s Z U Y K Q E O R Fr h q
  cases hv with
  |nil=>exact zD (q _ _ _ _ [] h (zV.refl R) .nil rfl)
  |cons _ _=>exact nomatch hl
 |cons hk1 hk ih=>
  intro vs b hv hl A s Z U Y K Q E O R Fr h q
  cases hv with
  |nil=>exact nomatch hl
  |cons hv1 hv=>
   refine xEA hk1 λe eo he=> ?_
   subst eo
   exact zA (he O R Fr h λx U1 s1 Z1 vx h S1 r1=>zA (zF (zA (hv1 O S1.Q8 (Fr.Q5 S1) h λy U2 s2 Z2 vy h S2 r2=>z6 (zD
    (zA (zF (ih hv (Nat.succ.inj hl) O S2.Q8 (Fr.Q5 (S1.trans S2)) h λus U3 s3 Z3 ys hk S3 r3 hl=>zD
     (q _ _ _ _ ((vx,vy)::ys) hk ((S1.trans S2).trans S3) (.cons (r1.keeps (S2.trans S3).ext (S2.trans S3).QH) (.cons (r2.keeps S3.ext S3.QH) r3)) (alQ Nat.succ hl))))))))))
theorem l8(X:y9 C){kn:Nat}{d:Addr}{A:Around}{E:Value->Shared->Prop}{Z:Emb}{U:St}(hu:A.units+110<cLine)(hi:Z U.fr=some (d,d)){ys:List (Value×Value)}:∀{ps:List (V×V)} {es:List (V×V)} {s:Shared} {Q:PUnit->Shared->Prop},
  Prs C Z s.heap ps ys->(∀p∈ps,jR p.1=kn/\yZ p.1=true)->(∀e∈es,jR e.1=kn)->es.length+ps.length<=1000->Rel C Z (U.new (.dict es)) s.heap->
  (∀s',zV C Nil Z (U.new (.dict es)) s Z (U.new (.dict (mM es ps))) s'->Q ⟨⟩ s')->wpAny (Mo C) A (storeAll d ys) Q E s:=by
 induction ys with
 |nil=>
  intro ps es s Q hp hk he hl R q
  cases hp
  exact wpAny_pure (q _ (zV.refl R))
 |cons y ys ih=>
  intro ps es s Q hp hk he hl R q
  cases hp with| @cons p _ ps _ r1 hp=>
  have hk1:=hk p (.head _)
  rw[List.length_cons] at hl
  unfold storeAll
  rw[List.forIn_cons]
  refine wpAny_bind (wpAny_bind (eN (l:=U.fr) X.j R zJ hi (u1 he hk1.1 hk1.2) (by omega) r1.1 r1.2 hu λs1 S1=> ?_))
  rw[St.new_upd] at S1
  refine wpAny_pure (ih (es:=uG es p.1 p.2) (Prs.keeps S1.ext S1.QH hp) (λp hp=>hk p (.tail _ hp)) (cY he hk1.1) ?_ S1.Q8 λs2 S2=>q s2 (S1.trans S2))
  exact alJ (Nat.add_le_add_right fX _) (by omega)
theorem eF{ps:List (V×V)}(hk:jD ps=true):∃n,∀p∈ps,jR p.1=n/\yZ p.1=true:=by
 cases ps with
 |nil=>exact⟨0,λJ q=>nomatch q⟩
 |cons a r=>exact⟨jR a.1,λp hp=>(c5 hk p hp).symm⟩
theorem b6:dictDisplay []=newDict:=by
 unfold dictDisplay
 dsimp only
 rw[List.forIn_nil]
 rfl
theorem CD{P:Expr->IR->Prop}{ks:List (Option Expr)}{a:List IR}(hk:Two (λo ir=>∃e,o=some e/\P e ir) ks a):ks.all (·.isSome)=true:=List.all_eq_true.mpr λo ho=>by
 refine Mt (hk.mem ho) λJ J e eo J=> ?_
 rw[eo];rfl
theorem Fb(X:y9 C){pos:Pos}{F:FF}{ks:List (Option Expr)}{vs:List Expr}{a b:List IR}(hk:Two (λo ir=>∃e,o=some e/\SE1 C n env N e (F ir)) ks a)(hv:Two (λe ir=>SE1 C n env N e (F ir)) vs b)(hl:ks.length=vs.length)(h15:ks.length<=15):
  SE1 C n env N (.Dict ks vs pos) (λY U K=>evs (λir U=>F ir Y U) ((a.zip b).flatMap λp=>[p.1,p.2]) U (Pf K)):=by
 intro A s Z U Y K Q E O R Fr h q
 have hall:ks.all (·.isSome)=true:=CD hk
 have hpl:=pairTrees_length ks vs env pos hall hl
 rw[arm_eval_Dict,zip_pairTrees ks vs env pos hall hl]
 refine z6 ?_
 cases ks with
 |nil=>
  cases hk
  cases vs with
  |cons _ _=>exact nomatch hl
  |nil=>
   cases hv
   show wpC _ _ (dictDisplay []) _ _ _
   rw[b6]
   unfold newDict
   have h:E7 (DV [] U) K:=h
   exact j0 h λv U' h hk=>zK h λhsk h=>zL (wpAny_bind (wpAny_alloc (wpAny_pure (aft (q.at hk (zV.refl R)) h (zV.new R (λJ J e=>Heap.get?_push_of_some _ e) (by rw[Heap.size_push];exact Nat.le_succ _) (Nat.le_refl _) (Nat.le_refl _) (λJ J=>⟨rfl,[],0,Heap.get?_push_size _ rfl,.nil,List.nodup_nil⟩) rfl rfl) (.c yG)))))
 |cons k0 ks=>
  have hp0:pairTrees (k0::ks) vs env pos≠[]:=λhe=>by rw[he] at hpl;exact nomatch hpl
  rw[dictDisplay_pairs _ hp0 (by rw[hpl];omega)]
  refine zA ?_
  unfold subDict
  refine zM (wpAny_alloc (zA (zF ?_)))
  rw[if_pos (by rw[hpl];exact h15)]
  have S1:zV C Nil Z U s Z U {s with heap:=s.heap.push {cls:= .type "dict",data:= .dict #[]}}:=q4 (t:=s.toks) _ R
  refine zA (Dr hk hv hl O S1.Q8 (Fr.Q5 S1) h λus U1 s2 Z2 ys h S2 r2 hyl=>zQ h λps h2 h=>j0 h λv U' h hk=>zK h λhsk h=> ?_)
  refine xE (eF hsk) λkn hkn=> ?_
  have hno0:¬own Z U s.heap.objs.size:=R.QX (Nat.le_refl _)
  have hget:=S2.keep s.heap.objs.size _ (Heap.get?_push_size _ rfl) hno0 (λf=>f)
  have hno:¬own Z2 U1 s.heap.objs.size:=λo=>(S2.QY _ o).elim hno0 λo=>absurd o (Nat.not_le.mpr (by show s.heap.objs.size<(s.heap.push _).objs.size;rw[Heap.size_push];exact Nat.lt_succ_self _))
  have S3:=(S1.trans S2).adopt (o:= .dict []) (Nat.le_refl _) (Nat.le_refl _) R.size R.size hno hno λJ=>⟨rfl,[],0,hget,.nil,List.nodup_nil⟩
  have hps:=Jb h2 r2
  refine zF (zA (zL ?_))
  refine l8 X (es:=[]) (Z:=Z2.Rb U1.fr (s.heap.objs.size,s.heap.objs.size)) (U:=U1) (O.cl (k:=110) (by decide)) yG (Prs.keeps (λl p e=>(w8 λq=>nn e (q▸S2.Q8.fresh _ (Nat.le_refl _))).trans e) (Imm.refl _) hps) hkn (λe q=>nomatch q) (by rw[Al2.length hps,hyl,List.length_nil,Nat.zero_add];exact alJ h15 (by decide)) S3.Q8 λs4 S4=> ?_
  exact zD (zD (zD (aft (q.at hk S3) h S4 (.c yG))))
end
section
variable{C:Cx}{A:Around}{s:Shared}{Z:Emb}{U:St}{env:PySem.Env}{N:z7}{gl:List Str}{Y:Env}{E:Value->Shared->Prop}
theorem wX{x:Str}{i:Nat}{v:V}{y:Value}{Q:Unit->Shared->Prop}(O:jP env N gl)(R:Rel C Z U s.heap)(F:FrI C Z U s.heap env N Y)(hx:(x,.local,i)∈N)(hv:zS C Z s.heap v y)
  (h:∀s',zV C (λa=>a=env.locals) Z U s Z U s'->FrI C Z U s'.heap env N (Y.set i (some v))->Q () s'):wpAny (model C.prog C.w) A (storeName env x y) Q E s:=q7 O R F hx hv λs' S F' J=>h s' S F'
theorem wO{x:Str}{y:Value}{Q:Unit->Shared->Prop}(h:wpAny (Mo C) A (storeName env x y) Q E s):wpAny (Mo C) A (bindName env x y) Q E s:=by
 unfold bindName
 exact wpAny_bind (wpAny_holding (wpAny_point (wpAny_bind (wpAny_mono h (λJ J q=>wpAny_point q) λJ J e=>e))))
theorem yS{x:Str}{pos:Pos}{y:Value}{Q:Unit->Shared->Prop}(h:wpAny (Mo C) A (storeName env x y) Q E s):wpAny (Mo C) A (assign (.Name x pos) env y) Q E s:=by
 rw[arm_assign_Name]
 exact wpAny_bind (wpAny_standAt (wO h))
theorem kJ{N:z7}{x:Str}{r:Str×NameKind×Nat}(h:N.find? (λy=>y.1==x)=some r):r∈N/\r.1=x:=
 ⟨List.mem_of_find?_eq_some h,eq_of_beq (List.find?_some (p:=λy:Str×NameKind×Nat=>y.1==x) h)⟩
theorem y7{e:Expr}{i:Nat}(h:b9 N e=some i):∃x pos,e= .Name x pos/\(x,.local,i)∈N:=
 zB h λx ex h=>zB h λr hr h=>zK h λhl h=>by
  refine xE (yM ex) λp e=> ?_
  refine xA (kJ hr) λh1 h2=> ?_
  exact⟨x,p,e,by rw[<-h2,<-hl,<-alS h];exact h1⟩
def rJ(C:Cx)(U:St)(env:PySem.Env)(N:z7)(X:Addr->Prop)(e:Expr)(i:Nat):Prop:=∃x pos,e= .Name x pos/\∀{A:Around} {Z:Emb} {Y:Env} {s:Shared} {v:V} {y:Value} {Q:Unit->Shared->Prop} {E:Value->Shared->Prop},Rel C Z U s.heap->FrI C Z U s.heap env N Y->zS C Z s.heap v y->
 (∀s',zV C X Z U s Z U s'->FrI C Z U s'.heap env N (Y.set i (some v))->Q () s')->wpAny (Mo C) A (storeName env x y) Q E s
theorem lQ{X:Addr->Prop}{es:List Expr}{tg:List Nat}(h:Two (rJ C U env N X) es tg):∀{vs:List V} {ys:List Value} {Y:Env} {s:Shared} {Q:Unit->Shared->Prop},tg.length=vs.length->
  Rel C Z U s.heap->FrI C Z U s.heap env N Y->zW C Z s.heap vs ys->
  (∀s',zV C X Z U s Z U s'->FrI C Z U s'.heap env N ((tg.zip vs).foldl (λY p=>Y.set p.1 (some p.2)) Y)->Q () s')->wpAny (Mo C) A (assignInOrder ((assignEach es env).map (·.2)) ys) Q E s:=by
 induction h with
 |nil=>intro vs ys Y s Q hl R F hv q;exact wpAny_pure (q _ (zV.refl R) F)
 |cons h1 h2 ih=>
  intro vs ys Y s Q hl R F hv q
  refine vE h1 λx pos e st=> ?_
  subst e
  cases hv with
  |nil=>exact nomatch hl
  | @cons v y vs ys r1 hv=>
   show wpAny _ _ (holding ys (assign (.Name x pos) env y)>>=_) _ _ _
   refine wpAny_bind (wpAny_holding (yS (st R F r1 λs1 S1 F1=> ?_)))
   exact ih (Nat.succ.inj hl) S1.Q8 F1 (hv.keeps S1.ext S1.QH) λs2 S2 F2=>q s2 (S1.trans S2) F2
theorem eT{X:Addr->Prop}{es:List Expr}{tg:List Nat}(h:Two (rJ C U env N X) es tg):(assignEach es env).length=tg.length/\(assignEach es env).findIdx? (·.1)=none:=by
 induction h with
 |nil=>exact⟨rfl,rfl⟩
 |cons h1 h2 ih=>
  refine vE h1 λx pos e J=> ?_
  subst e
  exact⟨alQ Nat.succ ih.1,by show List.findIdx? _ ((false,assign (.Name x pos) env)::assignEach _ env)=none;rw[List.findIdx?_cons,ih.2];rfl⟩
theorem AZ(O:jP env N gl){es:List Expr}{tg:List Nat}(h:es.mapM (b9 N)=some tg):Two (rJ C U env N λa=>a=env.locals) es tg:=(jF h).map λe i h=>by
 refine vE (y7 h) λx pos e hx=> ?_
 exact⟨x,pos,e,λR F r q=>wX O R F hx r q⟩
theorem mI{elts:List Expr}{x1}{pos:Pos}{t:Addr}{qM:Array Value}{Q:Unit->Shared->Prop}(hh:A.handled=none)(ht:IsTup s.heap t qM)
  (hn:(assignEach elts env).length=qM.size)(hstar:(assignEach elts env).findIdx? (·.1)=none)
  (h:∀h',Heap.ExtBut s.heap.objs.size s.heap h'->s.heap.objs.size<=h'.objs.size->wpAny (Mo C) A (assignInOrder ((assignEach elts env).map (·.2)) qM.toList) Q E {s with heap:=h'}):
  wpAny (Mo C) A (assign (.Tuple elts x1 pos) env (.ref t)) Q E s:=by
 rw[arm_assign_Tuple]
 refine wpAny_bind (wpAny_standAt ?_)
 unfold unpack
 rw[hn,hstar]
 exact wpAny_bind (wpAny_holding (aV (unpackItems_tuple hh ht λh' he hs=>h h' he hs)))
theorem iX{t:Expr}{tg:List Nat}{b:Bool}{v:V}{y:Value}{Y':Env}{Q:Unit->Shared->Prop}(O:jP env N gl)(hh:A.handled=none)(ht:vF N t=some (tg,b))(R:Rel C Z U s.heap)(F:FrI C Z U s.heap env N Y)(hv:zS C Z s.heap v y)
  (hb:aL tg b v Y=some Y')(q:∀s',zV C (λa=>a=env.locals) Z U s Z U s'->FrI C Z U s'.heap env N Y'->Q () s'):wpAny (Mo C) A (assign t env y) Q E s:=by
 unfold vF at ht
 cases et:gF t with
 |some es=>
  rw[et] at ht
  refine xEA (alD ht) λtg' h1 h2=> ?_
  cases h2
  refine zB hb λvs ev hb=>zK hb λhc hb=> ?_
  have al:=AZ (C:=C) (U:=U) O h1
  refine xA (eT al) λh3 h4=> ?_
  apply hv.getTup ev;intro a xs hT hr
  apply k9 et;intro k pos
  revert q;apply jT hb;intro q
  refine mI hh hT (h3.trans (hc.1.trans hr.length)) h4 λh' he hs=> ?_
  have S0:zV C Nil Z U s Z U {s with heap:=h'}:=zV.R9 R (λb o e=>he b o (Nat.ne_of_lt (Heap.lt_size e)) e) hs rfl rfl
  have S1:zV C (λa=>a=env.locals) Z U s Z U {s with heap:=h'}:=S0.Q7 λJ f=>f.elim
  exact lQ al hc.1 S1.Q8 (F.Q5 S0) (hr.keeps S1.ext S1.QH) λs2 S2 F2=>q s2 (S1.trans S2) F2
 |none=>
  rw[et] at ht
  refine xEA (alD ht) λi h1 h2=> ?_
  cases h2
  refine vE (y7 h1) λx pos e hx=> ?_
  subst e
  refine zK hb λJ hb=>yS (wX O R F hx hv ?_)
  exact alS hb▸q
end
theorem kT{U U1 U2:St}{lo:Option Loc}(h1:kN U U1 lo=true)(h2:kN U U2 lo=true):kN U1 U2 lo=true:=by
 cases lo with
 |none=>rfl
 |some x=>exact alG ((alH h2).trans (alH h1).symm)
theorem vI{U:St}{lo:Option Loc}:kN U U lo=true:=by
 cases lo with
 |none=>rfl
 |some x=>exact alG rfl
theorem uZ{v:V}{U U':St}{vs:List V}{lo:Option Loc}(h:qM v U=some (vs,lo))(hs:kN U U' lo=true):qM v U'=some (vs,lo):=by
 cases e:v.QD with
 |some x=>
  have e:=qG e
  subst e
  have el:lo=some x:=jM h (λJ J h=>(Prod.mk.inj (alS h)).2.symm) (λJ J h=>zG h) λJ J h=>(Prod.mk.inj (alS h)).2.symm
  subst el
  have g:U'.get x=U.get x:=alH hs
  show jV (U'.get x) _ _ _=_
  rw[g];exact h
 |none=>cases v<;>first|exact h|exact nomatch e
section
variable{C:Cx}{A:Around}{s:Shared}{Z:Emb}{U:St}{env:PySem.Env}{N:z7}{gl:List Str}{Y:Env}{E:Value->Shared->Prop}{n:Nat}
theorem Az{a:Addr}{x:Value}{ys:Array Value}{k:Nat}{Q:Value->Shared->Prop}(hob:s.heap.get? a=some (PySem.W.listOf ys k))(hz:ys.size<1000)
  (q:∀h' k',Heap.SameBut a s.heap h'->h'.get? a=some (PySem.W.listOf (ys.push x) k')->Q .none {s with heap:=h'}):wpAny (Mo C) A (call (.builtin "list.append") [.ref a,x]) Q E s:=
 call_meets PySem.F.slot_list_append ⟨_,hob,rfl⟩ PySem.F.entry_list_append (PySem.F.args_list_append_2 _ _) (list_append a ys k _ (by rw[sizeLine_eq];omega)) ⟨hob,q _ _ (Heap.SameBut.update ..) (PySem.IsL.update (n:=k) hob _)⟩
noncomputable abbrev Ee(env:PySem.Env)(c:Expr)(r:Bool):Sem (ForInStep Bool):=if r=true then do let ok<-isTrue c env (eval c env);pure (ForInStep.yield ok) else pure (ForInStep.yield r)
theorem xO{ifs:List Expr}{Q:Bool->Shared->Prop}(q:Q false s):wpC (Mo C) A (forIn ifs false (Ee env)) Q E s:=by
 induction ifs with
 |nil=>exact zD q
 |cons c r ih=>
  rw[List.forIn_cons]
  exact zA (by show wpC _ _ (pure (ForInStep.yield false)) _ _ _;exact zD ih)
theorem J6{F:FF}{ifs:List Expr}{irs:List IR}(h:Two (λe ir=>ST1 C n env N e (F ir)) ifs irs):∀{A:Around} {s:Shared} {Z:Emb} {U:St} {Y:Env} {K:Bool->St->Prop} {Q:Bool->Shared->Prop} {E:Value->Shared->Prop},
  kO n A->Rel C Z U s.heap->FrI C Z U s.heap env N Y->tQ (λir U=>F ir Y U) irs U K->(∀b U' s' Z',K b U'->zV C Nil Z U s Z' U' s'->Q b s')->wpC (Mo C) A (forIn ifs true (Ee env)) Q E s:=by
 induction h with
 |nil=>exactλO R Fr h q=>zD (q _ _ _ _ h (zV.refl R))
 |cons hc hr ih=>
  intro A s Z U Y K Q E O R Fr h q
  rw[List.forIn_cons]
  refine zA ?_
  show wpC _ _ (isTrue _ env _>>=_) _ _ _
  refine zA (hc O R Fr h λv U1 s1 Z1 h S1=>zQ h λt ht h=>⟨t,ht,zD ?_⟩)
  cases t with
  |true=>exact ih O S1.Q8 (Fr.Q5 S1) h λb U2 s2 Z2 hk S2=>q _ _ _ _ hk (S1.trans S2)
  |false=>exact xO (q _ _ _ _ h S1)
theorem iR:∀{Y:Env} {i:Nat},kP Y i=(Y[i]?).join
 |[],_=>rfl
 |_::_,0=>rfl
 |_::r,i+1=>iR (Y:=r)
theorem FrI.clear{h:Heap}{Y':Env}(F:FrI C Z U h env N Y')(hl:∀x i,(x,.local,i)∈N->(Y[i]?).join=none)(hf:∀x k i,(x,k,i)∈N->k≠ .local->Y[i]?=Y'[i]?):FrI C Z U h env N Y:=
 ⟨F.above,F.ns.imp λm q=>⟨q.1,λx i hx v hv=>(nn (show(Y[i]?).join=some v by rw[hv];rfl) (hl x i hx)).elim⟩,F.RU,F.low,λx k i hx hk=>(F.cells x k i hx hk).imp λc=>Exists.imp λv₀ q=>⟨q.1,q.2.1,q.2.2.1,q.2.2.2.1,q.2.2.2.2.1,λv hv=>q.2.2.2.2.2 v (hf x k i hx hk▸hv)⟩⟩
theorem cL{l:List (Nat×V)}{j:Nat}(h:∀p∈l,p.1≠j):∀{Y:Env},(l.foldl (λY p=>Y.set p.1 (some p.2)) Y)[j]?=Y[j]?:=by
 induction l with
 |nil=>intro Y;rfl
 |cons p r ih=>
  intro Y
  rw[List.foldl_cons,ih λq hq=>h q (.tail _ hq),List.getElem?_set_ne (h p (.head _))]
theorem lF{tg:List Nat}{b:Bool}{v:V}{Y':Env}{j:Nat}(h:aL tg b v Y=some Y')(hj:j∉tg):Y[j]?=Y'[j]?:=by
 refine j8 h (λJ h=>zB h λvs J h=>zK h λJ h=> ?_) λJ h=>yU h λi e h=>zK h λJ h=> ?_
 ·exact alS h▸(cL λp hp e=>hj (by rw[<-e];exact(List.of_mem_zip hp).1)).symm
 ·exact alS h▸(List.getElem?_set_ne λq=>hj (by rw[e,q];exact .head _)).symm
theorem fB{t:Expr}{tg:List Nat}{b:Bool}(h:vF N t=some (tg,b)):∀j∈tg,∃x,(x,.local,j)∈N:=by
 unfold vF at h
 cases et:gF t with
 |some es=>
  rw[et] at h
  refine xEA (alD h) λtg' h1 h2=> ?_
  intro j hj
  refine xEA ((jF h1).mem' ((Prod.mk.inj h2).1▸hj)) λe J he=> ?_
  refine vE (y7 he) λx J J hx=> ?_
  exact⟨x,hx⟩
 |none=>
  rw[et] at h
  refine xEA (alD h) λi h1 h2=> ?_
  refine vE (y7 h1) λx J J hx=> ?_
  intro j hj
  rw[<-(Prod.mk.inj h2).1] at hj
  exact⟨x,alK hj▸hx⟩
end
section
variable{C:Cx}{n:Nat}
theorem xL{cenv:PySem.Env}{L:z7}{gl:List Str}{elt tgt iter:Expr}{ifs:List Expr}{scope:Scope}{pos:Pos}{fe:FnK}{F:FF}{irs:List IR}{tg:List Nat}{b:Bool}
  (OE:jP cenv L gl)(he:SE1 C n cenv L elt fe)(hi:Two (λe ir=>ST1 C n cenv L e (F ir)) ifs irs)(ht:vF L tgt=some (tg,b))
  {A:Around}(O:kO n A){v:V}{vs:List V}{lo:Option Loc}{U0:St}{Y:Env}{step:V->St->Cp (Option V)}(hst:∀v U K,step v U K->wR (aL tg b v Y) λY'=>tQ (λir U=>F ir Y' U) irs U λb U=>dL b (fe Y' U (KR K)) (K none U))
  (h0:qM v U0=some (vs,lo)){I a:Addr}(hIa:I≠a)(hIl:I≠cenv.locals)(hal:a≠cenv.locals)
  (hIc:∀x c,cenv.cells.lookup x=some c->I≠c)(hac:∀x c,cenv.cells.lookup x=some c->a≠c)(hlc:∀x c,cenv.cells.lookup x=some c->cenv.locals≠c)(hI0:C.h0.get? I=none)(ha0:C.h0.get? a=none)
  (hcl:∀x i,(x,.local,i)∈L->(Y[i]?).join=none){R:Result->Shared->Prop}:∀(m i:Nat) {s:Shared} {Z:Emb} {U:St} {us0:List V} {ys:Array Value} {k:Nat} {K:List V->St->Prop},vs.length-i=m->i<=vs.length->
   fQ step (jI U0 lo) (vs.drop i) U K->
   us0.length+m<1000->kN U0 U lo=true->Rel C Z U s.heap->FrI C Z U s.heap cenv L Y->jO C Z U I s.heap v i->¬own Z U I->¬own Z U a->s.heap.get? a=some (PySem.W.listOf ys k)->zW C Z s.heap us0 ys.toList->
   (∀us U' s' Z' zs k',K us U'->zV C (λx=>x=I\/x=a\/x=cenv.locals) Z U s Z' U' s'->s'.heap.get? a=some (PySem.W.listOf zs k')->¬own Z' U' a->zW C Z' s'.heap (us0++us) zs.toList->FrI C Z' U' s'.heap cenv L Y->R (.ok .next) s')->
   jK (Mo C) A (.compLoop (.ListComp elt [⟨tgt,iter,ifs,0⟩] scope pos) 0 (.ref I) (.ref a) cenv) R s:=by
 intro m
 induction m with
 |zero=>
  intro i s Z U us0 ys k K hm hi' hc hz hs hR hF hit hI ha hob hv q
  have hie:i=vs.length:=Nat.le_antisymm hi' (Nat.le_of_sub_eq_zero hm)
  subst hie
  rw[List.drop_length] at hc
  refine d6 (zL ?_)
  refine aG O.1 hR hit hI hI0 (uZ h0 hs) ?_
  rw[List.getElem?_eq_none (Nat.le_refl _)]
  intro s' S
  exact q _ _ s' Z ys k hc (S.Q7 λx hx=> .inl (.inl hx)) (S.keep a _ hob ha (λe=>hIa e.symm)) ha (by rw[List.append_nil];exact hv.keeps S.ext S.QH) (hF.step S λx hx=>hx▸⟨hIl,hIc⟩)
 |succ m ih=>
  intro i s Z U us0 ys k K hm hi' hc hz hs hR hF hit hI ha hob hv q
  have hlt:i<vs.length:=Nat.lt_of_sub_pos (hm▸Nat.succ_pos m)
  have hm':vs.length-(i+1)=m:=by omega
  rw[List.drop_eq_getElem_cons hlt] at hc
  refine zQ (hst _ _ _ hc) λY' hb hc=> ?_
  have hit0:=uZ h0 hs
  refine d6 (zL ?_)
  refine aG O.1 hR hit hI hI0 hit0 ?_
  rw[List.getElem?_eq_getElem hlt]
  intro s1 y S1 ry hit1
  have hFI:∀x,x=I->x≠cenv.locals/\∀z c,cenv.cells.lookup z=some c->x≠c:=λx hx=>hx▸⟨hIl,hIc⟩
  have hFa:∀x,x=a->x≠cenv.locals/\∀z c,cenv.cells.lookup z=some c->x≠c:=λx hx=>hx▸⟨hal,hac⟩
  refine zL (pW hit1 ?_)
  refine zL (iX OE O.1 ht S1.Q8 (hF.step S1 hFI) ry hb λs2 S2 F2=> ?_)
  refine J6 hi O S2.Q8 F2 hc λok U3 s3 Z3 hc S3=> ?_
  have F3:=F2.Q5 S3
  have S13:zV C (λx=>x=I\/x=a\/x=cenv.locals) Z U s Z3 U3 s3:=
   ((S1.Q7 λx hx=> .inl (.inl hx)).trans (S2.Q7 λx hx=> .inl (.inr (.inr hx)))).trans (S3.Q7 λx hx=>hx.elim)
  have hIs:I<s.heap.objs.size:=by refine vE hit.still λob J hob J=> ?_;exact Heap.lt_size hob
  have nowI:∀{Z' U' s'},zV C (λx=>x=I\/x=a\/x=cenv.locals) Z U s Z' U' s'->¬own Z' U' I:=λS o=>(S.QY _ o).elim hI λo=>absurd hIs (Nat.not_lt.mpr o)
  have nowa:∀{Z' U' s'},zV C (λx=>x=I\/x=a\/x=cenv.locals) Z U s Z' U' s'->¬own Z' U' a:=λS o=>(S.QY _ o).elim ha λo=>absurd (Heap.lt_size hob) (Nat.not_lt.mpr o)
  have hob3:=S3.keep a _ (S2.keep a _ (S1.keep a _ hob ha (λe=>hIa e.symm)) ha hal) ha (λf=>f)
  have hv3:=hv.keeps S13.ext S13.QH
  have hcl':∀{Z' U' h'},FrI C Z' U' h' cenv L Y'->FrI C Z' U' h' cenv L Y:=λFx=>Fx.clear hcl λx k j hx hk=>lF hb λhj=>by
   obtain⟨z,hz⟩:=fB ht j hj
   exact hk (bG OE.slots hx hz).2
  have hit2:jO C Z U I s2.heap v (i+1):=hit1.step S2 hI hIl λJ=>vI
  have lo_eq:∀{ws lo'},qM v U=some (ws,lo')->lo=lo':=λh=>(Prod.mk.inj (alS (hit0.symm.trans h))).2
  cases ok with
  |false=>
   refine j1 hc λhs1 hc=> ?_
   have hit3:jO C Z3 _ I s3.heap v (i+1):=hit2.step (X:=Nil) S3 hI (λf=>f) λh=>lo_eq h▸kT hs hs1
   exact ih (i+1) hm' hlt hc (Nat.lt_of_succ_lt hz) hs1 S3.Q8 (hcl' F3) hit3 (nowI S13) (nowa S13) hob3 hv3 λus U' s4 Z4 zs k' hk S4=>q us U' s4 Z4 zs k' hk (S13.trans S4)
  |true=>
   refine he O S3.Q8 F3 hc λu U4 s4 Z4 z hc S4 rz=>j1 hc λhs1 hc=> ?_
   have S14:=S13.trans (S4.Q7 (jjY:=λx=>x=I\/x=a\/x=cenv.locals) λx hx=>hx.elim)
   have hob4:=S4.keep a _ hob3 (nowa S13) (λf=>f)
   have hv4:=hv3.keeps S4.ext S4.QH
   refine zL (Az hob4 (by rw[show ys.size=us0.length from hv4.length.symm];exact alI (Nat.le_add_right _ _) hz) λh5 k5 hk5 hob5=> ?_)
   have S5:zV C (λx=>x=a) Z4 U4 s4 Z4 U4 {s4 with heap:=h5}:=zV.R1 S4.Q8 (λb ob hb e=>hk5.extBut b ob hb e) (Nat.le_of_eq hk5.1.symm) (nowa S14) rfl ha0
    (λob e=>alS (hob4.symm.trans e)▸nK) rfl rfl
   have S15:=S14.trans (S5.Q7 (jjY:=λx=>x=I\/x=a\/x=cenv.locals) λx hx=> .inl (.inr (.inl hx)))
   have hit4:jO C Z4 U4 I s4.heap v (i+1):=hit2.step (S3.trans S4) hI (λf=>f) λh=>lo_eq h▸kT hs hs1
   have hit5:jO C Z4 U4 I h5 v (i+1):=hit4.step S5 (nowI S14) hIa λJ=>vI
   refine ih (i+1) (us0:=us0++[u]) hm' hlt hc (by rw[List.length_append,Nat.add_assoc,Nat.add_comm _ m];exact hz) hs1 S5.Q8 (hcl' ((F3.Q5 S4).step S5 hFa)) hit5 (nowI S15) (nowa S15) hob5 ?_ λus U' s6 Z6 zs k' hk S6 h6 h7 h8=>q _ _ s6 Z6 zs k' hk (S15.trans S6) h6 h7 (by rw[List.append_assoc] at h8;exact h8)
   rw[Array.toList_push]
   exact(hv4.keeps S5.ext S5.QH).append (.cons (rz.keeps S5.ext S5.QH) .nil)
end
noncomputable def vG(cells:List (Str×Addr)):List (Str×NameKind)->List (Str×Addr)->List (Str×Addr)
 |[],acc=>acc
 |(x,k)::r,acc=>if k== .free then(match cells.lookup x with|some c=>vG cells r ((x,c)::acc)|none=>vG cells r acc) else vG cells r acc
theorem uB{β:Type}{x y:Str}{b c:β}{l:List (Str×β)}(h:List.lookup x ((y,b)::l)=some c):(x=y/\b=c)\/l.lookup x=some c:=by
 rw[List.lookup_cons] at h
 cases e:x==y with
 |true=>rw[e] at h;exact .inl ⟨eq_of_beq e,alS h⟩
 |false=>rw[e] at h;exact .inr h
theorem pQ{cells:List (Str×Addr)}{P:List (Str×NameKind)->List (Str×Addr)->List (Str×Addr)->Prop}(h0:∀acc,P [] acc acc)(h1:∀y k r acc c,k≠ .free\/cells.lookup y=none->P r acc c->P ((y,k)::r) acc c)
  (h2:∀y r acc c d,cells.lookup y=some d->P r ((y,d)::acc) c->P ((y,.free)::r) acc c):∀ns acc,P ns acc (vG cells ns acc):=by
 intro ns
 induction ns with
 |nil=>exact h0
 |cons p r ih=>
  intro acc
  obtain⟨y,k⟩:=p
  unfold vG
  by_cases hk:(k==NameKind.free)=true
  ·rw[if_pos hk]
   have e:=eq_of_beq hk
   subst e
   cases e:cells.lookup y with
   |some d=>exact h2 y r acc _ d e (ih _)
   |none=>exact h1 y _ r acc _ (.inr e) (ih _)
  ·rw[if_neg hk]
   exact h1 y k r acc _ (.inl λq=>hk (beq_iff_eq.mpr q)) (ih _)
theorem dG{cells:List (Str×Addr)}{ns:List (Str×NameKind)}{acc:List (Str×Addr)}{x:Str}{c:Addr}(h:(vG cells ns acc).lookup x=some c):((x,.free)∈ns/\cells.lookup x=some c)\/acc.lookup x=some c:=
 pQ (cells:=cells) (P:=λns acc cl=>cl.lookup x=some c->((x,NameKind.free)∈ns/\cells.lookup x=some c)\/acc.lookup x=some c) (λJ=> .inr) (λJ J J J J J ih h=>(ih h).imp (λq=>⟨.tail _ q.1,q.2⟩) id)
  (λy r acc cl d hd ih h=>(ih h).elim (λq=> .inl ⟨.tail _ q.1,q.2⟩) λq=>(uB q).elim (λq=> .inl (by rw[q.1,<-q.2];exact⟨.head _,hd⟩)) .inr) ns acc h
theorem tS{cells:List (Str×Addr)}{ns:List (Str×NameKind)}{acc:List (Str×Addr)}{x:Str}(h1:(cells.lookup x).isSome=true):(x,.free)∈ns\/(acc.lookup x).isSome=true->(∀c,acc.lookup x=some c->cells.lookup x=some c)->(vG cells ns acc).lookup x=cells.lookup x:=
 pQ (cells:=cells) (P:=λns acc cl=>(x,NameKind.free)∈ns\/(acc.lookup x).isSome=true->(∀c,acc.lookup x=some c->cells.lookup x=some c)->cl.lookup x=cells.lookup x)
  (λacc h k=>by
   refine xE (Option.isSome_iff_exists.mp (h.elim (λh=>nomatch h) id)) λc hc=> ?_
   exact hc.trans (k c hc).symm)
  (λy k r acc cl q ih h=>ih (h.imp_left λh=>(alC h).elim (λe=>by
   refine xA (Prod.mk.inj e) λe1 e2=> ?_
   exact absurd (q.elim (λq=>absurd e2.symm q) λq=>e1▸q) (λz=>by rw[z] at h1;exact jG h1)) id))
  (λy r acc cl d hd ih h k=>by
   have k':∀c,List.lookup x ((y,d)::acc)=some c->cells.lookup x=some c:=λc hc=>(uB hc).elim (λq=>q.1▸q.2▸hd) (k c)
   refine ih ?_ k'
   by_cases e:x=y
   ·exact .inr (by rw[List.lookup_cons,e,beq_self_eq_true];rfl)
   ·exact h.elim (λh=>(alC h).elim (λq=>absurd (Prod.mk.inj q).1 e) .inl) λh=> .inr (by rw[List.lookup_cons,beq_eq_false_iff_ne.mpr e];exact h)) ns acc
section
variable{C:Cx}{A:Around}{s:Shared}{Z:Emb}{U:St}{env:PySem.Env}{N L:z7}{gl:List Str}{Y:Env}{E:Value->Shared->Prop}{n:Nat}
theorem sC{scope:Scope}{Q:List (Str×Addr)->Shared->Prop}(hf:∀x,(x,.free)∈scope.names->(env.cells.lookup x).isSome=true)(q:Q (vG env.cells scope.names []) s):wpC (Mo C) A (closureFor scope env) Q E s:=by
 unfold closureFor
 dsimp only
 refine zA ?_
 revert q hf
 generalize scope.names=ns
 generalize ([]:List (Str×Addr))=acc
 induction ns generalizing acc with
 |nil=>exactλhf q=>zD (zD q)
 |cons p r ih=>
  intro hf q
  have ih:=λacc=>ih acc λy hy=>hf y (.tail _ hy)
  obtain⟨x,k⟩:=p
  rw[List.forIn_cons]
  refine zA ?_
  unfold vG at q
  by_cases hk:(k==NameKind.free)=true
  ·rw[if_pos hk] at q ⊢
   refine xE (Option.isSome_iff_exists.mp (hf x (eq_of_beq hk▸ .head _))) λc e=> ?_
   rw[e] at q
   exact zM (wpAny_cellOf e (zD (ih _ q)))
  ·rw[if_neg hk] at q ⊢
   exact zD (ih _ q)
theorem oL{P:List (Str×NameKind)->z7->Prop}(h0:P [] [])(h1:∀y r L,y.2≠ .free->y.2≠ .cell->P r L->P (y::r) L)(h2:∀x r L i,P r L->P ((x,.local)::r) ((x,.local,i)::L))
  (h3:∀x r L k i,k≠ .local->(x,k,i)∈N->P r L->P ((x,.free)::r) ((x,.free,i)::L)){names:List (Str×NameKind)}:∀{k:Nat} {L:z7},jN N k names=some L->P names L:=by
 induction names with
 |nil=>exactλh=>alS h▸h0
 |cons y r ih=>
  intro k L h
  obtain⟨x,kk⟩:=y
  refine j8 h (λe h=> ?_) λJ h=>j8 h (λe h=> ?_) λJ h=>zK h λe h=>h1 _ _ _ (λq=>nomatch e.symm.trans q) (λq=>nomatch e.symm.trans q) (ih h)
  ·refine j8 h (λJ h=>h1 _ _ _ (λq=>nomatch e.symm.trans q) (λq=>nomatch e.symm.trans q) (ih h)) λJ h=> ?_
   refine xEA (alD h) λL' h e'=> ?_
   have e:kk= .local:=e
   exact e▸e'▸h2 _ _ _ _ (ih h)
  ·refine zB h λz hz h=>kE h λhl h=> ?_
   refine xEA (alD h) λL' h e'=> ?_
   refine xA (kJ hz) λhm hx=> ?_
   have e:kk= .free:=e
   have hx:z.1=x:=hx
   exact e▸e'▸h3 _ _ _ z.2.1 z.2.2 hl (hx▸hm) (ih h)
theorem tZ{names:List (Str×NameKind)}{k:Nat}{L:z7}(h:jN N k names=some L):∀x k' i,(x,k',i)∈L->(k'= .local/\(x,.local)∈names)\/(k'= .free/\(x,.free)∈names/\∃k'',k''≠ .local/\(x,k'',i)∈N):=
 have up:∀{x:Str} {k':NameKind} {i:Nat} {y:Str×NameKind} {r:List (Str×NameKind)},(k'= .local/\(x,.local)∈r)\/(k'= .free/\(x,.free)∈r/\∃k'',k''≠ .local/\(x,k'',i)∈N)->(k'= .local/\(x,.local)∈y::r)\/(k'= .free/\(x,.free)∈y::r/\∃k'',k''≠ .local/\(x,k'',i)∈N):=
  λh=>h.imp (λq=>⟨q.1,.tail _ q.2⟩) λq=>⟨q.1,.tail _ q.2.1,q.2.2⟩
 oL (P:=λnames L=>∀x k' i,(x,k',i)∈L->(k'= .local/\(x,.local)∈names)\/(k'= .free/\(x,.free)∈names/\∃k'',k''≠ .local/\(x,k'',i)∈N)) (λJ J J h=>nomatch h) (λJ J J J J ih x k' i hx=>up (ih x k' i hx))
  (λy r L j ih x k' i hx=>(alC hx).elim (λe=>by
   refine xA (Prod.mk.inj e) λe1 e2=> ?_
   exact .inl ⟨(Prod.mk.inj e2).1,e1▸ .head _⟩) λhx=>up (ih x k' i hx))
  (λy r L kk j hk hm ih x k' i hx=>(alC hx).elim (λe=>by
   refine xA (Prod.mk.inj e) λe1 e2=> ?_
   exact .inr ⟨(Prod.mk.inj e2).1,e1▸ .head _,kk,hk,e1▸(Prod.mk.inj e2).2▸hm⟩) λhx=>up (ih x k' i hx)) h
theorem BJ{names:List (Str×NameKind)}{k:Nat}{L:z7}(h:jN N k names=some L):∀x,(x,.free)∈names->∃k'' i,k''≠ .local/\(x,k'',i)∈N:=
 oL (P:=λnames J=>∀x,(x,.free)∈names->∃k'' i,k''≠ .local/\(x,k'',i)∈N) (λJ h=>nomatch h) (λy r L h J ih x hx=>(alC hx).elim (λe=>absurd (alQ Prod.snd e).symm h) (ih x))
  (λy r L i ih x hx=>(alC hx).elim (λe=>nomatch (Prod.mk.inj e).2) (ih x)) (λy r L kk j hk hm ih x hx=>(alC hx).elim (λe=>⟨kk,j,hk,(Prod.mk.inj e).1▸hm⟩) (ih x)) h
theorem Ah{names:List (Str×NameKind)}{k:Nat}{L:z7}(h:jN N k names=some L):∀x∈names,x.2≠ .cell:=
 oL (P:=λnames J=>∀x∈names,x.2≠ .cell) (λJ h=>nomatch h) (λy r L J h ih x hx=>(alC hx).elim (λe=>e▸h) (ih x)) (λy r L i ih x hx=>(alC hx).elim (λe=>e▸λq=>nomatch q) (ih x))
  (λy r L kk j hk hm ih x hx=>(alC hx).elim (λe=>e▸λq=>nomatch q) (ih x)) h
theorem CP{names:List (Str×NameKind)}{k:Nat}{L:z7}(h:jN N k names=some L):(L.map (·.1)).Sublist (names.map (·.1)):=
 oL (P:=λnames L=>(List.map Prod.fst L).Sublist (List.map Prod.fst names)) (List.Sublist.refl _) (λJ J J J J ih=>ih.cons _) (λJ J J J ih=>ih.cons_cons _) (λJ J J J J J J ih=>ih.cons_cons _) h
theorem vS{α:Type}[BEq α][LawfulBEq α]{l:List α}:uL l=true->l.Nodup:=by
 induction l with
 |nil=>exactλJ=>List.nodup_nil
 |cons a r ih=>
  intro h
  have h:=alA h
  exact List.nodup_cons.mpr ⟨λhm=>by have z:=h.1;rw[List.contains_iff_mem.mpr hm] at z;exact jG z,ih h.2⟩
theorem uS{β:Type}{ns:List (Str×β)}{x:Str}{k:β}:(ns.map (·.1)).Nodup->(x,k)∈ns->ns.lookup x=some k:=by
 induction ns with
 |nil=>exactλJ h=>nomatch h
 |cons p r ih=>
  intro hn h
  have hn:=List.nodup_cons.mp hn
  show List.lookup x ((p.1,p.2)::r)=_
  rw[List.lookup_cons]
  refine(alC h).elim (λe=> ?_) λh'=> ?_
  ·rw[<-e,beq_self_eq_true]
  ·rw[beq_eq_false_iff_ne.mpr λe=>hn.1 (List.mem_map.mpr ⟨(x,k),h',e⟩)]
   exact ih hn.2 h'
theorem mG(f:Str×NameKind->Str×NameKind)(hf:∀p,(f p).1=p.1){ns:List (Str×NameKind)}{x:Str}{k:NameKind}:ns.lookup x=some k->(ns.map f).lookup x=some (f (x,k)).2:=by
 induction ns with
 |nil=>exactλh=>nomatch h
 |cons p r ih=>
  intro h
  rw[List.map_cons,show f p=(p.1,(f p).2) from Prod.ext (hf _) rfl,List.lookup_cons]
  have h:List.lookup x ((p.1,p.2)::r)=some k:=h
  rw[List.lookup_cons] at h
  cases q:x==p.1 with
  |true=>rw[q] at h;rw[eq_of_beq q,<-alS h]
  |false=>rw[q] at h;exact ih h
theorem hO{l:List (Str×NameKind)}{x:Str}(h:x∈jH l):(x,.globalImplicit)∈l:=by
 refine xEA (List.mem_filterMap.mp h) λp hp e=> ?_
 exact zK e λh e=>by rw[<-alS e,<-h];exact hp
theorem rN{scope:Scope}{k:Nat}{tg:List Nat}{cenv:PySem.Env}(O:jP env N gl)(hL:jN N k scope.names=some L)(hc:gV L scope tg=true)
  (h1:cenv.scope=relabel scope env)(h2:cenv.globals=env.globals)(h3:cenv.builtins=env.builtins)(h4:cenv.cells=vG env.cells scope.names []):jP cenv L (jH scope.names):=by
 obtain⟨hc,hl⟩:=alA hc
 obtain⟨hc,hs⟩:=alA hc
 obtain⟨hk,hn⟩:=alA hc
 have hnd:=vS hn
 have kind:∀{x kk},(x,kk)∈scope.names->cenv.kindOf x=some (if(kk== .free&&env.scope.kind== .function&&env.kindOf x==some .cell) then .cell else kk):=λ{x kk} hx=>by
  unfold Env.kindOf
  rw[h1]
  unfold relabel
  dsimp only
  rw[mG _ (λp=>by split<;>rfl) (uS hnd hx)]
  congr 1
  unfold Env.kindOf
  split<;>first|rfl|(split<;>first|rfl|simp_all)|simp_all
 refine⟨by rw[h1];exact eq_of_beq hk,by rw[h2,O.RZ],by rw[h3,O.bl],λx i hx=> ?_,λx k' i hx hkk=> ?_,λx hx=> ?_,λx y c hx hy=> ?_,?_,vS hs⟩
 ·rcases tZ hL _ _ _ hx with⟨_,h⟩|⟨h,_⟩
  ·rw[kind h];simp
  ·cases h
 ·rcases tZ hL _ _ _ hx with⟨h,_⟩|⟨rfl,h,k'',h5,h6⟩
  ·exact absurd h hkk
  ·rw[kind h]
   rcases O.cel x k'' i h6 h5 with q|⟨q,q'⟩
   ·left;simp[q,O.kind]
   ·right;refine⟨?_,q'⟩;simp[q]
 ·rw[kind (hO hx)];simp
 ·rw[h4] at hx hy
  rcases dG hx with hx|hx
  ·rcases dG hy with hy|hy
   ·exact O.apart x y c hx.2 hy.2
   ·cases hy
  ·cases hx
 ·exact hnd.sublist (CP hL)
end
theorem aF{env:PySem.Env}{e:Expr}(h:qV e=true)(x:Value):foldedSetIterable e env x=pure x:=by
 cases e<;>first|rfl|exact jG h
section
variable{C:Cx}{n:Nat}{env:PySem.Env}{N:z7}{gl:List Str}
theorem yI{Z:Emb}{U:St}{h:Heap}{a:Addr}(R:Rel C Z U h)(ha:h.objs.size<=a):¬own Z U a:=R.QX ha
theorem GS{Z:Emb}{U:St}{a x:Addr}{o:zU}(hx:own (Z.Rb U.fr (a,a)) (U.new o) x):x=a\/own Z U x:=by
 refine yW hx λl p hl hp e=> ?_
 by_cases q:l=U.fr
 ·subst q
  have hp:=alS (q6.symm.trans hp)
  exact .inl (e.elim (λe=>by rw[e,<-hp]) λe=>by rw[e,<-hp])
 ·exact .inr ⟨l,p,vC q▸hl,(w8 q).symm.trans hp,e⟩
theorem oV{elt tgt it:Expr}{ifs:List Expr}{scope:Scope}{pos p0:Pos}{k:Nat}{L:z7}{fi fe:FnK}{F:FF}{irs:List IR}{tg:List Nat}{b:Bool}{step:V->St->Cp (Option V)}
  (O:jP env N gl)(hL:jN N k scope.names=some L)(ht:vF L tgt=some (tg,b))(hcok:gV L scope tg=true)(hps:qV it=true)(hit:SE1 C n env N it fi)
  (hE:∀cenv,jP cenv L (jH scope.names)->SE1 C n cenv L elt fe)(hI:∀cenv,jP cenv L (jH scope.names)->Two (λe ir=>ST1 C n cenv L e (F ir)) ifs irs)
  {A:Around}{s:Shared}{Z:Emb}{U:St}{Y:Env}{K:V->St->Prop}{use:Option (Value->Sem Unit)}{Q:Value->Shared->Prop}{E:Value->Shared->Prop}
  (Ok:kO n A)(R:Rel C Z U s.heap)(Fr:FrI C Z U s.heap env N Y)
  (hst:∀v U K,step v U K->wR (aL tg b v Y) λY'=>tQ (λir U=>F ir Y' U) irs U λb U=>dL b (fe Y' U (KR K)) (K none U))
  (h:fi Y U (Dv step tg Y K))
  (q:∀v U' s' Z' a l,K v U'->zV C Nil Z U s Z' U' s'->zS C Z' s'.heap v (.ref a)->s.heap.objs.size<=l->¬own Z' U' l->(∃o,s'.heap.get? l=some o/\¬u3 o)->C.h0.get? l=none->
   match use with
   |none=>∀h',Heap.SameBut l s'.heap h'->Q (.ref a) {s' with heap:=h'}
   |some u=>wpC (Mo C) A (u (.ref a)) (λJ s''=>s''.heap.get? l=s'.heap.get? l/\∀h',Heap.SameBut l s''.heap h'->Q .none {s'' with heap:=h'}) E s'):
  wpC (Mo C) A (comprehension (.ListComp elt [⟨tgt,it,ifs,0⟩] scope pos) scope env p0 (newList []) false (eval it env) use) Q E s:=by
 refine xA (alA hcok) λhc0 hl=> ?_
 refine xA (alA hc0) λhc0 hs=> ?_
 refine xA (alA hc0) λhk hn=> ?_
 have hnd:=vS hn
 have hkf:scope.kind= .function:=eq_of_beq hk
 refine kY (e:= .ListComp elt [⟨tgt,it,ifs,0⟩] scope pos) (g:=⟨tgt,it,ifs,0⟩) (gs:=[]) rfl (aF hps) hkf (λy hy hyl=>uS hnd (by rw[<-hyl];exact hy)) ?_
 refine hit Ok R Fr h λx U1 s1 Z1 vx h S1 r1=>zQ h λr hww h=>zK hww λhfree hww=>zB hww λr' hw hz=>zK hz λhz e=> ?_
 cases e
 obtain⟨vs,lo⟩:=r
 refine zL (cJ S1.Q8 r1 hw λI s2 S2 hI1 hI2 hit2=> ?_)
 show wpC (Mo C) A (newList []) _ E s2
 refine zL (wpAny_newObj_type ?_ (by show(#[]:Array Value).size<=sizeLine;rw[sizeLine_eq];exact Nat.zero_le _))
 have S3:zV C Nil Z1 U1 s2 Z1 U1 {s2 with heap:=s2.heap.push {cls:= .type "list",data:= .seq #[]}}:=q4 (t:=s2.toks) _ S2.Q8
 have S13:=(S1.trans S2).trans S3
 have F3:=Fr.Q5 S13
 refine sC (λy hy=> ?_) ?_
 ·refine vE (BJ hL y hy) λk'' i hk'' hm=> ?_
  refine vE (F3.cells y k'' i hm hk'') λc J hc J=> ?_
  rw[hc];rfl
 refine zL (wpAny_newFunctionEnv (Ah hL) (λJ hx=>nomatch hx) (λh' hns hsb=> ?_) hkf)
 have hs4:s2.heap.objs.size+1<h'.objs.size:=by
  have:=hsb.1
  rw[Heap.size_push,Heap.size_push] at this
  rw[this];exact Nat.lt_succ_self _
 have kp:∀b o,(s2.heap.push {cls:= .type "list",data:= .seq #[]}).get? b=some o->h'.get? b=some o:=λb o e=>(hsb.2 b (Nat.ne_of_lt (Heap.lt_size e))).trans (Heap.get?_push_of_some _ e)
 have S4:zV C Nil Z1 U1 {s2 with heap:=s2.heap.push {cls:= .type "list",data:= .seq #[]}} Z1 U1 ⟨h',s2.gens,s2.drawn,s2.toks+([]:List (Str×Value)).length,s2.os⟩:=zV.R9 S3.Q8 kp (by show(s2.heap.push _).objs.size<=h'.objs.size;rw[Heap.size_push];exact Nat.le_of_lt hs4) rfl rfl
 have S14:=S13.trans S4
 have F4:=Fr.Q5 S14
 have hle:s.heap.objs.size<=s2.heap.objs.size:=(S1.trans S2).size
 have hle1:s.heap.objs.size<=s1.heap.objs.size:=S1.size
 have hls:(s2.heap.push {cls:= .type "list",data:= .seq #[]}).objs.size=s2.heap.objs.size+1:=Heap.size_push ..
 have hsz3:C.h0.objs.size<=s2.heap.objs.size+1:=Nat.le_succ_of_le S2.Q8.size
 have hno:∀x,s2.heap.objs.size<=x->¬own Z1 U1 x:=λx hx=>yI S2.Q8 hx
 have hnoI:¬own Z1 U1 I:=yI S1.Q8 hI1
 have hcl:∀y i,(y,.local,i)∈L->(Y[i]?).join=none:=λy i hy=>by
  have h5:(false||tg.contains i)=true:=alN hl _ hy
  exact iR.symm.trans (Option.isNone_iff_eq_none.mp (alN hfree i (List.contains_iff_mem.mp h5)))
 have hgl:∀y c,(vG env.cells scope.names []).lookup y=some c->c<s1.heap.objs.size:=λy c hy=>(dG hy).elim (λhy=>by
  refine vE (BJ hL y hy.1) λk'' i hk'' hm=> ?_
  refine yW ((Fr.Q5 S1).cells y k'' i hm hk'') λc' v0 hc' hcell J=> ?_
  refine xEA hcell λo ho J=> ?_
  exact alS (hc'.symm.trans hy.2)▸Heap.lt_size ho) λhy=>nomatch hy
 have hs12:s1.heap.objs.size<=s2.heap.objs.size:=S2.size
 let cenv:PySem.Env:={newEnv scope (s2.heap.push {cls:= .type "list",data:= .seq #[]}).objs.size env.globals (vG env.cells scope.names []) env.qual none .none (some env) builtinsNs with scope:=relabel scope env}
 have ecl:cenv.locals=s2.heap.objs.size+1:=hls
 have ecc:cenv.cells=vG env.cells scope.names []:=rfl
 have OE:jP cenv L (jH scope.names):=rN O hL hcok rfl rfl rfl rfl
 have FL:FrI C Z1 U1 h' cenv L Y:=by
  refine⟨by rw[ecl];exact hsz3,⟨_,hns,λy i hy u hu=>(nn (show(Y[i]?).join=some u by rw[hu];rfl) (hcl y i hy)).elim⟩,by rw[ecl];exact hno _ (Nat.le_succ _),λy c hy=>by rw[ecc] at hy;exact Nat.lt_of_lt_of_le (hgl y c hy) (alJ hs12 (Nat.le_of_lt (Nat.lt_of_succ_lt hs4))),λy k' i hy hk'=> ?_⟩
  refine(tZ hL _ _ _ hy).elim (λe=>absurd e.1 hk') λz=> ?_
  refine LT z λJ hyn k'' hk'' hm=> ?_
  refine eX (F4.cells y k'' i hm hk'') λc v0 g1 g2 g3 g4 g5 g6=> ?_
  have e1:cenv.cells.lookup y=some c:=(tS (acc:=[]) (by rw[g1];rfl) (.inl hyn) (λc h=>nomatch h)).trans g1
  exact⟨c,v0,e1,g2,g3,g4,by rw[ecl];exact Nat.ne_of_lt (Nat.lt_of_lt_of_le (hgl y c e1) (Nat.le_succ_of_le hs12)),g6⟩
 have hitN:jO C Z1 U1 I h' x 0:=hit2.step (S3.trans S4) hnoI (λf=>f) λJ=>vI
 have hob:h'.get? s2.heap.objs.size=some (PySem.W.listOf #[] 0):=kp _ _ (Heap.get?_push_size _ rfl)
 refine(λmain=>bV main (zL (nW hitN main))) ?_
 refine xL (n:=n) (cenv:=cenv) OE (hE _ OE) (hI _ OE) ht Ok (U0:=U1) (Y:=Y) hst (a:=s2.heap.objs.size) hw (Nat.ne_of_lt hI2) (by rw[ecl];exact Nat.ne_of_lt (Nat.lt_succ_of_lt hI2)) (by rw[ecl];exact Nat.ne_of_lt (Nat.lt_succ_self _)) (λy c hy=>Nat.ne_of_gt (Nat.lt_of_lt_of_le (hgl y c (by rw[<-ecc];exact hy)) hI1))
  (λy c hy=>Nat.ne_of_gt (Nat.lt_of_lt_of_le (hgl y c (by rw[<-ecc];exact hy)) hs12)) (λy c hy=>by rw[ecl];exact Nat.ne_of_gt (Nat.lt_of_lt_of_le (hgl y c (by rw[<-ecc];exact hy)) (Nat.le_succ_of_le hs12)))
  (Cx.QJ (alJ S1.Q8.size hI1)) (Cx.QJ S2.Q8.size) hcl vs.length 0 (us0:=[]) rfl (Nat.zero_le _) h (by rw[List.length_nil,Nat.zero_add];exact hz) vI S4.Q8 FL hitN hnoI (hno _ (Nat.le_refl _)) hob .nil ?_
 intro us U2 s5 Z5 zs k5 h S5 hob5 hno5 hv5 F5
 refine j0 h λv U' hmk hk=>jX hmk λJ hmk=> ?_
 have S15:zV C Nil Z U s Z5 U2 s5:=((S14.Q7 λx hx=>hx.elim).trans S5).Q7 λy hy=> .inr (hy.elim (λhy=>hy▸alJ hle1 hI1) λhy=>hy.elim (λhy=>hy▸hle) λhy=>by rw[hy,ecl];exact Nat.le_succ_of_le hle)
 have S6:=S15.adopt (o:= .list us) hle hle S2.Q8.size S2.Q8.size hno5 hno5 λext=>⟨rfl,zs,k5,hob5,hv5.keeps ext (Imm.refl _)⟩
 have hnol:¬own (Z5.Rb U2.fr (s2.heap.objs.size,s2.heap.objs.size)) (U2.new (.list us)) cenv.locals:=λo=>by
  exact(GS o).elim (λe=>Nat.succ_ne_self _ (ecl▸e)) F5.RU
 refine xEA F5.ns λm hm J=> ?_
 have hk':K (.c U2.fr) (U2.new (.list us)):=by revert hk;apply fE hmk;exact id
 have jjZ:=q _ _ s5 _ s2.heap.objs.size cenv.locals hk' S6 (.c yG) (by rw[ecl];exact Nat.le_succ_of_le hle) hnol (by refine oN hm λo J J ho hd J=> ?_;exact⟨o,ho,vB hd⟩) (Cx.QJ F5.above)
 cases use with
 |none=>exact⟨m,hm,jjZ⟩
 |some u=>
  refine zX jjZ λJ s'' hz'=>⟨m,?_,hz'.2⟩
  refine Hk hm λo es ep ho r=> ?_
  exact⟨o,es,ep,hz'.1.trans ho,r⟩
theorem Fm{elt tgt it:Expr}{ifs:List Expr}{scope:Scope}{pos:Pos}{k:Nat}{L:z7}{fi fe:FnK}{F:FF}{irs:List IR}{tg:List Nat}{b:Bool}{step:Env->V->St->Cp (Option V)}
  (O:jP env N gl)(hL:jN N k scope.names=some L)(ht:vF L tgt=some (tg,b))(hcok:gV L scope tg=true)(hps:qV it=true)(hit:SE1 C n env N it fi)
  (hE:∀cenv,jP cenv L (jH scope.names)->SE1 C n cenv L elt fe)(hI:∀cenv,jP cenv L (jH scope.names)->Two (λe ir=>ST1 C n cenv L e (F ir)) ifs irs)
  (hst:∀Y v U K,step Y v U K->wR (aL tg b v Y) λY'=>tQ (λir U=>F ir Y' U) irs U λb U=>dL b (fe Y' U (KR K)) (K none U)):
  SE1 C n env N (.ListComp elt [⟨tgt,it,ifs,0⟩] scope pos) (λY U K=>fi Y U (Dv (step Y) tg Y K)):=by
 intro A s Z U Y K Q E Ok R Fr h q
 rw[arm_eval_ListComp]
 refine oV O hL ht hcok hps hit hE hI Ok R Fr (hst Y) h λv U' s' Z' a l hk S r hl hno hst h0=> ?_
 intro h' hb
 have S2:zV C (λx=>x=l) Z' U' s' Z' U' {s' with heap:=h'}:=zV.R1 S.Q8 (λx o hx e=>hb.extBut x o hx e) (Nat.le_of_eq hb.1.symm) hno rfl h0 (λo ho=>by
  obtain⟨o',ho',hs⟩:=hst
  exact alS (ho'.symm.trans ho)▸hs) rfl rfl
 exact q _ _ _ Z' _ hk (((S.Q7 (jjY:=λx=>x=l) λx hx=>hx.elim).trans S2).Q7 λx hx=> .inr (hx▸hl)) (r.keeps S2.ext S2.QH)
end
noncomputable def lZ(e:Expr):Bool:= !Nat.beq e.ctorIdx 26
theorem pM{T:bD}{k m:Nat}{S:Sco}{e:Expr}{ir:IR}(h:cE T k m S e=some ir):(uC e&&(qV e&&lZ e))=true:=by
 cases m with
 |zero=>exact zG h
 |succ m=>cases e<;>first|exact zG h|exact rfl
theorem BZ{T:bD}{k m:Nat}{S:Sco}{e:Expr}{ir:IR}(h:cE T k m S e=some ir):qV e=true:=(alA (alA (pM h)).2).1
theorem tA{i:Expr}(h:lZ i=true)(o x:Value):subscripted i false o x=operate [o,x] (PySem.getItem o x):=by
 cases i<;>first|rfl|exact jG h
structure Calls(C:Cx)(n:Nat)(W:jY)(Φ:Orc):Prop where
 X:y9 C
 F:SF C n Φ
 wA:C.T.j[W.QU]?=some "append"
 wG:C.T.j[W.QS]?=some "get"
 ne:W.QU≠W.QS
section
variable{C:Cx}{n:Nat}{W:jY}{Φ:Orc}
def EO(C:Cx)(n:Nat)(env:PySem.Env)(N:z7)(e:Expr)(f:FnK):Prop:=SE1 C n env N e f/\ST1 C n env N e f
theorem QZ{env:PySem.Env}{N:z7}{e:Expr}{f:FnK}(z:SE1 C n env N e f)(h:isTrue e env (eval e env)=(do let v<-eval e env;standAt e.pos;holding [v] (truthy v))):EO C n env N e f:=⟨z,Il z h⟩
theorem IW{env:PySem.Env}{N:z7}{t:Sem Value}:SE C n env N t (λJ J J=>False):=λJ J J h=>h.elim
theorem Oh{env:PySem.Env}{N:z7}{e:Expr}:EO C n env N e (λJ J J=>False):=⟨IW,λJ J J h=>h.elim⟩
theorem Og{g:Comprehension}(h:g.is_async=0):g=⟨g.target,g.iter,g.ifs,0⟩:=by
 cases g;cases h;rfl
theorem xW{c:Expr->Option IR}{r8:Sco->Expr->Option IR}{N:z7}{k:Nat}{elt:Expr}{gens:List Comprehension}{scope:Scope}{ir:IR}{G:Prop}(h:cLC c r8 N k elt gens scope=some ir)
  (q:∀tgt it ifs L it' tg ifs' elt',gens=[⟨tgt,it,ifs,0⟩]->jN N k scope.names=some L->c it=some it'->vF L tgt=some tg->ifs.mapM (r8 ⟨L,jH scope.names⟩)=some ifs'->r8 ⟨L,jH scope.names⟩ elt=some elt'->
   gV L scope tg.1=true/\qV it=true->IR.comp elt' tg.1 tg.2 it' ifs'=ir->G):G:=
 yU h λg eg h=>zK h λha h=>zB h λL hL h=>zB h λit' hit h=>zB h λtg ht h=>zB h λifs' hifs h=>zB h λelt' helt h=>zK h λhok hz=>
  q g.target g.iter g.ifs L it' tg ifs' elt' (eg.trans (alQ (λx=>[x]) (Og ha))) hL hit ht hifs helt hok (alS hz)
structure nB(C:Cx)(n:Nat)(env:PySem.Env)(N:z7)(W:jY)(Φ:Orc)(mm:Nat)(c:Expr->Option IR):Prop where
 QQ:∀{e ir},c e=some ir->EO C n env N e (λY U=>ev W Φ mm Y ir U)
 pl:∀{e ir},c e=some ir->(uC e&&(qV e&&lZ e))=true
section
variable{env:PySem.Env}{N:z7}{mm:Nat}{c:Expr->Option IR}(jjY:nB C n env N W Φ mm c)
include jjY
theorem nB.val{es:List Expr}{irs:List IR}(h:es.mapM c=some irs):Two (λe ir=>uC e=true/\SE1 C n env N e (λY U=>ev W Φ mm Y ir U)) es irs:=(jF h).map λJ J hb=>⟨(alA (jjY.pl hb)).1,(jjY.QQ hb).1⟩
theorem nB.val1{es:List Expr}{irs:List IR}(h:es.mapM c=some irs):Two (λe ir=>SE1 C n env N e (λY U=>ev W Φ mm Y ir U)) es irs:=(jF h).map λJ J hb=>(jjY.QQ hb).1
theorem nB.tst1{es:List Expr}{irs:List IR}(h:es.mapM c=some irs):Two (λe ir=>ST1 C n env N e (λY U=>ev W Φ mm Y ir U)) es irs:=(jF h).map λJ J hb=>(jjY.QQ hb).2
theorem nB.plS{es:List Expr}{irs:List IR}(h:es.mapM c=some irs):es.all qV=true:=List.all_eq_true.mpr λJ he=>((jF h).mem he).elim λJ q=>(alA (alA (jjY.pl q.2)).2).1
theorem nB.opt{o:Option Expr}{ir:IR}(ho:cO c o=some ir):SE C n env N (valueOrNone (evalOpt o env)) (λY U=>ev W Φ mm Y ir U):=by
 cases o with
 |none=>
  refine alS ho▸ ?_
  cases mm with
  |zero=>exact IW
  |succ mm=>exact oA rfl
 |some e=>exact(jjY.QQ ho).1
end
theorem Df(H:Calls C n W Φ){k mm:Nat}{N:z7}{gl:List Str}{env:PySem.Env}{e:Expr}{ir:IR}{r r8:Sco->Expr->Option IR}(jjY:nB C n env N W Φ mm (r ⟨N,gl⟩))(ih:∀{N gl env} {e ir},r8 ⟨N,gl⟩ e=some ir->jP env N gl->EO C n env N e (λY U=>ev W Φ mm Y ir U))
  (h:cE1 C.T k r r8 ⟨N,gl⟩ e=some ir)(O:jP env N gl):EO C n env N e (λY U=>ev W Φ (mm+1) Y ir U):=by
 cases e with
 |Constant c kk pos=>
  refine xEA (alD h) λv hv e=> ?_
  exact e▸QZ (DB (n:=n) (env:=env) (N:=N) (k:=kk) (pos:=pos) hv) rfl
 |Name x pos=>
  refine kE h λhd h=> ?_
  have hd':(x==("__debug__":Str))=false:=alO hd
  cases hf:N.find? (λy=>y.1==x) with
  |some y=>
   rw[hf] at h
   refine xA (kJ hf) λh1 h2=> ?_
   exact alS h▸QZ (fU (n:=n) (pos:=pos) (k:=y.2.1) O (h2▸h1) hd') rfl
  |none=>
   rw[hf] at h
   refine zK h λhg h=> ?_
   refine xEA (alD h) λv hv e=> ?_
   exact e▸QZ (cQ (n:=n) (pos:=pos) (N:=N) H.X O (List.contains_iff_mem.mp hg) hv hd') rfl
 |Tuple es kk pos=>
  refine xEA (alD h) λirs hv e=> ?_
  exact e▸QZ (IO (k:=kk) (pos:=pos) (jjY.val hv)) rfl
 |List es pos=>
  refine xEA (alD h) λirs hv e=> ?_
  exact e▸QZ (Jz (pos:=pos) (jjY.val hv)) rfl
 |Dict ks vs pos=>
  refine zK h λhl h=>zB h λa ha h=>zB h λb hb h=> ?_
  exact alS h▸QZ (Fb (n:=n) (env:=env) (N:=N) H.X (pos:=pos) ((jF ha).map λo ir ho=>zB ho λe eo ho=>⟨e,eo,(jjY.QQ ho).1⟩) (jjY.val1 hb) hl.1 hl.2) rfl
 |Attribute e a pos=>
  refine zK h λhb h=>zB h λe' he h=>zB h λa' ha h=> ?_
  exact alS h▸QZ (FQ (pos:=pos) H.X hb (dC ha) (jjY.QQ he).1) rfl
 |Subscript e i pos=>
  cases hs:cD i with
  |some x=>
   have h:(pur (r ⟨N,gl⟩ e) λe=>pur (cO (r ⟨N,gl⟩) x.1) λlo=>pur (cO (r ⟨N,gl⟩) x.2) λhi=>some (IR.RN e lo hi))=some ir:=by
    have h:(match cD i with|some x=>_|none=>_)=some ir:=h
    rw[hs] at h;exact h
   refine zB h λe' he h=>zB h λlo' hlo h=>zB h λhi' hhi h=> ?_
   apply i6 hs;intro p
   exact alS h▸QZ (H0 (p:=p) (pos:=pos) (jjY.QQ he).1 (jjY.opt hlo) (jjY.opt hhi)) rfl
  |none=>
   have h:(pur (r ⟨N,gl⟩ e) λe=>pur (r ⟨N,gl⟩ i) λi=>some (IR.sub e i))=some ir:=by
    have h:(match cD i with|some x=>_|none=>_)=some ir:=h
    rw[hs] at h;exact h
   refine zB h λe' he h=>zB h λi' hi h=> ?_
   exact alS h▸QZ (IC (pos:=pos) H.X (tA (alA (alA (jjY.pl hi)).2).2) (jjY.QQ he).1 (jjY.QQ hi).1) rfl
 |BinOp a op b pos=>
  refine zB h λa' ha h=>zB h λb' hb h=> ?_
  exact alS h▸QZ (Ip (op:=op) (pos:=pos) (jjY.QQ ha).1 (jjY.QQ hb).1) rfl
 |UnaryOp op a pos=>
  refine zB h λa' ha h=> ?_
  cases op with
  |USub=>exact alS h▸QZ (H3 (pos:=pos) (jjY.QQ ha).1) rfl
  |Not=>exact alS h▸⟨Jr (pos:=pos) (jjY.QQ ha).1,IA (pos:=pos) (jjY.QQ ha).2⟩
  |_=>exact zG h
 |Compare a ops bs pos=>
  refine zK h λhl h=>zB h λa' ha h=>zB h λbs' hb h=> ?_
  have t:=jjY.val1 hb
  exact alS h▸⟨HZ H.X (pos:=pos) (jjY.plS hb) hl (jjY.QQ ha).1 t,Km H.X (pos:=pos) (jjY.plS hb) hl (jjY.QQ ha).1 t⟩
 |BoolOp op es pos=>
  refine xEA (alD h) λirs hv e=> ?_
  exact e▸⟨FT (pos:=pos) (jjY.val1 hv),EP (jjY.tst1 hv)⟩
 |IfExp c a b pos=>
  refine zB h λc' hc h=>zB h λa' ha h=>zB h λb' hb h=> ?_
  exact alS h▸⟨Lu (pos:=pos) (jjY.QQ hc).2 (jjY.QQ ha).1 (jjY.QQ hb).1,Mk (pos:=pos) (jjY.QQ hc).2 (jjY.QQ ha).2 (jjY.QQ hb).2⟩
 |Call f as ks pos=>
  refine zK h λhk h=>zB h λas' has h=>zK h λh20 hz=> ?_
  have hk:=List.isEmpty_iff.mp hk
  subst hk
  cases hf:Cc f with
  |some x=>
   rw[hf] at hz
   refine zK hz λhb h=>zB h λo' ho h=>zB h λm' hm h=> ?_
   apply nP hf
   exact alS h▸QZ (Gp (pos:=pos) (apos:=x.2.2) H.X (W:=W) hb.1 (beq_iff_eq.mpr hb.2) (dC hm) H.wA H.wG H.ne (fC has▸h20) (jjY.QQ ho).1 (jjY.val has)) rfl
  |none=>
   rw[hf] at hz
   refine zB hz λf' hf' h=> ?_
   have hp:Ca f=true:=by cases f<;>first|rfl|exact nomatch hf
   exact alS h▸QZ (GU (pos:=pos) H.X H.F hp (jjY.QQ hf').1 (jjY.val has)) rfl
 |ListComp elt gens scope pos=>
  refine xW h λtgt it ifs L it' tg ifs' elt' eg hL hit ht hifs helt hok hz=> ?_
  subst eg
  exact hz▸QZ (Fm (n:=n) (pos:=pos) O hL ht hok.1 hok.2 (jjY.QQ hit).1 (λcenv OC=>(ih helt OC).1) (λcenv OC=>(jF hifs).map λa b hb=>(ih hb OC).2) (λJ J J J h=>h)) rfl
 |_=>exact zG h
theorem aI(H:Calls C n W Φ)(m:Nat):∀{k mm:Nat} {N:z7} {gl:List Str} {env:PySem.Env} {e:Expr} {ir:IR},cE C.T k m ⟨N,gl⟩ e=some ir->jP env N gl->EO C n env N e (λY U=>ev W Φ mm Y ir U):=by
 induction m with
 |zero=>exactλh=>zG h
 |succ m ih=>
  intro k mm N gl env e ir h O
  cases mm with
  |zero=>exact Oh
  |succ mm=>exact Df H ⟨λh=>ih h O,pM⟩ ih h O
end
section
variable{C:Cx}{A:Around}{s:Shared}{Z:Emb}{U:St}{env:PySem.Env}{N:z7}{gl:List Str}{Y:Env}{E:Value->Shared->Prop}{n:Nat}
theorem EZ{I:Addr}{v:V}{vs:List V}{lo:Option Loc}(hh:A.handled=none)(h0:qM v U=some (vs,lo))(hI0:C.h0.get? I=none)(hI:¬own Z U I)(n:Nat):∀(i:Nat) {s:Shared} {Q:List Value->Shared->Prop},jO C Z U I s.heap v i->Rel C Z U s.heap->i+n<=vs.length->
  (∀s' ys,zV C (λb=>b=I) Z U s Z U s'->jO C Z U I s'.heap v (i+n)->zW C Z s'.heap ((vs.drop i).take n) ys->Q ys s')->wpAny (Mo C) A (draw (.ref I) n) Q E s:=by
 induction n with
 |zero=>exactλi s Q hit R hl q=>wpAny_pure (q s [] (zV.refl R) hit (by rw[List.take_zero];exact .nil))
 |succ n ih=>
  intro i s Q hit R hl q
  have hlt:i<vs.length:=Nat.lt_of_lt_of_le (Nat.lt_add_of_pos_right (Nat.succ_pos n)) hl
  have e:i+(n+1)=i+1+n:=by omega
  rw[e] at hl q
  show wpAny _ _ (pyNext (.ref I)>>=_) Q E s
  refine wpAny_bind (aG hh R hit hI hI0 h0 ?_)
  rw[List.getElem?_eq_getElem hlt]
  intro s1 y S1 ry hit1
  refine wpAny_bind (wpAny_holding (ih (i+1) hit1 S1.Q8 hl λs2 ys S2 hit2 rys=>wpAny_pure (q s2 (y::ys) (S1.trans S2) hit2 ?_)))
  rw[List.drop_eq_getElem_cons hlt,List.take_succ_cons]
  exact .cons (ry.keeps S2.ext S2.QH) rys
theorem dR{v:V}{vs:List V}(h:bC v U=some vs):∃lo,qM v U=some (vs,lo):=
 yN h (λJ J h=>zG h) (λJ J h=>zG h) (λl e h=>by rw[e,<-alS h];exact⟨_,rfl⟩) (λJ J h=>zG h) λl e h=>by rw[e];exact⟨_,aD (i8 h)⟩
theorem fP{v:V}{y:Value}{vs:List V}{Q:Bool->Shared->Prop}(R:Rel C Z U s.heap)(hv:zS C Z s.heap v y)(h:bC v U=some vs)(hq:Q false s):wpAny (Mo C) A (notIterableAtAll y) Q E s:=by
 unfold notIterableAtAll
 refine yN h (λJ J h=>zG h) (λJ J h=>zG h) (λl e h=> ?_) (λJ J h=>zG h) λl e h=> ?_
 ·apply(e▸hv).QR;intro p xs ht _
  exact wpAny_bind (wpAny_specialOf ht.typeIs PyProof.Rows.slot_tuple_iter.lookup (wpAny_pure hq))
 ·apply(e▸hv).QK;intro p hp
  refine vE (yE R (i8 h) hp) λxs k ho J=> ?_
  exact wpAny_bind (wpAny_specialOf ⟨_,ho,rfl⟩ PySem.F.slot_list_iter.lookup (wpAny_pure hq))
theorem wC{v:V}{y:Value}{vs:List V}{Q:List Value->Shared->Prop}(hh:A.handled=none)(R:Rel C Z U s.heap)(hv:zS C Z s.heap v y)(h:bC v U=some vs)(q:∀s' ys,zV C Nil Z U s Z U s'->zW C Z s'.heap vs ys->Q ys s'):
  wpAny (Mo C) A (unpackItems y vs.length none) Q E s:=by
 refine xE (dR h) λlo hi=> ?_
 unfold unpackItems
 refine wpAny_bind (fP R hv h (wpAny_bind (wpAny_holding (cJ R hv hi λI s1 S1 hI1 hI2 hit=> ?_))))
 have hI0:C.h0.get? I=none:=Cx.QJ (alJ R.size hI1)
 have hno:¬own Z U I:=yI R hI1
 refine wpAny_bind (wpAny_holding (EZ hh hi hI0 hno vs.length 0 hit S1.Q8 (Nat.le_of_eq (Nat.zero_add _)) λs2 ys S2 hit2 rys=> ?_))
 rw[List.drop_zero,List.take_of_length_le (Nat.le_refl _)] at rys
 rw[if_neg (by rw[rys.length];exact Nat.lt_irrefl _)]
 refine wpAny_bind (wpAny_holding (aG hh S2.Q8 hit2 hno hI0 hi ?_))
 rw[Nat.zero_add,List.getElem?_eq_none (Nat.le_refl _)]
 intro s3 S3
 exact wpAny_pure (q s3 ys (((S1.Q7 (jjY:=λb=>b=I) λJ f=>f.elim).trans (S2.trans S3)).Q7 λx hx=> .inr (hx▸hI1)) (rys.keeps S3.ext S3.QH))
theorem qW{x:Str}{i:Nat}(h:qN N x=some i):∃k,(x,k,i)∈N:=by
 refine xEA (alD h) λr hr e=> ?_
 refine xA (kJ hr) λh1 h2=> ?_
 exact⟨r.2.1,h2▸e▸h1⟩
theorem iY(O:jP env N gl){es:List Expr}{tg:List Nat}(h:es.mapM (bJ N)=some tg):Two (rJ C U env N (Own env)) es tg:=(jF h).map λe i h=>zB h λx ex h=>by
 obtain⟨pos,e⟩:=yM ex
 obtain⟨k,hk⟩:=qW h
 exact⟨x,pos,e,λR F r q=>yJ O R F hk r q⟩
theorem lO{W:jY}{Φ:Orc}{K:Env->St->Prop}{l:List Nat}:∀{vs:List V} {Y:Env} {U:St},El (Q0 W Φ n) (l.map .v) vs Y U K->l.length=vs.length/\K ((l.zip vs).foldl (λY p=>Y.set p.1 (some p.2)) Y) U:=by
 induction l with
 |nil=>exactλh=>j1 h λe h=>⟨by rw[List.isEmpty_iff.mp e];rfl,h⟩
 |cons i l ih=>
  intro vs Y U h
  cases vs with
  |nil=>exact h.elim
  |cons v vs=>
   have z:El (Q0 W Φ n) (l.map .v) vs (Y.set i (some v)) U K:=by
    cases n with
    |zero=>exact False.elim h
    |succ n=>exact j1 h λJ h=>h
   exact⟨alQ Nat.succ (ih z).1,(ih z).2⟩
abbrev PQ(C:Cx)(env:PySem.Env)(N:z7)(Z:Emb)(U:St)(s:Shared)(K:Env->St->Prop)(Q:Unit->Shared->Prop):Prop:=
 ∀Y' U' s' Z',K Y' U'->zV C (Own env) Z U s Z' U' s'->FrI C Z' U' s'.heap env N Y'->Q () s'
def TG(C:Cx)(n:Nat)(env:PySem.Env)(N:z7)(t:Expr)(f:V->Env->St->Cp2):Prop:=
 ∀{A:Around} {s:Shared} {Z:Emb} {U:St} {Y:Env} {v:V} {y:Value} {K:Env->St->Prop} {Q:Unit->Shared->Prop} {E:Value->Shared->Prop},
  kO n A->Rel C Z U s.heap->FrI C Z U s.heap env N Y->zS C Z s.heap v y->f v Y U K->PQ C env N Z U s K Q->wpC (Mo C) A (assign t env y) Q E s
theorem w3{Z':Emb}{U':St}{s':Shared}(S:zV C Nil Z U s Z' U' s'):zV C (Own env) Z U s Z' U' s':=S.Q7 λJ f=>f.elim
theorem Nv{W:jY}{Φ:Orc}(H:Calls C n W Φ){m k:Nat}{t:Expr}{tg:Tg}{mm:Nat}(O:jP env N gl)(h:cT C.T k ⟨N,gl⟩ m t=some tg):TG C n env N t (Q0 W Φ mm tg):=by
 intro A s Z U Y v y K Q E Ok R F hv hf q
 cases m with
 |zero=>exact zG h
 |succ m=>
 cases mm with
 |zero=>exact False.elim hf
 |succ mm=>
 cases t with
 |Name x pos=>
  refine xEA (alD h) λi hi e=> ?_
  refine xE (qW hi) λkk hm=> ?_
  subst e
  exact j1 hf λJ hk=>zL (yS (yJ O R F hm hv λs1 S1 F1=>q _ _ s1 Z hk S1 F1))
 |Attribute e a pos=>
  refine zB h λe' he h=>zB h λa' ha h=> ?_
  have e0:=alS h
  subst e0
  rw[arm_assign_Attribute]
  exact zA (zF ((aI H m (mm:=mm) he O).1 Ok R F hf λo U1 s1 Z1 x hf S1 r1=>zQ hf λU2 h2 hk=>
   z6 (zA (zF (zL (rP H.X S1.Q8 r1 (hv.keeps S1.ext S1.QH) (dC ha) h2 λs2 S2=>zL (wpAny_release' (q _ _ _ _ hk (w3 (S1.trans S2)) (F.Q5 (S1.trans S2))))))))))
 |Subscript e i pos=>
  refine zB h λe' he h=>zB h λi' hi h=> ?_
  have e0:=alS h
  subst e0
  rw[arm_assign_Subscript]
  refine zA (zF ((aI H m (mm:=mm) he O).1 Ok R F hf λo U1 s1 Z1 x hf S1 r1=> ?_))
  refine zA (zF ((aI H m (mm:=mm) hi O).1 Ok S1.Q8 (F.Q5 S1) hf λk U2 s2 Z2 z hf S2 r2=>zQ hf λU3 h3 hk=> ?_))
  have S12:=S1.trans S2
  exact z6 (zA (zF (zL (sX H.X S2.Q8 (r1.keeps S2.ext S2.QH) r2 (hv.keeps S12.ext S12.QH) (Ok.cl (k:=130) (by decide)) h3 λs3 S3=>
   zL (wpAny_release' (q _ _ _ _ hk (w3 (S12.trans S3)) (F.Q5 (S12.trans S3))))))))
 |Tuple es kk pos=>
  refine zB h λl hl h=>zK h λhnd h=> ?_
  have e0:=alS h
  subst e0
  refine zQ hf λvs h1 hf=> ?_
  refine xA (lO hf) λh2 hk=> ?_
  have al:=iY (C:=C) (U:=U) O hl
  refine xA (eT al) λh3 h4=> ?_
  rw[arm_assign_Tuple]
  refine z6 (zL ?_)
  unfold unpack
  rw[h3,h4,h2]
  exact wpAny_bind (wpAny_holding (wC Ok.1 R hv h1 λs1 ys S1 r1=>lQ al h2 S1.Q8 (F.Q5 S1) r1 λs2 S2 F2=>q _ _ s2 Z hk ((w3 S1).trans S2) F2))
 |_=>exact zG h
end
inductive sS(C:Cx)(Z:Emb)(h:Heap):Fl->Flow->Prop
 |next:sS C Z h .next .next
 |brk:sS C Z h .brk .brk
 |ret {v y}:zS C Z h v y->sS C Z h (.ret v) (.ret y)
abbrev KO(C:Cx)(env:PySem.Env)(N:z7)(Z:Emb)(U:St)(s:Shared)(K:KF)(Q:Flow->Shared->Prop):Prop:=
 ∀fl Y' U' s' Z' w,K fl Y' U'->zV C (Own env) Z U s Z' U' s'->FrI C Z' U' s'.heap env N Y'->sS C Z' s'.heap fl w->Q w s'
def SX(C:Cx)(n:Nat)(env:PySem.Env)(N:z7)(t:Sem Flow)(f:BdF):Prop:=
 ∀{A:Around} {s:Shared} {Z:Emb} {U:St} {Y:Env} {K:KF} {Q:Flow->Shared->Prop} {E:Value->Shared->Prop},
  kO n A->Rel C Z U s.heap->FrI C Z U s.heap env N Y->f Y U K->KO C env N Z U s K Q->wpC (Mo C) A t Q E s
section
variable{C:Cx}{A:Around}{s:Shared}{Z:Emb}{U:St}{env:PySem.Env}{N:z7}{gl:List Str}{Y:Env}{E:Value->Shared->Prop}{n:Nat}
theorem KO.go{K:KF}{Q:Flow->Shared->Prop}(q:KO C env N Z U s K Q){Z1:Emb}{U1:St}{s1:Shared}(S:zV C (Own env) Z U s Z1 U1 s1):KO C env N Z1 U1 s1 K Q:=λJ J J J J J hk S'=>q _ _ _ _ _ _ hk (S.trans S')
theorem sxs{F:IS->BdF}{body:List Stmt}{irs:List IS}(h:Two (λst ir=>SX C n env N (exec st env) (F ir)) body irs):SX C n env N (execs body env) (exs F irs):=by
 induction h with
 |nil=>
  intro A s Z U Y K Q E O R Fr h q
  rw[arm_execs_nil]
  exact zD (q _ _ _ _ _ .next h (zV.refl R) Fr .next)
 |cons h1 hr ih=>
  intro A s Z U Y K Q E O R Fr h q
  rw[arm_execs_cons]
  refine zA (h1 O R Fr h λx Y1 U1 s1 Z1 w h S1 F1 r1=> ?_)
  cases r1 with
  |next=>exact ih O S1.Q8 F1 h (q.go S1)
  |brk=>exact zD (q _ _ _ _ _ .brk h S1 F1 .brk)
  |ret r1=>exact zD (q _ _ _ _ _ (.ret _) h S1 F1 (.ret r1))
theorem NT{c:Expr}{a b:List Stmt}{pos:Pos}{fc:FnK}{fa fb:BdF}(hc:ST1 C n env N c fc)(ha:SX C n env N (execs a env) fa)(hb:SX C n env N (execs b env) fb):
  SX C n env N (exec (.If c a b pos) env) (λY U K=>fc Y U (Kq (fa Y) (fb Y) K)):=by
 intro A s Z U Y K Q E O R F h q
 rw[arm_exec_If]
 refine z6 (zA (hc O R F h λv U1 s1 Z1 h S1=>zQ h λt ht h=>⟨t,ht,?_⟩))
 cases t with
 |true=>exact ha O S1.Q8 (F.Q5 S1) h (q.go (w3 S1))
 |false=>exact hb O S1.Q8 (F.Q5 S1) h (q.go (w3 S1))
theorem Ks{pos:Pos}:SX C n env N (exec (.Break pos) env) (λY U K=>K .brk Y U):=by
 intro A s Z U Y K Q E O R F h q
 rw[arm_exec_Break]
 exact z6 (zD (q _ _ _ _ _ .brk h (zV.refl R) F .brk))
theorem IF{e:Expr}{pos:Pos}{f:FnK}(he:SE1 C n env N e f):SX C n env N (exec (.Return (some e) pos) env) (λY U K=>f Y U (kRt Y K)):=by
 intro A s Z U Y K Q E O R F h q
 rw[arm_exec_Return]
 exact z6 (zA (m:=eval e env) (he O R F h λx U1 s1 Z1 y h S1 r1=>zD (q _ _ _ _ _ (.ret y) h (w3 S1) (F.Q5 S1) (.ret r1))))
theorem GW{pos:Pos}:SX C n env N (exec (.Return none pos) env) (λY U K=>K (.ret .none) Y U):=by
 intro A s Z U Y K Q E O R F h q
 rw[arm_exec_Return]
 exact z6 (zD (q _ _ _ _ _ (.ret .none) h (zV.refl R) F (.ret .none)))
theorem eP{e:Expr}{l:Nat}(h:pH e=true):swapsWith e none l env=pure false:=by
 cases e<;>first|rfl|exact jG h
theorem AU{e:Expr}{pos:Pos}:dropValue e pos .none=pure .next:=by cases e<;>rfl
theorem FV(O:jP env N gl){e:Expr}{pos:Pos}{f:FnK}(hp:pH e=true)(he:SE1 C n env N e f):
  SX C n env N (exec (.Expr e pos) env) (λY U K=>f Y U (Nb Y K)):=by
 intro A s Z U Y K Q E Ok R F h q
 rw[arm_exec_Expr,eP hp]
 have hint:interactive env=false:=by unfold interactive;rw[O.kind];rfl
 rw[hint]
 refine z6 (zA (zD (zA (he Ok R F h λx U1 s1 Z1 y h S1 r1=>j1 h λhn hk=> ?_))))
 apply r1.Rm hn
 rw[AU]
 exact zD (q _ _ _ _ _ .next hk (w3 S1) (F.Q5 S1) .next)
theorem J7(X:y9 C){e i:Expr}{p pos:Pos}{f g:FnK}(he:SE1 C n env N e f)(hi:SE1 C n env N i g):
  SX C n env N (exec (.Delete [.Subscript e i p] pos) env) (λY U K=>f Y U λa U=>g Y U (Kk Y K a)):=by
 intro A s Z U Y K Q E O R F h q
 rw[arm_exec_Delete]
 refine z6 ?_
 rw[arm_deleteEach_cons,arm_delete_Subscript]
 exact zA (zA (zA (he O R F h λx U1 s1 Z1 vx h S1 r1=>zA (zF (hi O S1.Q8 (F.Q5 S1) h λy U2 s2 Z2 vy h S2 r2=>zQ h λU3 h3 hk=>
  z6 (zA (zF (zL (r9 X S2.Q8 (r1.keeps S2.ext S2.QH) r2 (O.cl (k:=130) (by decide)) h3 λs3 S3=>
   zL (wpAny_release' (zD (zD (q _ _ _ _ _ .next hk (w3 ((S1.trans S2).trans S3)) (F.Q5 ((S1.trans S2).trans S3)) .next)))))))))))))
theorem tG{op:Operator}(h:JH op=true){G:Operator->Prop}(k:G .Add):G op:=by cases op<;>first|exact k|exact jG h
theorem Kp(O:jP env N gl){x:Str}{k:NameKind}{i:Nat}{e:Expr}{op:Operator}{np pos:Pos}{f:FnK}(hx:(x,k,i)∈N)(he:SE1 C n env N e f):
  SX C n env N (exec (.AugAssign (.Name x np) op e pos) env) (λY U K=>wR (kP Y i) λx=>f Y U (Hj op i Y K x)):=by
 intro A s Z U Y K Q E Ok R F h q
 rw[arm_exec_AugAssign]
 refine zQ h λu hu h=>z6 (zM (yH O F hx (uY hu) λz rz=>zA (zF (he Ok R F h λy U1 s1 Z1 w h S1 r1=>j1 h λha h=>zQ h λc hc hk=>iK hc λa b e1 e2 hc=> ?_))))
 apply tG ha
 have hc:=alS hc
 subst hc
 apply(e1▸rz).QP;intro t
 apply(e2▸r1).QP;intro t'
 have S2:=S1.trans (jL (X:=Nil) (t:=s1.toks+1) S1.Q8)
 refine z6 (zA (vR (zL (PySem.AutoIntOps.iadd_0 (z6 (zA (zL (wO (yJ O S2.Q8 (F.Q5 S2) hx (zS.int _ _) λs3 S3 F3=> ?_)))))))))
 exact zD (q _ _ _ _ _ .next hk ((w3 S2).trans S3) F3 .next)
end
theorem zW.reverse{C:Cx}{Z:Emb}{h:Heap}{vs xs}(r:zW C Z h vs xs):zW C Z h vs.reverse xs.reverse:= .of r.al.reverse
noncomputable abbrev uA(l:List (Nat×V))(Y:Env):Env:=l.foldl (λY p=>Y.set p.1 (some p.2)) Y
theorem tR{l:List (Nat×V)}{p:Nat×V}:∀{Y:Env},(∀q∈l,q.1≠p.1)->uA l (Y.set p.1 (some p.2))=(uA l Y).set p.1 (some p.2):=by
 induction l with
 |nil=>exactλJ=>rfl
 |cons q l ih=>
  intro Y h
  show uA l ((Y.set p.1 (some p.2)).set q.1 (some q.2))=_
  rw[List.set_comm _ _ (Ne.symm (h q (.head _)))]
  exact ih λr hr=>h r (.tail _ hr)
theorem sY{l:List (Nat×V)}:∀{Y:Env},(l.map (·.1)).Nodup->uA l.reverse Y=uA l Y:=by
 induction l with
 |nil=>exactλJ=>rfl
 |cons p l ih=>
  intro Y h
  rw[List.map_cons,List.nodup_cons] at h
  show List.foldl _ Y (p::l).reverse=uA l (Y.set p.1 (some p.2))
  rw[List.reverse_cons,List.foldl_append,tR λq hq e=>h.1 (List.mem_map.mpr ⟨q,hq,e⟩)]
  exact alQ (λY:Env=>Y.set p.1 (some p.2)) (ih h.2)
section
variable{C:Cx}{A:Around}{s:Shared}{Z:Emb}{U:St}{env:PySem.Env}{N:z7}{gl:List Str}{Y:Env}{E:Value->Shared->Prop}{n:Nat}
theorem Dm(O:jP env N gl){xs:List Str}{is:List Nat}(h:Two (λx i=>∃k,(x,k,i)∈N) xs is):∀{vs:List V} {ys:List Value} {Y:Env} {s:Shared} {Q:Unit->Shared->Prop},is.length=vs.length->
  Rel C Z U s.heap->FrI C Z U s.heap env N Y->zW C Z s.heap vs ys->
  (∀s',zV C (Own env) Z U s Z U s'->FrI C Z U s'.heap env N (uA (is.zip vs) Y)->Q () s')->wpAny (Mo C) A (assignInOrder (xs.map λx=>bindName env x) ys) Q E s:=by
 induction h with
 |nil=>
  intro vs ys Y s Q hl R F hv q
  exact wpAny_pure (q _ (zV.refl R) F)
 | @cons x i xs is hx hr ih=>
  intro vs ys Y s Q hl R F hv q
  refine xE hx λk hx=> ?_
  cases hv with
  |nil=>exact Nat.noConfusion hl
  | @cons v y vs ys r1 hv=>
   refine wpAny_bind (m:=holding ys (bindName env x y)) (wpAny_holding (wO (yJ O R F hx r1 λs1 S1 F1=> ?_)))
   exact ih (Nat.succ.inj hl) S1.Q8 F1 (hv.keeps S1.ext S1.QH) λs2 S2 F2=>q s2 (S1.trans S2) F2
theorem BX{f:Expr->Option Str}(hf:∀x pos y,f (.Name x pos)=some y->y=x){es:List Expr}:∀{l:List Nat},es.mapM (bJ N)=some l->(es.filterMap f).length=es.length->Two (λx i=>∃k,(x,k,i)∈N) (es.filterMap f) l:=by
 intro l h
 have a:=jF h
 clear h
 induction a with
 |nil=>exactλJ=> .nil
 | @cons e i es l h1 _ ih=>
  intro hl
  cases hfe:f e with
  |none=>
   rw[List.filterMap_cons_none hfe] at hl
   exact absurd (hl▸List.length_filterMap_le f es) (Nat.not_succ_le_self _)
  |some y=>
   rw[List.filterMap_cons_some hfe] at hl ⊢
   refine .cons (zB h1 λx ex h=> ?_) (ih (Nat.succ.inj hl))
   refine xE (yM ex) λpos e=> ?_
   exact hf x pos y (e▸hfe)▸qW h
def wS(N:z7)(es:List Expr)(t:Sem (Option (List Str))):Prop:=t=pure none\/∃names,t=pure (some names)/\∀l,es.mapM (bJ N)=some l->Two (λx i=>∃k,(x,k,i)∈N) names l
theorem gT{c:Prop}[Decidable c]{α:Type}{x y:α}{P:α->Prop}(h1:c->P x)(h2:¬c->P y):P (if c then x else y):=by
 by_cases q:c
 ·rw[if_pos q];exact h1 q
 ·rw[if_neg q];exact h2 q
theorem nE{es vs:List Expr}{kk k2 tp vp}(hca:¬vs.all (constantsAlone 8)=true):wS N es (swappedStores [.Tuple es kk tp] (.Tuple vs k2 vp) env):=by
 unfold swappedStores
 refine gT (P:=wS N es) (λJ=> .inl rfl) λJ=>gT (P:=wS N es) (λJ=> .inl rfl) λJ=>gT (P:=wS N es) (λJ=> .inl rfl) λh=>gT (P:=wS N es) (λJ=> .inl rfl) λJ=>gT (P:=wS N es) (λh=>absurd h hca) λJ=> .inr ⟨_,rfl,λl hl=>BX (λx pos y he=> ?_) hl ?_⟩
 ·exact zK he λJ he=>(alS he).symm
 ·exact Decidable.not_not.mp λq=>h (Bool.or_eq_true_iff.mpr (.inl (bne_iff_ne.mpr q)))
theorem gC{t e:Expr}{es:List Expr}(hok:xC t e=true)(ht:gF t=some es):wS N es (swappedStores [t] e env):=by
 revert hok
 apply k9 ht
 intro kk tp hok
 cases e<;>first|exact .inl rfl|exact nE λh=>(by rw[xC] at hok;exact Bool.noConfusion (hok.symm.trans (alQ not h)))
theorem sA{t e:Expr}(ht:gF t=none){T:bD}{k m:Nat}{S:Sco}{tg:Tg}(h:cT T k S m t=some tg):swappedStores [t] e env=pure none:=by
 cases m with
 |zero=>exact zG h
 |succ m=>cases t<;>first|exact zG h|rfl|exact nomatch ht
theorem sV{e t:Expr}{elt gens scope p}{l:Nat}:∃b,swapsWithSole [t] (.ListComp elt gens scope p) l env=pure b/\(b=true->∃x,vL t=some x):=by
 cases t<;>first|exact⟨_,rfl,λJ=>⟨_,rfl⟩⟩|exact⟨false,rfl,λh=>jG h⟩
theorem l5{T:bD}{k m:Nat}{S:Sco}{t e:Expr}{ir:IR}{l:Nat}(he:cE T k (m+1) S e=some ir):∃b,swapsWithSole [t] e l env=pure b/\(b=true->∃elt gens scope p x,e= .ListComp elt gens scope p/\vL t=some x):=by
 cases e<;>first
  |exact zG he
  |exact⟨false,rfl,λh=>jG h⟩
  |exact(sV (e:=t)).imp λb q=>⟨q.1,λh=>(q.2 h).elim λx hx=>⟨_,_,_,_,x,rfl,hx⟩⟩
theorem jD0{t:Expr}{T:bD}{k m:Nat}{S:Sco}{tg:Tg}(h:cT T k S m t=some tg):(assignEach [t] env).map (·.2)=[assign t env]:=by
 cases m with
 |zero=>exact zG h
 |succ m=>cases t<;>first|rfl|exact zG h
theorem Hd{W:jY}{Φ:Orc}(H:Calls C n W Φ)(O:jP env N gl){k m mm:Nat}{t e:Expr}{pos:Pos}{tg:Tg}{ir:IR}(ht:cT C.T k ⟨N,gl⟩ m t=some tg)(he:cE C.T k m ⟨N,gl⟩ e=some ir)(hok:xC t e=true):
  SX C n env N (exec (.Assign [t] e pos) env) (λY U K=>ev W Φ mm Y ir U (E9 (Q0 W Φ mm tg) Y K)):=by
 intro A s Z U Y K Q E Ok R F h q
 cases m with
 |zero=>exact zG he
 |succ m=>
 rw[arm_exec_Assign,jD0 ht]
 refine z6 ?_
 refine xEA (l5 (env:=env) (t:=t) (l:=pos.line) he) λb hb hbt=> ?_
 rw[hb]
 refine zA (zD ?_)
 cases b with
 |true=>
  refine qI (hbt rfl) λelt gens scope p x e_5 hx=> ?_
  subst e_5
  refine xE (yM hx) λpx e_1=> ?_
  subst e_1
  refine xW he λtgt it ifs L it' tg' ifs' elt' eg hL hit htg hifs helt hcok hz=> ?_
  subst eg hz
  refine xEA (alD (show(qN N x).map Tg.v=some tg from ht)) λi hi e0=> ?_
  subst e0
  refine xE (qW hi) λkk hm=> ?_
  cases mm with
  |zero=>exact False.elim h
  |succ mm=>
  refine zA (zA (oV (n:=n) (use:=some λv=>assignAll v [assign (.Name x px) env]) O hL htg hcok.1 hcok.2 (aI H m (mm:=mm) hit O).1 (λcenv OC=>(aI H m (mm:=mm) helt OC).1)
   (λcenv OC=>(jF hifs).map λa b hb=>(aI H m (mm:=mm) hb OC).2) Ok R F (λJ J J h=>h) h λv U' s' Z' a l hk S r hl hno hst h0=>j1 hk λJ hk=> ?_))
  show wpC _ _ (assign (.Name x px) env (.ref a)) _ _ _
  refine zL (yS (yJ O S.Q8 (F.Q5 S) hm r λs2 S2 F2=> ?_))
  refine xEA hst λo ho hs=> ?_
  have hOwn:¬Own env l:=λe=>e.elim (λe=>absurd (e▸F.lt) (Nat.not_lt.mpr hl)) λ⟨y,hy⟩=>absurd (F.low y l hy) (Nat.not_lt.mpr hl)
  have hg:=S2.keep l o ho hno hOwn
  refine⟨hg.trans ho.symm,λh' hb=> ?_⟩
  have S3:zV C (λx=>x=l) Z' _ s2 Z' _ {s2 with heap:=h'}:=zV.other S2.Q8 hb hno rfl h0 (λo' ho'=>alS (hg.symm.trans ho')▸hs) rfl rfl
  refine zD (zD (q _ _ _ _ _ .next hk ((((S.Q7 λJ f=>f.elim).trans (S2.Q7 λy hy=> .inl (.inr hy))).trans (S3.Q7 (jjY:=λy=>y=l\/Own env y) λy hy=> .inl (.inl hy))).Q7 λy hy=> ?_)
   (F2.step S3 λy hy=>hy▸⟨λe=>hOwn (.inl e),λz c hz e=>hOwn (.inr ⟨z,e▸hz⟩)⟩) .next))
  exact hy.elim (λhy=> .inr (hy▸hl)) .inl
 |false=>
  refine zA ((aI H (m+1) (mm:=mm) he O).1 Ok R F h λv U1 s1 Z1 y h S1 r1=> ?_)
  have plain:wpC (Mo C) A (assignStores env y none [assign t env]) Q E s1:=zA (m:=assign t env y) (Nv H O ht Ok S1.Q8 (F.Q5 S1) r1 h λY2 U2 s2 Z2 hk S2 F2=>zD (q _ _ _ _ _ .next hk ((w3 S1).trans S2) F2 .next))
  cases ht0:gF t with
  |none=>
   rw[sA ht0 ht]
   exact zA (zD plain)
  |some es=>
  rcases gC (env:=env) (N:=N) hok ht0 with hsw|⟨names,hsw,htwo⟩
  ·rw[hsw]
   exact zA (zD plain)
  ·rw[hsw]
   clear plain hok hsw hb hbt
   revert ht
   apply k9 ht0
   intro kk tp ht
   refine zB ht λl hl ht=>zK ht λhnd ht=> ?_
   have e0:=alS ht
   subst e0
   have htwo:=htwo l hl
   refine zA (zD ?_)
   cases mm with
   |zero=>exact False.elim h
   |succ mm=>
   refine zQ h λvs h3 h=> ?_
   refine xA (lO h) λh4 hk=> ?_
   refine zA (bN (zM ?_))
   rw[htwo.length,h4]
   refine wC Ok.1 S1.Q8 r1 h3 λs2 ys S2 r2=>zA (zL (Dm O htwo.reverse (vs:=vs.reverse) (by rw[List.length_reverse,List.length_reverse,h4]) S2.Q8 (F.Q5 (S1.trans S2)) r2.reverse λs3 S3 F3=> ?_))
   refine zD (q _ _ _ _ _ .next hk ((w3 (S1.trans S2)).trans S3) ?_ .next)
   have e1:(l.reverse.zip vs.reverse)=(l.zip vs).reverse:=(List.reverse_zipWith h4).symm
   rw[e1,sY (by rw[List.map_fst_zip (Nat.le_of_eq h4)];exact vS hnd)] at F3
   exact F3
end
section
variable{C:Cx}{env:PySem.Env}{N:z7}{gl:List Str}{n:Nat}
theorem lM{I:Addr}(hIO:¬Own env I):∀x,x=I->x≠env.locals/\∀z c,env.cells.lookup z=some c->x≠c:=λJ hx=>⟨λe=>hIO (.inl (hx▸e)),λz J hz e=>hIO (.inr ⟨z,hx▸e▸hz⟩)⟩
theorem gX{Z:Emb}{U:St}{h:Heap}{Y:Env}(F:FrI C Z U h env N Y){I:Addr}(hI:h.objs.size<=I):¬Own env I:=
 λe=>e.elim (λe=>absurd (e▸F.lt) (Nat.not_lt.mpr hI)) λ⟨z,hz⟩=>absurd (F.low z I hz) (Nat.not_lt.mpr hI)
theorem zV.QX{X:Addr->Prop}{Z Z':Emb}{U U':St}{s s':Shared}{I:Addr}(S:zV C X Z U s Z' U' s')(hI:¬own Z U I)(h:I<s.heap.objs.size):¬own Z' U' I:=λo=>(S.QY _ o).elim hI λo=>absurd h (Nat.not_lt.mpr o)
theorem jO.lt{Z:Emb}{U:St}{I:Addr}{h:Heap}{v:V}{i:Nat}(x:jO C Z U I h v i):I<h.objs.size:=x.still.elim λJ ⟨_,ho,_⟩=>Heap.lt_size ho
theorem Cv{tgt:Expr}{body:List Stmt}{fb:BdF}{tg:List Nat}{b:Bool}(OE:jP env N gl)(ht:vF N tgt=some (tg,b))(hb:SX C n env N (execs body env) fb)
  {A:Around}(O:kO n A){v:V}{lo:Option Loc}{U0:St}{I:Addr}(hIO:¬Own env I)(hI0:C.h0.get? I=none){K:KF}{R:Result->Shared->Prop}:
  ∀(l:List V) {vs:List V} {i:Nat} {s:Shared} {Z:Emb} {U:St} {Y:Env},qM v U0=some (vs,lo)->vs.drop i=l->aE fb (jI U0 lo) tg b l Y U K->
   kN U0 U lo=true->Rel C Z U s.heap->FrI C Z U s.heap env N Y->jO C Z U I s.heap v i->¬own Z U I->
   (∀fl Y' U' s' Z' w,K fl Y' U'->zV C (λx=>x=I\/Own env x) Z U s Z' U' s'->FrI C Z' U' s'.heap env N Y'->sS C Z' s'.heap fl w->R (.ok w) s')->
   jK (Mo C) A (.forLoop tgt (.ref I) body [] env) R s:=by
 have hFI:=lM hIO
 intro l
 induction l with
 |nil=>
  intro vs i s Z U Y h0 hd hc hs hR hF hit hI q
  refine w2 (zL (aG O.1 hR hit hI hI0 (uZ h0 hs) ?_))
  rw[List.getElem?_eq_none (List.drop_eq_nil_iff.mp hd)]
  exactλs' S=>q _ _ _ s' Z .next hc (S.Q7 λx hx=> .inl (.inl hx)) (hF.step S hFI) .next
 |cons u l ih=>
  intro vs i s Z U Y h0 hd hc hs hR hF hit hI q
  refine zQ hc λY1 hb1 hc=> ?_
  have hit0:=uZ h0 hs
  refine w2 (zL (aG O.1 hR hit hI hI0 hit0 ?_))
  have hu:vs[i]?=some u:=by rw[<-List.head?_drop,hd];rfl
  have hd1:vs.drop (i+1)=l:=by rw[<-List.tail_drop,hd];rfl
  rw[hu]
  intro s1 y S1 ry hit1
  refine zL (pW hit1 (zL (iX OE O.1 ht S1.Q8 (hF.step S1 hFI) ry hb1 λs2 S2 F2=> ?_)))
  have hit2:jO C Z U I s2.heap v (i+1):=hit1.step S2 hI (λe=>hIO (.inl e)) λh=>vI
  refine hb O S2.Q8 F2 hc λf1 Y2 U1 s3 Z3 w hc S3 F3 r3=> ?_
  have S13:zV C (λx=>x=I\/Own env x) Z U s Z3 U1 s3:=
   ((S1.Q7 λx hx=> .inl (.inl hx)).trans (S2.Q7 λx hx=> .inl (.inr (.inl hx)))).trans (S3.Q7 λx hx=> .inl (.inr hx))
  cases r3 with
  |brk=>exact q _ _ _ s3 Z3 .next hc S13 F3 .next
  |ret r3=>exact q _ _ _ s3 Z3 (.ret _) hc S13 F3 (.ret r3)
  |next=>
   refine j1 hc λhs1 hc=> ?_
   exact ih h0 hd1 hc hs1 S3.Q8 F3 (hit2.step S3 hI hIO λh=>(Prod.mk.inj (alS (hit0.symm.trans h))).2▸kT hs hs1) (S13.QX hI hit.lt) λfl Y' U' s4 Z4 w hk S4=>q _ _ _ s4 Z4 w hk (S13.trans S4)
theorem I5(OE:jP env N gl){tgt it:Expr}{body:List Stmt}{pos:Pos}{fi:FnK}{fb:BdF}{tg:List Nat}{b:Bool}(hps:qV it=true)(ht:vF N tgt=some (tg,b))(hit:SE1 C n env N it fi)(hb:SX C n env N (execs body env) fb):
  SX C n env N (exec (.For tgt it body [] pos) env) (λY U K=>fi Y U (BR fb tg b Y K)):=by
 intro A s Z U Y K Q E O R F h q
 refine Ak (aF hps) (hit O R F h λx U1 s1 Z1 y h S1 r1=>zQ h λr hi h=>zL (cJ S1.Q8 r1 hi λI s2 S2 hI1 hI2 hit2=> ?_))
 have S12:=S1.trans S2
 exact Cv OE ht hb O (gX (F.Q5 S1) hI1) (Cx.QJ (alJ S1.Q8.size hI1)) r.1 hi rfl h vI S2.Q8 (F.Q5 S12) hit2 (yI S1.Q8 hI1) λfl Y' U' s3 Z3 w hk S3 F3 r3=>
  q _ _ _ s3 Z3 w hk (((S12.Q7 (jjY:=λx=>x=I\/Own env x) λJ f=>f.elim).trans S3).Q7 λy hy=>hy.elim (λhy=> .inr (hy▸alJ S1.size hI1)) .inl) F3 r3
theorem r5{c:Expr}{body:List Stmt}{fc:FnK}{fb:BdF}(hc:ST1 C n env N c fc)(hb:SX C n env N (execs body env) fb){A:Around}(O:kO n A){K:KF}{R:Result->Shared->Prop}:
  ∀(m:Nat) {s:Shared} {Z:Emb} {U:St} {Y:Env},oJ fc fb m Y U K->Rel C Z U s.heap->FrI C Z U s.heap env N Y->
   (∀fl Y' U' s' Z' w,K fl Y' U'->zV C (Own env) Z U s Z' U' s'->FrI C Z' U' s'.heap env N Y'->sS C Z' s'.heap fl w->R (.ok w) s')->jK (Mo C) A (.whileLoop c body [] env) R s:=by
 intro m
 induction m with
 |zero=>exactλh=>False.elim h
 |succ m ih=>
  intro s Z U Y h hR hF q
  refine l0 (hc O hR hF h λv U1 s1 Z1 h S1=>zQ h λt ht h=>⟨t,ht,?_⟩)
  have F1:=hF.Q5 S1
  cases t with
  |false=>exact q _ _ _ s1 Z1 .next h (w3 S1) F1 .next
  |true=>
   refine hb O S1.Q8 F1 h λf1 Y2 U2 s2 Z2 w h S2 F2 r2=> ?_
   have S12:=(w3 S1).trans S2
   cases r2 with
   |brk=>exact q _ _ _ s2 Z2 .next h S12 F2 .next
   |ret r2=>exact q _ _ _ s2 Z2 (.ret _) h S12 F2 (.ret r2)
   |next=>exact ih h S2.Q8 F2 λfl Y' U' s3 Z3 w hk S3=>q _ _ _ s3 Z3 w hk (S12.trans S3)
theorem CE{c:Expr}{body:List Stmt}{pos:Pos}{fc:FnK}{fb:BdF}(hc:ST1 C n env N c fc)(hb:SX C n env N (execs body env) fb):
  SX C n env N (exec (.While c body [] pos) env) (λY U K=>oJ fc fb 64 Y U K):=
 λO R F h q=>BP (r5 hc hb O 64 h R F q)
end
section
variable{C:Cx}{A:Around}{env:PySem.Env}{N:z7}{gl:List Str}{n:Nat}
theorem Af(X:y9 C)(O:jP env N gl)(Ok:kO n A){xp xg xt:Str}{kg kt:NameKind}{p g t:Nat}{p1 p2 p3 p4 p5 p6 p7 p8:Pos}(mp:(xp,.local,p)∈N)(mg:(xg,kg,g)∈N)(mt:(xt,kt,t)∈N)
  (dp:(xp==("__debug__":Str))=false)(dg:(xg==("__debug__":Str))=false)(dt:(xt==("__debug__":Str))=false)(htp:p≠t)(hgp:p≠g)
  {Z:Emb}{x y:Loc}{v:List (V×V)}{dx dy:Addr×Addr}(hxy:y≠x)(hix:Z x=some dx)(hiy:Z y=some dy)(hn:(v.map (·.1)).Nodup){kn:Nat}(kv:∀e∈v,jR e.1=kn){ds:List DictEntry}{ep:Nat}
  {I:Addr}(hIO:¬Own env I)(hI0:C.h0.get? I=none)(hne1:I≠dy.1)(hne2:I≠dx.1)(hdd:dy.1≠dx.1)(hdy:dy.1≠env.locals){R:Result->Shared->Prop}:
  ∀(l:List (V×V)) {u:List (V×V)} {i:Nat} {s:Shared} {U:St} {Y:Env},v.drop i=l->U.get x=some (.dict u)->U.get y=some (.dict v)->(∀e∈u,jR e.1=kn)->u.length+l.length<1000->Rel C Z U s.heap->FrI C Z U s.heap env N Y->
   Y[t]?=some (some (.c x))->Y[g]?=some (some (.c y))->s.heap.IsKeyIter I dy.1 i ds.length ep->s.heap.get? dy.1=some (dictOf ds ep)->jW C Z s.heap v ds->p<Y.length->¬own Z U I->
   (∀s',zV C (λa=>a=I\/Own env a) Z U s Z (U.Q6 x (.dict (l.foldl (λd e=>uG d e.1 e.2) u))) s'->FrI C Z (U.Q6 x (.dict (l.foldl (λd e=>uG d e.1 e.2) u))) s'.heap env N (gB l p Y)->R (.ok .next) s')->
   jK (Mo C) A (.forLoop (.Name xp p1) (.ref I) [.Assign [.Subscript (.Name xt p2) (.Name xp p3) p4] (.Subscript (.Name xg p5) (.Name xp p6) p7) p8] [] env) R s:=by
 have hFI:=lM hIO
 have hIl:I≠env.locals:=λe=>hIO (.inl e)
 intro l
 induction l with
 |nil=>
  intro u i s U Y hd hx hy ku hz hR hF ht hg hit ho hr hpl hI q
  have S:∀{h':Heap},Heap.ExtBut I s.heap h'->s.heap.objs.size<=h'.objs.size->zV C (λa=>a=I) Z U s Z U {s with heap:=h'}:=λhe hs=>zV.R1 hR he hs hI rfl hI0 (λo ho=>hit.elim λo' h=>alS (h.1.symm.trans ho)▸jQ (h.2.1▸uN (by decide)) (h.2.1▸uN (by decide))) rfl rfl
  refine w2 (zL (aV (Eu Ok.1 hit ho (List.getElem?_eq_none (hr.length▸List.drop_eq_nil_iff.mp hd)) λh' he hs=> ?_)))
  rw[List.foldl_nil,bO hx] at q
  exact q _ ((S he hs).Q7 λa ha=> .inl (.inl ha)) (hF.step (S he hs) hFI)
 |cons e l ih=>
  intro u i s U Y hd hx hy ku hz hR hF ht hg hit ho hr hpl hI q
  have hu:v[i]?=some e:=by rw[<-List.head?_drop,hd];rfl
  have hd1:v.drop (i+1)=l:=by rw[<-List.tail_drop,hd];rfl
  refine xEA (hr.get hu) λde hde hrep=> ?_
  have hrep:=hrep.is
  have ke:=kv e (List.mem_of_getElem? hu)
  refine w2 (zL (An hit ho hde λh1 hit1 hs1=> ?_))
  have S1:zV C (λa=>a=I) Z U s Z U {s with heap:=h1}:=zV.other hR hs1 hI rfl hI0 (λo ho=>hit.elim λo' h=>alS (h.1.symm.trans ho)▸jQ (h.2.1▸uN (by decide)) (h.2.1▸uN (by decide))) rfl rfl
  refine zD (zL (yS (q7 O S1.Q8 (hF.step S1 hFI) mp (hrep.key.keeps S1.ext S1.QH) λs2 S2 F2 hb2=> ?_)))
  have ho2:s2.heap.get? dy.1=some (dictOf ds ep):=(hb2.2 _ hdy).trans ((hs1.2 _ (Ne.symm hne1)).trans ho)
  have hr2:=jW.keeps S2.ext S2.QH (jW.keeps S1.ext S1.QH hr)
  have et:(Y.set p (some e.1))[t]?=some (some (.c x)):=(List.getElem?_set_ne htp).trans ht
  have eg:(Y.set p (some e.1))[g]?=some (some (.c y)):=(List.getElem?_set_ne hgp).trans hg
  have epp:(Y.set p (some e.1))[p]?=some (some e.1):=List.getElem?_set_self hpl
  rw[arm_execs_cons]
  refine zA ?_
  rw[arm_exec_Assign]
  refine z6 (zA (zD ?_))
  rw[if_neg Bool.false_ne_true,arm_eval_Subscript]
  refine zA (zA (zL (wpAny_Name (yH O F2 mg eg λy1 r1=> ?_) dg)))
  apply r1.QK;intro q1 e1
  rw[alS (e1.symm.trans hiy)]
  refine zA (zF (zL (wpAny_Name (yH O F2 mp epp λy2 r2=> ?_) dp)))
  refine z6 (zL (tail_any (zN ho2) slot_dict_getitem.lookup (uQ X.j ho2 hr2 hn (u1 kv ke hrep.ok) r2 (Ok.cl (k:=120) (by decide)) (oC hn hu) λz rz=> ?_) rfl))
  refine zA (zD (zA (m:=assign (.Subscript (.Name xt p2) (.Name xp p3) p4) env z) ?_))
  rw[arm_assign_Subscript]
  have S3:zV C Nil Z U s2 Z U {s2 with toks:=s2.toks+j7 e.1}:=jL S2.Q8
  have F3:=F2.Q5 S3
  refine zA (zF (zL (wpAny_Name (yH O F3 mt et λy3 r3=> ?_) dt)))
  apply r3.QK;intro q3 e3
  rw[alS (e3.symm.trans hix)]
  refine zA (zF (zL (wpAny_Name (yH O F3 mp epp λy4 r4=> ?_) dp)))
  refine z6 (zA (zF (zL (b7 X S3.Q8 hx hix r4 rz (Ok.cl (k:=130) (by decide)) (u1 ku ke hrep.ok) (alI (Nat.le_add_right _ _) hz) λs4 S4 hb4=> ?_))))
  refine zL (wpAny_release' (zD (zD ?_)))
  have S14:zV C (λa=>a=I\/Own env a) Z U s Z (U.Q6 x (.dict (uG u e.1 e.2))) s4:=
   (((S1.Q7 λa ha=> .inl (.inl ha)).trans (S2.Q7 λa ha=> .inl (.inr (.inl ha)))).trans (S3.Q7 λJ f=>f.elim)).trans (S4.Q7 λJ f=>f.elim)
  refine ih hd1 zP ((zH hxy).trans hy) (cY ku ke) (alI (by rw[List.length_cons,Nat.add_comm l.length 1,<-Nat.add_assoc];exact Nat.add_le_add_right fX _) hz) S4.Q8 (F3.Q5 S4) et eg
   ⟨_,(hb4.2 I hne2).trans ((hb2.2 I hIl).trans hit1.choose_spec.1),hit1.choose_spec.2⟩ ((hb4.2 _ hdd).trans ho2) (jW.keeps S14.ext S14.QH hr) (by rw[List.length_set];exact hpl) (S14.QX hI (hit.elim λJ h=>Heap.lt_size h.1)) λs5 S5 F5=> ?_
  rw[mH] at S5 F5
  exact q s5 (S14.trans S5) F5
theorem oQ{e:Expr}{x:Expr×Expr}(h:BT e=some x):∃p,e= .Subscript x.1 x.2 p:=by apply rT h;exactλp=>⟨p,rfl⟩
inductive EJ(N:z7):Expr->Expr->List Stmt->IS->Prop
 |mk {xp xg xt:Str} {kg kt:NameKind} {p g t:Nat} {p0 p1 p2 p3 p4 p5 p6 p7 p8:Pos} (mp:(xp,.local,p)∈N) (mg:(xg,kg,g)∈N) (mt:(xt,kt,t)∈N)
  (dp:(xp==("__debug__":Str))=false) (dg:(xg==("__debug__":Str))=false) (dt:(xt==("__debug__":Str))=false):
  EJ N (.Name xp p1) (.Name xg p0) [.Assign [.Subscript (.Name xt p2) (.Name xp p3) p4] (.Subscript (.Name xg p5) (.Name xp p6) p7) p8] (.R5 t g p)
theorem d5{e:Expr}{x:Str×Str}(h:nT e=some x):∃p q r,e= .Subscript (.Name x.1 p) (.Name x.2 q) r:=
 zB h λc f h=>zB h λn g h=>zB h λm g' h=>by
  refine xE (oQ f) λr e=> ?_
  refine xE (yM g) λp e1=> ?_
  refine xE (yM g') λq e2=> ?_
  rw[e1,e2] at e
  exact alS h▸⟨p,q,r,e⟩
theorem CK{N:z7}{tgt it:Expr}{body:List Stmt}{r:IS}(h:rO N tgt it body=some r):EJ N tgt it body r:=
 zB h λxp ep h=>zB h λxg eg h=>yU h λst eb h=>zB h λa ea h=>yU h λl1 el h=>zB h λx1 ex h=>zB h λy1 ey h=>zK h λhc h=>zB h λp hp h=>zB h λg hg h=>zB h λt ht h=>by
  refine OV (d5 ex) λp2 p3 p4 e1=> ?_
  refine OV (d5 ey) λp5 p6 p7 e2=> ?_
  obtain⟨p1,e3⟩:=yM ep
  obtain⟨p0,e4⟩:=yM eg
  have e5:∃p8,st= .Assign a.1 a.2 p8:=by apply r7 ea;exactλp=>⟨p,rfl⟩
  obtain⟨p8,e5⟩:=e5
  refine E4 hc λc1 c2 c3 dp dg dt=> ?_
  refine vE (y7 hp) λxp' pp e mp=> ?_
  obtain⟨kg,mg⟩:=qW hg
  obtain⟨kt,mt⟩:=qW ht
  rw[el,e1,e2,<-show xp=x1.2 from c1,<-show xp=y1.2 from c2,<-show xg=y1.1 from c3] at e5
  rw[e3] at e
  injection e with e
  subst e
  rw[eb,e5,e3,e4,<-alS h]
  exact .mk mp mg mt dp dg dt
theorem Cs(X:y9 C)(O:jP env N gl){tgt it:Expr}{body:List Stmt}{pos:Pos}{r:IS}(h:rO N tgt it body=some r){G:Prop}(k:∀t g p,r= .R5 t g p->SX C n env N (exec (.For tgt it body [] pos) env) (λY U K=>E7 (jD8 t g p Y U) (HG K))->G):G:=by
 cases CK h with| @mk xp xg xt kg kt p g t p0 p1 p2 p3 p4 p5 p6 p7 pos8 mp mg mt dp dg dt=> ?_
 refine k t g p rfl ?_
 clear k h
 intro A s Z U Y K Q E Ok R F hf q
 refine j0 hf λrr U' hf hk'=>zB hf λa hρt hf=>zB hf λb hρg hf=>zB hf λx hx' hf=>zB hf λy hy' hf=>zB hf λu hx hf=>zB hf λv hy hf=>zK hf λhcond hf=> ?_
 refine E4 hcond λhxy hk hz htp hgp hpl=> ?_
 revert hk';apply fE hf;intro hk'
 rw[qG hx'] at hρt
 rw[qG hy'] at hρg
 have hx:=tK hx
 have hy:=tK hy
 refine xE (R.lies hx) λdx Lx=> ?_
 refine xE (R.lies hy) λdy Ly=> ?_
 refine xN Ly.obj λJ ds ep ho hr hn=> ?_
 refine Ak (aF rfl) (zL (wpAny_Name (yH O F mg (uY hρg) λy1 r1=> ?_) dg))
 apply r1.QK;intro q1 e1
 rw[alS (e1.symm.trans Ly.at_)]
 refine zL (xH (qY X R hy Ly.at_) ho ?_)
 have S1:zV C Nil Z U s Z U {s with heap:=s.heap.push {cls:= .type "dict_keyiterator",data:= .fields #[.ref dy.1,.int 0 0,.int ds.length 0,.int ep 0]}}:=q4 (t:=s.toks) _ R
 refine xE (eF hk) λkn hkn=> ?_
 have main:=Af (A:=A) (n:=n) (p1:=p1) (p2:=p2) (p3:=p3) (p4:=p4) (p5:=p5) (p6:=p6) (p7:=p7) (p8:=pos8) X O Ok mp mg mt dp dg dt (Ne.symm htp) (Ne.symm hgp) (Ne.symm hxy) Lx.at_ Ly.at_ hn (λe he=>(hkn e (List.mem_append_right _ he)).1) (ds:=ds) (ep:=ep)
  (gX F (Nat.le_refl _)) (Cx.QJ R.size) (Nat.ne_of_gt (Heap.lt_size ho)) (Nat.ne_of_gt (Lx.obj.lives.1.elim λJ q=>Heap.lt_size q.1)) (R.inj y x _ _ (qL hy) (qL hx) Ly.at_ Lx.at_ (Ne.symm hxy)).1 (λe=>F.RU (e▸⟨y,_,qL hy,Ly.at_,.inl rfl⟩))
  (R:=λr s'=>match r with| .ok f=>Q f s'| .error _=>False) v (i:=0) rfl hx hy (λe he=>(hkn e (List.mem_append_left _ he)).1) hz S1.Q8 (F.Q5 S1) (uY hρt) (uY hρg)
  ⟨_,Heap.get?_push_size _ rfl,rfl,rfl⟩ (Heap.get?_push_of_some _ ho) (jW.keeps S1.ext S1.QH hr) hpl (yI R (Nat.le_refl _))
 exact main λs' S' F'=>q _ _ _ s' Z .next hk' (((S1.Q7 (jjY:=λa=>a=s.heap.objs.size\/Own env a) λJ f=>f.elim).trans S').Q7 λa ha=>ha.elim (λha=> .inr (Nat.le_of_eq ha.symm)) .inl) F' .next
end
section
variable{C:Cx}{n:Nat}{W:jY}{Φ:Orc}
theorem NW{env:PySem.Env}{N:z7}{t:Sem Flow}:SX C n env N t (λJ J J=>False):=λJ J J h=>h.elim
theorem cH(H:Calls C n W Φ){env:PySem.Env}{N:z7}{gl:List Str}(O:jP env N gl){k:Nat}:∀(m:Nat) {mm:Nat} {st:Stmt} {ir:IS},cS C.T k ⟨N,gl⟩ m st=some ir->SX C n env N (exec st env) (λY U=>ex W Φ mm ir Y U):=by
 intro m
 induction m with
 |zero=>intro mm st ir h;exact zG h
 |succ m ih=>
  intro mm st ir h
  cases mm with
  |zero=>exact NW
  |succ mm=>
  intro A s Z U Y K Q EE Ok R F hf q
  have blk:∀{b:List Stmt} {irs:List IS},b.mapM (cS C.T k ⟨N,gl⟩ m)=some irs->SX C n env N (execs b env) (exs (ex W Φ mm) irs):=λh=>sxs ((jF h).map λa b hb=>ih (mm:=mm) hb)
  have E:∀{e:Expr} {ir:IR},cE C.T k m ⟨N,gl⟩ e=some ir->EO C n env N e (λY U=>ev W Φ mm Y ir U):=λh=>aI H m h O
  cases st with
  |Assign ts e pos=>
   have g:∃t t' e',ts=[t]/\xC t e=true/\cT C.T k ⟨N,gl⟩ m t=some t'/\cE C.T k m ⟨N,gl⟩ e=some e'/\IS.Q0 t' e'=ir:=
    yU h λt et h=>zK h λhok h=>zB h λt' ht h=>zB h λe' he h=>⟨t,t',e',et,hok,ht,he,alS h⟩
   refine bL g λt t' e' e_3 hok ht he e_7=> ?_
   subst e_3
   subst e_7
   exact Hd H O ht he hok Ok R F hf q
  |AugAssign t op e pos=>
   have g:∃x i e',vL t=some x/\qN N x=some i/\cE C.T k m ⟨N,gl⟩ e=some e'/\IS.aug i op e'=ir:=
    zB h λx hx h=>zB h λi hi h=>zB h λe' he h=>⟨x,i,e',hx,hi,he,alS h⟩
   refine e8 g λx i e' hx hi he e_6=> ?_
   subst e_6
   refine xE (qW hi) λkk hm=> ?_
   refine xE (yM hx) λnp e_1=> ?_
   subst e_1
   exact Kp O hm (E he).1 Ok R F hf q
  |Expr e pos=>
   have g:∃e',pH e=true/\cE C.T k m ⟨N,gl⟩ e=some e'/\IS.expr e'=ir:=zK h λhp h=>(alD h).imp λe' q=>⟨hp,q⟩
   refine eO g λe' hp he e_3=> ?_
   subst e_3
   exact FV O hp (E he).1 Ok R F hf q
  |Return o pos=>
   cases o with
   |some e=>
    refine xEA (alD (show(cE C.T k m ⟨N,gl⟩ e).map IS.ret=some ir from h)) λe' he e_2=> ?_
    subst e_2
    exact IF (E he).1 Ok R F hf q
   |none=>
    have h:IS.ret (.l .none)=ir:=alS h
    subst h
    cases mm with
    |zero=>exact False.elim hf
    |succ mm=>exact GW Ok R F hf q
  |If c a b pos=>
   have g:∃c' a' b',cE C.T k m ⟨N,gl⟩ c=some c'/\a.mapM (cS C.T k ⟨N,gl⟩ m)=some a'/\b.mapM (cS C.T k ⟨N,gl⟩ m)=some b'/\IS.QC c' a' b'=ir:=
    zB h λc' hc h=>zB h λa' ha h=>zB h λb' hb h=>⟨c',a',b',hc,ha,hb,alS h⟩
   refine e8 g λc' a' b' hc ha hb e_6=> ?_
   subst e_6
   exact NT (E hc).2 (blk ha) (blk hb) Ok R F hf q
  |For tg it body els pos=>
   have g:els=[]/\((rO N tg it body=some ir)\/∃tg' it' body',vF N tg=some tg'/\cE C.T k m ⟨N,gl⟩ it=some it'/\body.mapM (cS C.T k ⟨N,gl⟩ m)=some body'/\IS.QL tg'.1 tg'.2 it' body'=ir):=by
    refine zK h λhe h=>⟨List.isEmpty_iff.mp he,?_⟩
    have h:(match rO N tg it body with|some r=>_|none=>_)=some ir:=h
    cases hc:rO N tg it body with
    |some r=>rw[hc] at h;exact .inl h
    |none=>
     rw[hc] at h
     exact .inr (zB h λtg' ht h=>zB h λit' hi h=>zB h λb' hb h=>⟨tg',it',b',ht,hi,hb,alS h⟩)
   obtain⟨rfl,g|⟨tg',it',body',ht,hit,hb,rfl⟩⟩:=g
   ·exact Cs (n:=n) (pos:=pos) H.X O g λt g p e z=>by subst e;exact z Ok R F hf q
   ·exact I5 O (BZ hit) ht (E hit).1 (blk hb) Ok R F hf q
  |While c body els pos=>
   have g:∃c' body',els=[]/\cE C.T k m ⟨N,gl⟩ c=some c'/\body.mapM (cS C.T k ⟨N,gl⟩ m)=some body'/\IS.Se c' body'=ir:=
    zK h λhe h=>zB h λc' hc h=>zB h λb' hb h=>⟨c',b',List.isEmpty_iff.mp he,hc,hb,alS h⟩
   refine eJ g λc' body' e_2 hc hb e_5=> ?_
   subst e_2
   subst e_5
   exact CE (E hc).2 (blk hb) Ok R F hf q
  |Delete ts pos=>
   have g:∃t x e' i',ts=[t]/\BT t=some x/\cE C.T k m ⟨N,gl⟩ x.1=some e'/\cE C.T k m ⟨N,gl⟩ x.2=some i'/\IS.RW e' i'=ir:=
    yU h λt et h=>zB h λx hx h=>zB h λe' he h=>zB h λi' hi h=>⟨t,x,e',i',et,hx,he,hi,alS h⟩
   refine AP g λt x e' i' e_4 hx he hi e_8=> ?_
   subst e_4
   subst e_8
   refine xE (oQ hx) λp e_1=> ?_
   subst e_1
   exact J7 H.X (E he).1 (E hi).1 Ok R F hf q
  |Break pos=>
   have h:IS.brk=ir:=alS h
   subst h
   exact Ks Ok R F hf q
  |Raise a b pos=>
   have h:IS.bad=ir:=alS h
   subst h
   exact False.elim hf
  |_=>exact zG h
end
end
section
open PySem
theorem dT{β:Type}{l:List (Str×β)}{x:Str}(h:x∉l.map (·.1)):l.lookup x=none:=List.lookup_eq_none_iff.mpr λp hp=>bne_iff_ne.mpr λe=>h (List.mem_map.mpr ⟨p,hp,e.symm⟩)
theorem Gm{α β:Type}{f:α->Option β}{g:α->β}{l:List α}:(∀x∈l,f x=some (g x))->l.filterMap f=l.map g:=by
 induction l with
 |nil=>exactλJ=>rfl
 |cons a l ih=>exactλh=>(List.filterMap_cons_some (h a (.head _))).trans (alQ _ (ih λx hx=>h x (.tail _ hx)))
theorem ER{β:Type}{l:List (Str×β)}(hn:(l.map (·.1)).Nodup):((l.map (·.1)).filterMap λn=>(l.lookup n).map (n,·))=l:=by
 rw[List.filterMap_map];exact(Gm (g:=id) λp hp=>alQ (Option.map _) (uS hn hp)).trans (List.map_id _)
theorem rB{α:Type}{l:List α}{n:Nat}(h:n<=l.length):∃a b,l=a++b/\a.length=n:=⟨_,_,(List.take_append_drop n l).symm,List.length_take_of_le h⟩
theorem wI{α β:Type}{ps:List α}{xs:List β}(h:ps.length=xs.length):(ps.zip xs).map (·.1)=ps:=List.map_fst_zip (Nat.le_of_eq h)
section
variable{M:Model}{A:Around}{E:Value->Shared->Prop}{s:Shared}
theorem w6{α:Type}{c:Prop}[Decidable c]{a b:Sem α}{Q:α->Shared->Prop}(h:¬c)(k:wpAny M A b Q E s):wpAny M A (if c then a else b) Q E s:=by rw[if_neg h];exact k
noncomputable abbrev w7(p:Str×Value)(sl:List (Str×Value)):Sem (ForInStep (List (Str×Value))):=
 if(sl.lookup p.1).isNone=true then pure (ForInStep.yield (sl++[p])) else pure (ForInStep.yield sl)
theorem xZ{l r:List (Str×Value)}{sl:List (Str×Value)}{Q:List (Str×Value)->Shared->Prop}(h:∀p∈l,p.1∈sl.map (·.1))(q:wpAny M A (forIn r sl w7) Q E s):wpAny M A (forIn (l++r) sl w7) Q E s:=by
 induction l with
 |nil=>exact q
 |cons p l ih=>
  rw[List.cons_append,List.forIn_cons]
  refine wpAny_bind (w6 (λe=> ?_) (wpAny_pure (ih λx hx=>h x (.tail _ hx))))
  obtain⟨x,hx,e2⟩:=List.mem_map.mp (h p (.head _))
  exact bne_iff_ne.mp (List.lookup_eq_none_iff.mp (Option.isNone_iff_eq_none.mp e) x hx) e2.symm
theorem Dp{l:List (Str×Value)}{Q:List (Str×Value)->Shared->Prop}:∀{sl:List (Str×Value)},((sl++l).map (·.1)).Nodup->Q (sl++l) s->wpAny M A (forIn l sl w7) Q E s:=by
 induction l with
 |nil=>intro sl _ q;rw[List.append_nil] at q;exact wpAny_pure q
 |cons p r ih=>
  intro sl hn q
  have e:sl++p::r=(sl++[p])++r:=(List.append_assoc sl [p] r).symm
  rw[List.forIn_cons]
  refine wpAny_bind ?_
  unfold w7
  rw[List.map_append,List.nodup_append] at hn
  rw[if_pos (Option.isNone_iff_eq_none.mpr (dT λh=>hn.2.2 _ h _ (.head _) rfl))]
  rw[<-List.nodup_append,<-List.map_append] at hn
  exact wpAny_pure (ih (e▸hn) (e▸q))
theorem xJ{p1 p2 p3:List Str}{xs:List Value}(l12:(p1++p2).length=xs.length):(p1++(p2++p3)).zip xs=(p1++p2).zip xs:=by
 rw[<-List.append_assoc,<-List.append_nil xs,List.zip_append l12,List.zip_nil_right,List.append_nil,List.append_nil]
theorem Bx{P p1 p2 p3:List Str}{jjD x1 x2 d2 d3:List Value}{k:Nat}{Q:List (Str×Value)->Shared->Prop}(hP:P=p1++(p2++p3))(hn:P.Nodup)(hD:jjD=d2++d3)(hk:k=p1.length)
  (l1:p1.length=x1.length)(l2:p2.length=x2.length)(l2':p2.length=d2.length)(l3:p3.length=d3.length)(q:Q (P.zip (x1++x2++d3)) s):wpAny M A (forIn ((P.drop k).zip jjD) (P.zip (x1++x2)) w7) Q E s:=by
 subst hP hD hk
 have l12:(p1++p2).length=(x1++x2).length:=by rw[List.length_append,List.length_append,l1,l2]
 rw[<-List.append_assoc,List.zip_append l12] at q
 rw[List.drop_left,xJ l12,List.zip_append l2']
 refine xZ (λp hp=> ?_) (Dp ?_ q)
 ·rw[wI l12]
  exact List.mem_append_right _ (List.of_mem_zip hp).1
 ·rw[List.map_append,wI l12,wI l3,List.append_assoc];exact hn
theorem s8{P p1 p2 p3:List Str}{jjD x1 x2 d2 d3:List Value}(hP:P=p1++(p2++p3))(hD:jjD=d2++d3)(l2':p2.length=d2.length)(l3:p3.length=d3.length):jjD.drop (jjD.length-P.length)=jjD/\P.length-(jjD.drop (jjD.length-P.length)).length=p1.length:=by
 have e:jjD.length=(p2++p3).length:=by rw[hD,List.length_append,List.length_append,l2',l3]
 have e1:jjD.drop (jjD.length-P.length)=jjD:=by rw[hP,List.length_append (as:=p1),<-e,Nat.sub_eq_zero_of_le (Nat.le_add_left _ _)];rfl
 exact⟨e1,by rw[e1,e,hP,List.length_append (as:=p1)];exact Nat.add_sub_cancel _ _⟩
theorem xX{fd:FuncData}{p1 p2 p3:List Str}{x1 x2 d2 d3:List Value}{Q:List (Str×Value)->Shared->Prop}(hpo:fd.params.posonlyargs=[])(hkw:fd.params.kwonlyargs=[])(hva:fd.params.vararg=none)(hka:fd.params.kwarg=none)
  (hps:fd.params.args.map (·.arg)=p1++(p2++p3))(hn:(fd.params.args.map (·.arg)).Nodup)(hds:∀{Q:Option (Array Value)->Shared->Prop},(∀o:Option (Array Value),(o.getD #[]).toList=d2++d3->Q o s)->wpAny M A (seqItems? fd.defaults) Q E s)
  (l1:p1.length=x1.length)(l2:p2.length=x2.length)(l2':p2.length=d2.length)(l3:p3.length=d3.length)(q:Q ((fd.params.args.map (·.arg)).zip (x1++x2++d3)) s):wpAny M A (bindArgs fd ⟨x1++x2,[]⟩) Q E s:=by
 obtain⟨fn,fq,⟨po,ar,va,ko,kd,ka,df⟩,_,_,_,_,Sd,_,_,_,_,_,_,_⟩:=fd
 have hpo:po=[]:=hpo
 have hkw:ko=[]:=hkw
 have hva:va=none:=hva
 have hka:ka=none:=hka
 subst hpo hkw hva hka
 have hps:ar.map (·.arg)=p1++(p2++p3):=hps
 have hn:(ar.map (·.arg)).Nodup:=hn
 have l12:(p1++p2).length=(x1++x2).length:=by rw[List.length_append,List.length_append,l1,l2]
 have c0:(x1++x2).length<=(ar.map (·.arg)).length:=by rw[hps,<-List.append_assoc,List.length_append (as:=p1++p2),l12];exact Nat.le_add_right _ _
 refine wpAny_bind (wpAny_pure (wpAny_bind (hds λo ho=> ?_)))
 refine xA (s8 (x1:=x1) (x2:=x2) (P:=ar.map (·.arg)) hps ho l2' l3) λf1 f2=> ?_
 refine w6 (λe=>absurd (alH (alA e).1) (Nat.not_lt.mpr c0)) (w6 (λe=> ?_) (wpAny_bind (Bx hps hn (f1.trans ho) f2 l1 l2 l2' l3 (wpAny_bind (wpAny_pure (w6 Bool.false_ne_true (wpAny_pure ?_)))))))
 ·refine Bool.noConfusion ((Bool.not_eq_true' _).mp e |>.symm.trans (List.isEmpty_iff.mpr (List.filter_eq_nil_iff.mpr λx hx hl=> ?_)))
  have hx:x∈(ar.map (·.arg)).take ((ar.map (·.arg)).length-((o.getD #[]).toList.drop ((o.getD #[]).toList.length-(ar.map (·.arg)).length)).length):=hx
  rw[f2,hps,List.take_left] at hx
  have hm:x∈((ar.map (·.arg)).zip (x1++x2)).map (·.1):=by rw[hps,xJ l12,wI l12];exact List.mem_append_left _ hx
  obtain⟨y,hy,ey⟩:=List.mem_map.mp hm
  exact bne_iff_ne.mp (List.lookup_eq_none_iff.mp (Option.isNone_iff_eq_none.mp hl) y hy) ey.symm
 ·have l:(ar.map (·.arg)).length=(x1++x2++d3).length:=by rw[hps,<-List.append_assoc,List.length_append,List.length_append (as:=x1++x2),l12,l3]
  have e:=ER (l:=(ar.map (·.arg)).zip (x1++x2++d3)) (by rw[wI l];exact hn)
  rw[wI l] at e
  refine(alQ (λl=>Q l s) ((alQ (List.filterMap _) (List.append_nil _)).trans e)).mpr q
end
end
section
open PySem PySem.W PyProof.Rows
structure H6(C:Cx)(a:Nat)(fd:FuncData)(body:List Stmt)(dv:List V):Prop where
 at_:∃o,C.h0.get? a=some o/\o.data= .func fd
 body:fd.body= .stmts body
 co:fd.scope.isCoroutine=false
 gen:fd.scope.isGenerator=false
 kind:fd.scope.kind= .function
 clo:fd.closure=[]
 Sb:fd.globals=mainGlobals
 bl:fd.builtins=builtinsNs
 code:C.h0.CodeRec fd.code fd.qualname
 Sa:fd.params.posonlyargs=[]/\fd.params.kwonlyargs=[]/\fd.params.vararg=none/\fd.params.kwarg=none
 names:uL (fd.scope.names.map (·.1))=true
 args:uL (fd.params.args.map (·.arg))=true
 Sd:(fd.defaults= .none/\dv=[])\/∃t o xs n,fd.defaults= .ref t/\C.h0.get? t=some o/\o.data= .seq xs n/\∀Z h,zW C Z h dv xs.toList
structure NB(C:Cx)(a:Nat)(f:FI):Prop where
 ex:∃fd body,H6 C a fd body f.defaults/\cF C.T fd.params fd.scope f.defaults body=some f/\f.defaults.length<=f.params.length
 keep:keepIn C.K (.ref a)=true
section
variable{C:Cx}
structure Fc(j:Nat)(ns:List (Str×NameKind))(L:z7):Prop where
 mem:∀e∈L,(e.1,e.2.1)∈ns/\(e.2.1= .local\/e.2.1= .cell)
 sub:(L.map (·.1)).Sublist (ns.map (·.1))
 low:∀i∈L.map (·.2.2),j<=i
 nodup:(L.map (·.2.2)).Nodup
theorem CW{ns:List (Str×NameKind)}:∀{j:Nat},Fc j ns (zO j ns):=by
 induction ns with
 |nil=>exact⟨λJ h=>(nomatch h),.slnil,λJ h=>(nomatch h),.nil⟩
 |cons y r ih=>
  intro j
  by_cases hk:y.2= .local\/y.2= .cell
  ·have h:=ih (j:=j+1)
   have e:zO j (y::r)=(y.1,y.2,j)::zO (j+1) r:=if_pos hk
   rw[e]
   exact⟨λe he=>(alC he).elim (λq=>q▸⟨.head _,hk⟩) λhe=>⟨.tail _ (h.mem e he).1,(h.mem e he).2⟩,h.sub.cons_cons _,
    λi hi=>(alC hi).elim (λq=>Nat.le_of_eq q.symm) λhi=>Nat.le_of_succ_le (h.low i hi),List.nodup_cons.mpr ⟨λhm=>Nat.lt_irrefl _ (h.low j hm),h.nodup⟩⟩
  ·have h:=ih (j:=j)
   have e:zO j (y::r)=zO j r:=if_neg hk
   rw[e]
   exact⟨λe he=>⟨.tail _ (h.mem e he).1,(h.mem e he).2⟩,h.sub.cons _,h.low,h.nodup⟩
theorem Al2.mapL{α β γ:Type}{P:γ->β->Prop}{f:α->γ}{as:List α}{bs:List β}(h:Al2 (λa b=>P (f a) b) as bs):Al2 P (as.map f) bs:=by
 induction h with
 |nil=>exact .nil
 |cons a _ ih=>exact .cons a ih
theorem AK{Z:Emb}{h:Heap}{L:z7}{names:List Str}{is:List Nat}(ht:Two (λx i=>∃k,(x,k,i)∈L) names is){vs:List V}{ys:List Value}(r:zW C Z h vs ys){i:Nat}{v:V}(hm:(i,v)∈is.zip vs):
  ∃x y,(x,y)∈names.zip ys/\(∃k,(x,k,i)∈L)/\zS C Z h v y:=by
 refine xE (List.getElem?_of_mem hm) λj hj=> ?_
 refine xA (List.getElem?_zip_eq_some.mp hj) λh1 h2=> ?_
 refine xEA (ht.get' h1) λx hx q=> ?_
 refine xEA (r.get h2) λy hy r=> ?_
 exact⟨x,y,List.mem_of_getElem? (List.getElem?_zip_eq_some.mpr ⟨hx,hy⟩),q,r⟩
theorem rY{i:Nat}{v:V}{l:List (Nat×V)}:∀{Y:Env},(uA l Y)[i]?=some (some v)->(i,v)∈l\/Y[i]?=some (some v):=by
 induction l with
 |nil=>exactλh=> .inr h
 |cons p l ih=>exactλh=>(ih h).elim (λh=> .inl (.tail _ h)) λh=>(AY h).elim (λq=> .inl (by rw[q.2,<-q.1];exact .head _)) λq=> .inr q.2
theorem pX{B:List (Str×Value)->(Str->Option Value)->Str->Option Value}{f:Str->Value->(Str->Option Value)->Str->Option Value}{x:Str}(b0:∀m,B [] m=m)(b1:∀n v r m,B ((n,v)::r) m=B r (f n v m))(f1:∀v m,f x v m x=some v)(f2:∀n v m,x≠n->f n v m x=m x)
  {y:Value}{l:List (Str×Value)}:∀{m:Str->Option Value},(l.map (·.1)).Nodup->((x,y)∈l\/x∉l.map (·.1)/\m x=some y)->B l m x=some y:=by
 induction l with
 |nil=>exactλJ h=>(congrFun (b0 _) x).trans (h.elim (λh=>nomatch h) (·.2))
 |cons p l ih=>
  intro m hn h
  rw[List.map_cons,List.nodup_cons] at hn
  refine(congrFun (b1 p.1 p.2 l m) x).trans (ih hn.2 (h.elim (λh=>(alC h).elim (λe=> .inr (by subst e;exact⟨hn.1,f1 _ _⟩)) .inl) λh=> .inr ?_))
  rw[List.map_cons,List.mem_cons,not_or] at h
  exact⟨h.1.2,(f2 _ _ _ h.1.1).trans h.2⟩
theorem xP{kindOf:Str->Option NameKind}{x:Str}{y:Value}{m:Str->Option Value}{l:List (Str×Value)}(hk:kindOf x=some .local)(hn:(l.map (·.1)).Nodup)(h:(x,y)∈l):bindL kindOf l m x=some y:=
 pX (B:=bindL kindOf) (f:=λn v m=>if kindOf n=some .local then λy=>if y=n then some v else m y else m) (λJ=>rfl) (λJ J J J=>rfl) (λv m=>by rw[if_pos hk];exact if_pos rfl) (λn v m e=>by
  by_cases q:kindOf n=some .local
  ·rw[if_pos q];exact if_neg e
  ·rw[if_neg q]) hn (.inl h)
theorem Ap{kindOf:Str->Option NameKind}{x:Str}{y:Value}{m:Str->Option Value}{l:List (Str×Value)}(hk:kindOf x≠some .local)(hn:(l.map (·.1)).Nodup)(h:(x,y)∈l):bindC kindOf l m x=some y:=
 pX (B:=bindC kindOf) (f:=λn v m=>if kindOf n=some .local then m else λy=>if y=n then some v else m y) (λJ=>rfl) (λJ J J J=>rfl) (λv m=>by rw[if_neg hk];exact if_pos rfl) (λn v m e=>by
  by_cases q:kindOf n=some .local
  ·rw[if_pos q]
  ·rw[if_neg q];exact if_neg e) hn (.inl h)
theorem Ay{x:Str}{ns:List (Str×NameKind)}:∀{j:Nat} {acc:List (Str×Addr)},(∃c,(x,c)∈acc)\/(x,.cell)∈ns->∃c,(x,c)∈cellsFrom j ns acc:=by
 induction ns with
 |nil=>exactλh=>h.elim id λh=>nomatch h
 |cons y r ih=>
  intro j acc h
  by_cases hk:(y.2==NameKind.cell)=true
  ·have e:cellsFrom j (y::r) acc=cellsFrom (j+1) r ((y.1,j)::acc):=if_pos hk
   rw[e]
   exact ih (h.elim (λ⟨c,h⟩=> .inl ⟨c,.tail _ h⟩) λh=>(alC h).elim (λe=> .inl ⟨j,e▸ .head _⟩) .inr)
  ·have e:cellsFrom j (y::r) acc=cellsFrom j r acc:=if_neg hk
   rw[e]
   exact ih (h.imp id λh=>(alC h).elim (λe=>absurd (e▸rfl) hk) id)
theorem lG{x:Str}{ns:List (Str×NameKind)}{j:Nat}(h:(x,.cell)∈ns):((cellsFrom j ns []).lookup x).isSome=true:=(Ay (.inr h)).elim λc h=>List.lookup_isSome_iff.mpr ⟨_,h,BEq.rfl⟩
theorem EU{a b n:Nat}(h:a=a+b-n)(h':n<=a+b):n=b:=(Nat.add_left_cancel ((Nat.sub_eq_iff_eq_add h').mp h.symm)).symm
theorem Ft{ps:List Str}{xs ds:List Value}(l1:xs.length<=ps.length)(l2:ps.length<=xs.length+ds.length)(l3:ds.length<=ps.length):∃p1 p2 p3 x1 x2 d2 d3,ps=p1++(p2++p3)/\xs=x1++x2/\ds=d2++d3/\p1.length=x1.length/\p2.length=x2.length/\p2.length=d2.length/\p3.length=d3.length:=by
 refine vE (rB l1) λp12 p3 e1 f1=> ?_
 refine vE (rB (l:=p12) (f1▸Nat.sub_le_of_le_add l2)) λp1 p2 e2 f2=> ?_
 subst e2
 refine vE (rB (l:=xs) (n:=p1.length) (f1▸List.length_append▸Nat.le_add_right _ _)) λx1 x2 e3 f3=> ?_
 subst e3
 have g1:p2.length=x2.length:=Nat.add_left_cancel (f3▸(List.length_append (as:=p1)).symm.trans (f1.trans List.length_append))
 have g2:ds.length=(p2++p3).length:=by
  rw[e1,List.append_assoc,List.length_append] at f2 l3
  exact EU f2 l3
 refine vE (rB (l:=ds) (n:=p2.length) (g2▸List.length_append▸Nat.le_add_right _ _)) λd2 d3 e4 f4=> ?_
 subst e4
 rw[List.length_append,List.length_append,f4] at g2
 exact⟨p1,p2,p3,x1,x2,d2,d3,e1.trans (List.append_assoc _ _ _),rfl,rfl,f3.symm,g1,f4.symm,(Nat.add_left_cancel g2).symm⟩
theorem enter{a:Nat}{fd:FuncData}{body:List Stmt}{dv:List V}{fps:List Nat}(X:y9 C)(H:H6 C a fd body dv)(hps:fd.params.args.mapM (λx=>qN (zO 0 fd.scope.names) x.arg)=some fps){A:Around}(hA:A.depth<1000)
  {s:Shared}{Z:Emb}{U:St}(hrel:Rel C Z U s.heap){as:List V}{xs:List Value}(ha:zW C Z s.heap as xs)(l1:as.length<=fps.length)(l2:fps.length<=as.length+dv.length)(l3:dv.length<=fps.length){R:Result->Shared->Prop}
  (q:∀env s',jP env (zO 0 fd.scope.names) (jH fd.scope.names)->zV C Nil Z U s Z U s'->FrI C Z U s'.heap env (zO 0 fd.scope.names) (uA (fps.zip (as++dv.drop (dv.length-(fps.length-as.length)))) (List.replicate ((zO 0 fd.scope.names).length+8) none))->
   env.frame=some env.locals->env.scope=fd.scope->(∀b o,s.heap.get? b=some o->s'.heap.get? b=some o)->(∀a,Own env a->s.heap.objs.size<=a)->jK (Mo C) A (.func body env) R s'):
  jK (Mo C) A (.call (.ref a) ⟨xs,[]⟩) R s:=by
 have hnd:=vS H.names
 have hnda:=vS H.args
 have facts:=CW (ns:=fd.scope.names) (j:=0)
 have htwo0:Two (λx i=>∃k,(x,k,i)∈zO 0 fd.scope.names) (fd.params.args.map (·.arg)) fps:=((jF hps).map λa i q=>qW q).mapL
 refine xEA H.at_ λo ho hfd=> ?_
 have hnl:s.heap.NoLimit:=X.nolimit.keeps hrel.keep
 obtain⟨ds,hds,hdr⟩:∃ds:List Value,(∀{A:Around} {E:Value->Shared->Prop} {Q:Option (Array Value)->Shared->Prop},(∀o:Option (Array Value),(o.getD #[]).toList=ds->Q o s)->wpAny (Mo C) A (seqItems? fd.defaults) Q E s)/\zW C Z s.heap dv ds:=by
  rcases H.Sd with⟨h1,h2⟩|⟨t,ot,dxs,dn,h1,h2,h3,h4⟩
  ·exact⟨[],λ{A E Q} hq=>by rw[h1];exact wpAny_pure (hq none rfl),h2▸ .nil⟩
  ·exact⟨dxs.toList,λ{A E Q} hq=>by rw[h1];exact wpAny_seqItems (hrel.keep _ _ h2) h3 (hq _ rfl),h4 Z s.heap⟩
 have hvals:zW C Z s.heap (as++dv.drop (dv.length-(fps.length-as.length))) (xs++ds.drop (ds.length-((fd.params.args.map (·.arg)).length-xs.length))):=by
  rw[<-hdr.length,htwo0.length,<-ha.length]
  exact ha.append hdr.drop
 rw[<-htwo0.length,ha.length,hdr.length] at l2
 rw[<-htwo0.length,ha.length] at l1
 rw[<-htwo0.length,hdr.length] at l3
 generalize hv:as++dv.drop (dv.length-(fps.length-as.length))=vals at hvals q
 clear hv ha hdr
 refine wN hA (hrel.keep a o ho) hfd H.co H.gen H.body (H.code.keeps hrel.keep) ?_
 refine dN (Ft l1 l2 l3) λp1 p2 p3 x1 x2 d2 d3 e1 e2 e3 f1 f2 f3 f4=> ?_
 have e5:ds.drop (ds.length-((fd.params.args.map (·.arg)).length-xs.length))=d3:=by
  have e:ds.length-((fd.params.args.map (·.arg)).length-xs.length)=d2.length:=by
   rw[e1,e2,e3,List.length_append,List.length_append,List.length_append,List.length_append,f1,f2,f4,<-Nat.add_assoc,Nat.add_sub_cancel_left,Nat.add_sub_cancel]
  rw[e,e3];exact List.drop_left
 rw[e5] at hvals
 rw[e2] at hvals ⊢
 refine xX H.Sa.1 H.Sa.2.1 H.Sa.2.2.1 H.Sa.2.2.2 e1 hnda (e3▸hds) f1 f2 f3 f4 ?_
 have hyl:=hvals.length
 have hnodl:(fd.params.args.map (·.arg)).length=(x1++x2++d3).length:=by rw[e1,<-List.append_assoc,List.length_append,List.length_append (as:=x1++x2),List.length_append,List.length_append,f1,f2,f4]
 clear e1 e2 e3 e5 f1 f2 f3 f4 hds l1 l2 l3
 generalize x1++x2++d3=yals at*
 generalize fd.params.args.map (·.arg)=names at*
 have hnodl:=wI hnodl
 rw[H.clo]
 have kindOf:∀{x k i},(x,k,i)∈zO 0 fd.scope.names->fd.scope.names.lookup x=some k/\(k= .local\/k= .cell):=λhx=>⟨uS hnd (facts.mem _ hx).1,(facts.mem _ hx).2⟩
 refine wpAny_newFunctionEnv_cells H.kind (λx hx=> ?_) λenv he s2 hin=> ?_
 ·refine Qd (htwo0.mem (List.of_mem_zip (a:=x.1) (b:=x.2) hx).1) λi J k hm=> ?_
  obtain⟨hl,rfl|rfl⟩:=kindOf hm
  ·exact .inl hl
  ·exact .inr ⟨hl,lG (facts.mem _ hm).1⟩
 have hfrm:env.frame=some env.locals:=by rw[he];rfl
 have hscp:env.scope=fd.scope:=by rw[he];rfl
 have hcel:env.cells=cellsFrom (s.heap.objs.size+1) fd.scope.names []:=by rw[he];rfl
 have hk':∀x,env.kindOf x=fd.scope.names.lookup x:=λx=>by rw[he];rfl
 have hg':env.globals=fd.globals/\env.builtins=fd.builtins/\env.scope.kind=fd.scope.kind:=by rw[he];exact⟨rfl,rfl,rfl⟩
 refine xEE hin.toInCall.same λh2 tk e2=> ?_
 subst e2
 have kp:∀b o,s.heap.get? b=some o->h2.get? b=some o:=hin.toInCall.keep
 have hfr:=hin.toInCall.fresh
 have S0:zV C Nil Z U s Z U {s with heap:=h2,toks:=tk}:=zV.R9 hrel kp (alJ hfr (Nat.le_of_lt hin.toInCall.ns.lt)) rfl rfl
 have OE:jP env (zO 0 fd.scope.names) (jH fd.scope.names):=
  ⟨hg'.2.2.trans H.kind,hg'.1.trans H.Sb,hg'.2.1.trans H.bl,λx i hx=>(hk' x).trans (kindOf hx).1,λx k i hx hk=>(hk' x).symm▸(kindOf hx).2.elim (λe=>absurd e hk) λe=> .inl (e▸(kindOf hx).1),λx hx=>(hk' x).trans (uS hnd (hO hx)),
   λx y c hx hy=>name_of_addr hin.apart (mem_of_lookup hx) (mem_of_lookup hy),hnd.sublist facts.sub,facts.nodup⟩
 have hno:∀c,s.heap.objs.size<=c->¬own Z U c:=λc hc=>yI hrel hc
 have get:∀{i v},(uA (fps.zip vals) (List.replicate ((zO 0 fd.scope.names).length+8) none))[i]?=some (some v)->∀{x k},(x,k,i)∈zO 0 fd.scope.names->∃y,(x,y)∈names.zip yals/\zS C Z h2 v y:=λ{i v} hv {x k} hx=>
  (rY hv).elim (λhm=>(AK htwo0 hvals hm).elim λx' ⟨y,h3,⟨k',hk'⟩,h4⟩=>⟨y,(bG facts.nodup hx hk').1▸h3,h4.keeps S0.ext S0.QH⟩) λhm=>nomatch List.eq_of_mem_replicate (List.mem_of_getElem? hm)
 have ab:∀{x c},env.cells.lookup x=some c->env.locals<c:=λhc=>hin.above _ _ (mem_of_lookup hc)
 have FE:FrI C Z U h2 env (zO 0 fd.scope.names) (uA (fps.zip vals) (List.replicate ((zO 0 fd.scope.names).length+8) none)):=by
  refine⟨alJ hrel.size hfr,⟨_,hin.toInCall.ns,λx i hx v hv=> ?_⟩,hno _ hfr,λx c hc=>(hin.cell x c hc).lt,λx k i hx hk=> ?_⟩
  ·refine xEA (get hv hx) λy h3 h4=> ?_
   exact⟨y,xP ((hk' x).trans (kindOf hx).1) (hnodl.symm▸hnda) h3,h4⟩
  ·have hkc:=(kindOf hx).2.elim (λe=>absurd e hk) id
   subst hkc
   refine xE (Option.isSome_iff_exists.mp (hcel▸lG (facts.mem _ hx).1)) λc hc=> ?_
   have hge:s.heap.objs.size<=c:=alJ hfr (Nat.le_of_lt (ab hc))
   refine⟨c,_,hc,hin.cell x c hc,hno c hge,Cx.QJ (alJ hrel.size hge),Nat.ne_of_gt (ab hc),λv hv=> ?_⟩
   refine xEA (get hv hx) λy h3 h4=> ?_
   exact⟨y,Ap (λe=>nomatch (((hk' x).trans (kindOf hx).1).symm.trans e)) (hnodl.symm▸hnda) h3,h4⟩
 exact⟨hnl.keeps kp,q env _ OE S0 FE hfrm hscp kp λa ha=>ha.elim (λe=>e▸hfr) λ⟨x,hx⟩=>alJ hfr (Nat.le_of_lt (ab hx))⟩
def tV(n:Nat)(A:Around):Prop:=A.handled=none/\A.guards=some []/\A.depth+8*n+24<=690/\A.units+64*n+330<=9900
theorem Ea{a b c d e f:Nat}(h:a+b+c<=f)(k:d+e<=c):a+d+b+e<=f:=alJ (by rw[Nat.add_right_comm a d b,Nat.add_assoc (a+b)];exact Nat.add_le_add_left k _) h
theorem tV.okay{n:Nat}{A:Around}(h:tV n A)(env:PySem.Env):kO n (A.deeper env):=⟨h.1,h.2.1,Ea (d:=1) h.2.2.1 (by decide),Ea (d:=3) h.2.2.2 (by decide)⟩
theorem tV.lt{n:Nat}{A:Around}(h:tV n A):A.depth<1000:=alI (alJ (alJ (Nat.le_add_right _ _) (Nat.le_add_right _ _)) h.2.2.1) (by decide)
theorem BF{P:Ce}{Φ:Orc}{n a:Nat}{f:FI}(H:Calls C n P.j Φ)(hf:NB C a f){A:Around}(hR:tV n A){s:Shared}{Z:Emb}{U:St}{as:List V}{xs:List Value}{K:V->St->Prop}{R:Result->Shared->Prop}
  (hrel:Rel C Z U s.heap)(ha:zW C Z s.heap as xs)(h:z9 P.j Φ f as U K)(q:∀v U' s' Z' y,K v U'->zV C Nil Z U s Z' U' s'->zS C Z' s'.heap v y->R (.ok (.ret y)) s'):
  jK (Mo C) A (.call (.ref a) ⟨xs,[]⟩) R s:=by
 refine yW hf.ex λfd body F hcF hdl=> ?_
 refine zB hcF λps hps hcF=>zB hcF λb hb hcF=> ?_
 obtain⟨fps,fdf,fsl,fbd⟩:=f
 have e0:=alS hcF
 have e1:ps=fps:=alQ FI.params e0
 have e3:(zO 0 fd.scope.names).length+8=fsl:=alQ FI.slots e0
 have e4:b=fbd:=alQ FI.body e0
 clear e0 hcF
 subst e1 e3 e4
 refine zQ h λY hρ h=>zK hρ λhl hρ=> ?_
 have hρ:=alS hρ
 subst hρ
 refine enter H.X F hps hR.lt hrel ha hl.1 hl.2 hdl λenv s2 OE S0 FE J J J ab=>kS ?_
 refine sxs (F:=ex P.j Φ 64) ((jF hb).map λst ir hir=>cH H OE 40 hir) (hR.okay env) S0.Q8 FE (n9 h) λfl Y' U1 s3 Z3 w hk S3 F3 r3=> ?_
 have S:zV C Nil Z U s Z3 U1 s3:=((S0.Q7 (jjY:=Own env) λJ f=>f.elim).trans S3).Q7 λy hy=> .inr (ab y hy)
 cases r3 with
 |next=>exact q _ _ s3 Z3 .none hk S .none
 |brk=>exact False.elim hk
 |ret r3=>exact q _ _ s3 Z3 _ hk S r3
end
theorem E5{f:Loc->Loc}{p:V->Bool}(h:∀{v:V},p v=true->v.rn f=v):∀{l:List V},l.all p=true->V.RV f l=l
 |[],_=>rfl
 |a::r,q=>(alQ (· ::V.RV f r) (h (alA q).1)).trans (alQ (a:: ·) (E5 h (alA q).2))
theorem HJ{f:Loc->Loc}{n:Nat}:∀{v:V},uF n v=true->v.rn f=v:=by
 induction n with
 |zero=>intro v h;cases v<;>first|rfl|exact jG h
 |succ n ih=>intro v h;cases v<;>first|rfl|exact jG h|exact alQ V.Q1 (E5 ih h)
section
variable{C:Cx}{Z Z':Emb}{h:Heap}{f:Loc->Loc}(H:∀l p,Z l=some p->Z' (f l)=some p)
include H
theorem eG{v:V}{x:Value}(r:zS C Z h v x):zS C Z' h (v.rn f) x:=
 zS.rec (motive_1:=λv x J=>zS C Z' h (v.rn f) x) (motive_2:=λvs xs J=>zW C Z' h (V.RV f vs) xs) .none .bool .int .str .bytes
  (λht J ih=> .Q1 ht ih) .Rt (λe=> .c (H _ _ e)) .obj .ty .bi .nil (λJ J a r=> .cons a r) r
theorem EY{vs:List V}{xs:List Value}(r:zW C Z h vs xs):zW C Z' h (V.RV f vs) xs:=by
 have a:=r.al
 induction a with
 |nil=>exact .nil
 |cons a b ih=>exact .cons (eG H a) (ih (.of b))
theorem oR{es:List (V×V)}{ds:List DictEntry}(r:jW C Z h es ds):jW C Z' h (rnE f es) ds/\(rnE f es).map (·.1)=es.map (·.1):=by
 induction r with
 |nil=>exact⟨.nil,rfl⟩
 |cons a _ ih=>
  cases a with|mk a b c d=>
  have e:=HJ (f:=f) d
  refine⟨.cons (.mk (e.symm▸eG H a) (eG H b) (e.symm▸c) (e.symm▸d)) ih.1,?_⟩
  exact(alQ (· ::_) e).trans (alQ (_:: ·) ih.2)
theorem oE{es:List (Nat×V)}{ds:List DictEntry}(r:vK C Z h es ds):vK C Z' h (rnF f es) ds/\(rnF f es).map (·.1)=es.map (·.1):=by
 induction r with
 |nil=>exact⟨.nil,rfl⟩
 |cons a _ ih=>
  cases a with|mk a b=>
  exact⟨.cons (.mk a (eG H b)) ih.1,alQ (_:: ·) ih.2⟩
theorem o7{a d:Addr}{o:zU}(r:qE C Z h a d o):qE C Z' h a d (o.rn f):=by
 cases o with
 |list _=>refine dE r λe xs n h1 h2=> ?_;exact⟨e,xs,n,h1,EY H h2⟩
 |dict _=>refine xN r λe xs n h1 h2 h3=> ?_;exact⟨e,xs,n,h1,(oR H h2).1,(oR H h2).2.symm▸h3⟩
 |Qz _ _=>refine oK r λe xs n h1 h2 h3 h4 h5=> ?_;exact⟨e,xs,n,h1,h2,(oE H h3).1,(oE H h3).2.symm▸h4,h5⟩
 |QA _=>exact r
end
section
variable{C:Cx}{Z Z':Emb}{U D:St}{s s':Shared}
noncomputable def aH(U:St)(l:Loc):Bool:=Nat.beq l.k U.kd&&Nat.ble U.next l.i
theorem w4{l:Loc}(h:aH U l=true):l=⟨U.kd,l.i⟩/\U.next<=l.i:=by
 have h:=alA h
 exact⟨alQ (Loc.mk · l.i) (alP h.1),alE h.2⟩
theorem pB(i:Nat):aH U ⟨U.kd,U.next+i⟩=true:=alB ⟨Nat.beq_refl _,Nat.ble_eq_true_of_le (Nat.le_add_right _ _)⟩
noncomputable def FK(Z Z':Emb)(U:St):Emb:=λl=> @Bool.rec (λJ=>Option (Addr×Addr)) (Z l) (Z' ⟨10,l.i-U.next⟩) (aH U l)
theorem bB(i:Nat):FK Z Z' U ⟨U.kd,U.next+i⟩=Z' ⟨10,i⟩:=by
 show @Bool.rec (λJ=>Option (Addr×Addr)) _ (Z' ⟨10,U.next+i-U.next⟩) _=_
 rw[pB,Nat.add_sub_cancel_left]
theorem kM{l:Loc}(h:aH U l=false):FK Z Z' U l=Z l:=by unfold FK;rw[h]
theorem fR(i:Nat):(EL U D).get ⟨U.kd,U.next+i⟩=(D.get ⟨10,i⟩).map (zU.rn U.sh):=by
 show @Bool.rec (λJ=>Option zU) _ ((D.get ⟨10,U.next+i-U.next⟩).map _) (aH U _)=_
 rw[pB,Nat.add_sub_cancel_left]
theorem oX{l:Loc}(h:aH U l=false):(EL U D).get l=U.get l:=by
 show @Bool.rec (λJ=>Option zU) _ _ (aH U l)=_
 rw[h]
theorem E1{l:Loc}(h:aH U l=true):∃i,l=⟨U.kd,U.next+i⟩:=⟨l.i-U.next,by rw[Nat.add_sub_cancel' (w4 h).2];exact(w4 h).1⟩
theorem Bl(R:Rel C Z U s.heap){l:Loc}{p:Addr×Addr}(h:Z l=some p):aH U l=false:=alO λq=>by
 obtain⟨e,n⟩:=w4 q
 exact nn h (e▸R.fresh _ n)
variable(R:Rel C Z U s.heap)(S:zV C (λJ=>False) Z .Rg s Z' D s')
include R S
theorem Hy{l:Loc}{p:Addr×Addr}(h:Z' l=some p):FK Z Z' U (U.sh l)=some p:=by
 have e:U.sh l= @Bool.rec (λJ=>Loc) l ⟨U.kd,U.next+l.i⟩ (Nat.beq l.k 10):=rfl
 cases q:Nat.beq l.k 10 with
 |true=>
  rw[e,q]
  have z:l=⟨10,l.i⟩:=alQ (Loc.mk · l.i) (alP q)
  exact(bB _).trans (z▸h)
 |false=>
  rw[e,q]
  have z:Z l=some p:=(S.Rc l p h).elim id λq'=>nomatch q.symm.trans (q'▸rfl:Nat.beq l.k 10=true)
  exact(kM (Bl R z)).trans z
theorem Fu:zV C (λJ=>False) Z U s (FK Z Z' U) (EL U D) s':=by
 have nil:∀a,¬own Z .Rg a:=λa ⟨_,_,h,_⟩=>h rfl
 have ext:∀l p,Z l=some p->FK Z Z' U l=some p:=λl p h=>(kM (Bl R h)).trans h
 have knd:D.kd=10:=S.kd
 have RB:∀{l p},(EL U D).get l≠none->FK Z Z' U l=some p->(aH U l=false/\U.get l≠none/\Z l=some p/\p.1<s.heap.objs.size/\p.2<s.heap.objs.size)\/∃i,l=⟨U.kd,U.next+i⟩/\D.get ⟨10,i⟩≠none/\Z' ⟨10,i⟩=some p/\s.heap.objs.size<=p.1/\s.heap.objs.size<=p.2:=λ{l p} hg hp=>by
  cases q:aH U l with
  |false=>
   have hg:U.get l≠none:=oX (D:=D) q▸hg
   have hp:Z l=some p:=(kM q).symm.trans hp
   refine xE (R.lives_at hg hp) λo L=> ?_
   have z:=L.obj.lives
   exact .inl ⟨rfl,hg,hp,z.1.elim λJ q=>Heap.lt_size q.1,z.2.elim λJ q=>Heap.lt_size q.1⟩
  |true=>
   refine xE (E1 q) λi e=> ?_
   subst e
   have hg:D.get ⟨10,i⟩≠none:=λe=>hg ((fR i).trans (alQ (Option.map _) e))
   have hp:Z' ⟨10,i⟩=some p:=(bB i).symm.trans hp
   exact .inr ⟨i,rfl,hg,hp,(S.QY _ ⟨_,_,hg,hp,.inl rfl⟩).resolve_left (nil _),(S.QY _ ⟨_,_,hg,hp,.inr rfl⟩).resolve_left (nil _)⟩
 refine⟨ext,⟨S.Q8.size,S.Q8.keep,λl o e=> ?_,λl l' p p' hl hl' hp hp' hne=> ?_,λn hn=> ?_,λn hn=> ?_,λe n=> ?_⟩,λa o e J nx=>S.keep a o e (nil a) nx,S.QH,λa ⟨l,p,hg,hp,e⟩=> ?_,S.size,Nat.le_add_right _ _,S.gens,S.os,rfl,λl p e=> ?_⟩
 ·cases q:aH U l with
  |false=>
   exact bY R ext S.QH ((oX q).symm.trans e) λp x J=>⟨λh=>S.keep _ _ h (nil _) id,λh=>S.keep _ _ h (nil _) id⟩
  |true=>
   refine xE (E1 q) λi e'=> ?_
   subst e'
   refine xEA (alD ((fR i).symm.trans e)) λo' ho e=> ?_
   refine yW (S.Q8.objs _ _ ho) λa d h1 h2 h3=> ?_
   exact⟨a,d,(bB i).trans h1,e▸o7 (λJ J=>Hy R S) h2,h3⟩
 ·have lt:=λ{a b:Nat} (h:a<s.heap.objs.size) (g:s.heap.objs.size<=b)=>Nat.ne_of_lt (Nat.lt_of_lt_of_le h g)
  rcases RB hl hp with⟨_,a1,a2,a3,a4⟩|⟨i,rfl,a1,a2,a3,a4⟩
  ·rcases RB hl' hp' with⟨_,b1,b2,_⟩|⟨j,rfl,b1,b2,b3,b4⟩
   ·exact R.inj l l' p p' a1 b1 a2 b2 hne
   ·exact⟨lt a3 b3,lt a3 b4,lt a4 b3,lt a4 b4⟩
  ·rcases RB hl' hp' with⟨_,b1,b2,b3,b4⟩|⟨j,rfl,b1,b2,b3,b4⟩
   ·exact⟨(lt b3 a3).symm,(lt b4 a3).symm,(lt b3 a4).symm,(lt b4 a4).symm⟩
   ·exact S.Q8.inj _ _ p p' a1 b1 a2 b2 λq=>hne (alQ (λl:Loc=>(⟨U.kd,U.next+l.i⟩:Loc)) q)
 ·have e:n=U.next+(n-U.next):=(Nat.add_sub_cancel' (alJ (Nat.le_add_right _ _) hn)).symm
  have z:=S.Q8.fresh (n-U.next) (Nat.le_sub_of_add_le (Nat.add_comm _ _▸hn))
  exact e▸(bB _).trans (knd▸z)
 ·have e:n=U.next+(n-U.next):=(Nat.add_sub_cancel' (alJ (Nat.le_add_right _ _) hn)).symm
  have z:=S.Q8.R6 (n-U.next) (Nat.le_sub_of_add_le (Nat.add_comm _ _▸hn))
  exact e▸(fR _).trans (alQ (Option.map _) (knd▸z:D.get ⟨10,n-U.next⟩=none))
 ·have e:U.kd=0:=e
  exact(kM (alO λq=>nomatch (alQ Loc.k (w4 q).1:(10:Nat)=U.kd).trans e)).trans (R.RX e n)
 ·exact(RB hg hp).elim (λz=> .inl ⟨l,p,z.2.1,z.2.2.1,e⟩) λ⟨_,_,_,_,z1,z2⟩=> .inr (e.elim (λe=>e▸z1) λe=>e▸z2)
 ·cases q:aH U l with
  |false=>exact .inl ((kM q).symm.trans e)
  |true=>exact .inr (alQ Loc.k (w4 q).1)
omit S in
theorem AN(h:U.kd=0):Rel C Z .Rg s.heap:=⟨R.size,R.keep,λJ J e=>(nomatch e),λJ J J J h=>(h rfl).elim,λn J=>R.RX h n,λJ J=>rfl,λe=>(nomatch e)⟩
end
end
section
open PySem PySem.W PyProof.Rows PySem.Calls
structure Iu(C:Cx)(a i:Nat):Prop where
 makes:makesIn C.K a=true
 init:findIn C.K (.ref a) "__init__"=some (some (.ref i))
 fn:typeIn C.K (.ref i)=some (.type "function")
 keep:keepIn C.K (.ref a)=true
 mem:a∈C.cls
structure aJ(C:Cx)(P:Ce):Prop where
 X:y9 C
 fn:∀a f,P.fn a=some f->NB C a f
 cls:∀a i,P.cls a=some i->Iu C a i
 wA:C.T.j[P.j.QU]?=some "append"
 wG:C.T.j[P.j.QS]?=some "get"
 ne:P.j.QU≠P.j.QS
section
variable{C:Cx}
theorem dZ{a b c d k n f:Nat}(h:a+k*(n+1)+c<=f)(e:b+d<=k+c):a+b+k*n+d<=f:=
 alJ (by rw[Nat.add_right_comm a b,Nat.mul_succ,<-Nat.add_assoc a,Nat.add_assoc (a+k*n) b,Nat.add_assoc (a+k*n) k];exact Nat.add_le_add_left e _) h
theorem Ad{n:Nat}{A:Around}{a:Addr}{r:List Value}(h:kO (n+1) A):tV n (A.under (.builtin "type.__call__" ⟨.ref a::r,[]⟩)):=
 ⟨h.1,by show pushGuards [] A.guards=some [];rw[h.2.1];rfl,dZ (b:=1) h.2.2.1 (by decide),dZ (b:=1) h.2.2.2 (by decide)⟩
theorem mE{n:Nat}{A:Around}(h:kO (n+1) A):tV n A:=⟨h.1,h.2.1,dZ (b:=0) h.2.2.1 (by decide),dZ (b:=0) h.2.2.2 (by decide)⟩
theorem cC{n:Nat}{A:Around}(h:kO (n+1) A):kO n A:=⟨h.1,h.2.1,dZ (b:=0) h.2.2.1 (by decide),dZ (b:=0) h.2.2.2 (by decide)⟩
inductive wJ(P:Ce)(a k:Nat):(List V->St->Cp V)->Prop
 |run {S:List V->St->Cp V} (h:∀n vs U K,k<=n->S vs U K->wL P (orc P n) a vs U K):wJ P a k S
 |own {pre:List V->Prop} {T:List V->V->St->Prop} (h:∀n vs (K:V->St->Prop),k<=n->pre vs->(∀v D,T vs v D->K v D)->wL P (orc P n) a vs .Rg K):wJ P a k (CS pre T)
def GE(P:Ce):Prop:=∀a k S,P.sum a=some (k,S)->wJ P a k S
theorem FS{P:Ce}(H:aJ C P){n:Nat}(ih:SF C n (orc P n)):SF C (n+1) (wL P (orc P n)):=by
 intro a vs xs A s Z U K R O hR hv h q
 have HC:Calls C n P.j (orc P n):=⟨H.X,ih,H.wA,H.wG,H.ne⟩
 unfold wL at h
 cases hf:P.fn a with
 |some f=>
  rw[hf] at h
  have F:=H.fn a f hf
  exact⟨F.keep,BF HC F (mE O) hR hv h q⟩
 |none=>
  rw[hf] at h
  refine zQ h λi hi h=>zQ h λf hfi h=> ?_
  have K':=H.cls a i hi
  refine⟨K'.keep,?_⟩
  have KX:C.K.In s.heap:=H.X.KX.keeps hR.keep
  have S1:zV C Nil Z U s (Z.Rb U.fr (s.heap.objs.size+1,s.heap.objs.size)) (U.new (.Qz a [])) {s with heap:=(s.heap.push emptyDict).push (instObj a s.heap.objs.size)}:=by
   refine zV.new hR (λb ob e=>Heap.get?_push_of_some _ (Heap.get?_push_of_some _ e)) ?_ (Nat.le_succ _) (Nat.le_refl _) (λJ J=>⟨Nat.succ_ne_self _,[],0,?_,Heap.get?_push_of_some _ (Heap.get?_push_size _ rfl),.nil,.nil,K'.mem⟩) rfl rfl
   ·show s.heap.objs.size<=((s.heap.push emptyDict).push (instObj a s.heap.objs.size)).objs.size
    rw[Heap.size_push,Heap.size_push];exact Nat.le_add_right _ 2
   ·have e:=Heap.get?_push_size (h:=s.heap.push emptyDict) (o:=instObj a s.heap.objs.size) rfl
    rw[Heap.size_push] at e
    exact e
  refine Mz (makes_of KX K'.makes) (looks_findIn KX K'.init) (λself=>bind_fn KX self K'.fn) rfl ?_
  exact BF HC (H.fn i f hfi) (Ad O) S1.Q8 (.cons (.c q6) (hv.keeps S1.ext S1.QH)) h λv U' s2 Z2 y hk S2 ry=>j1 hk λhu hk=>
   ⟨(dA hu▸ry:zS C Z2 s2.heap .none y).Rq,q _ _ s2 Z2 _ hk (S1.trans S2) (.c (S2.ext _ _ q6))⟩
theorem DZ{P:Ce}(H:aJ C P)(HS:GE P):∀n,SF C n (orc P n):=by
 intro n
 induction n with
 |zero=>exactλJ J J h=>False.elim h
 |succ n ih=>
  intro a vs xs A s Z U K R O hR hv h q
  have B:SF C (n+1) (wL P (orc P n)):=FS H ih
  have h: @Option.rec (Nat×(List V->St->Cp V)) (λJ=>Prop) (wL P (orc P n) a vs U K) (λS=>dL (Nat.ble S.1 n) (S.2 vs U K) False) (P.sum a):=h
  cases hs:P.sum a with
  |none=>rw[hs] at h;exact B O hR hv h q
  |some x=>
   rw[hs] at h
   refine j1 h λhk h=> ?_
   have hk:=alE hk
   obtain⟨k,S⟩:=x
   cases HS a k S hs with
   |run z=>exact B O hR hv (z n vs U K hk h) q
   |own z=>
    obtain⟨o,hp,h⟩:=h
    have o:=alP o
    exact B O (AN hR o) hv (z n vs _ hk hp λJ J z=>z) λv D s' Z' y hk S r=>q _ _ s' _ y (h v D hk λm hm=>(alQ (λk=>D.get ⟨k,m⟩) (S.kd:D.kd=10)).symm.trans (S.Q8.R6 m hm)) (Fu hR S) (eG (λJ J=>Hy hR S) r)
end
section
variable{C:Cx}
theorem cZ{a:Nat}{fd:FuncData}{body:List Stmt}{fps:List Nat}(X:y9 C)(H:H6 C a fd body [])(hps:fd.params.args.mapM (λx=>qN (zO 0 fd.scope.names) x.arg)=some fps){A:Around}(hA:A.depth<1000)
  {s:Shared}{Z:Emb}{U:St}(hrel:Rel C Z U s.heap){vals:List V}{yals:List Value}(hvals:zW C Z s.heap vals yals)(hvl:fps.length=vals.length){R:Result->Shared->Prop}
  (q:∀env s',jP env (zO 0 fd.scope.names) (jH fd.scope.names)->zV C Nil Z U s Z U s'->FrI C Z U s'.heap env (zO 0 fd.scope.names) (uA (fps.zip vals) (List.replicate ((zO 0 fd.scope.names).length+8) none))->
   env.frame=some env.locals->env.scope=fd.scope->(∀b o,s.heap.get? b=some o->s'.heap.get? b=some o)->(∀a,Own env a->s.heap.objs.size<=a)->jK (Mo C) A (.func body env) R s'):
  jK (Mo C) A (.call (.ref a) ⟨yals,[]⟩) R s:=by
 have e:vals++([]:List V).drop (([]:List V).length-(fps.length-vals.length))=vals:=by rw[List.drop_nil,List.append_nil]
 exact enter X H hps hA hrel hvals (Nat.le_of_eq hvl.symm) (Nat.le_of_eq hvl) (Nat.zero_le _) (e.symm▸q)
end
end
section
open PySem PySem.W PySem.Calls
structure EC where
 (nm q:Str) (N:Addr) (bs:List Value) (sn:List Str) (sub:List Value) (ab:Bool) (col:Option Bool) (dd:Option Addr) (k0 k1 k2 k3 k5:Option Value)
noncomputable abbrev EC.o(c:EC)(C:Addr)(bm:List Value)(newId:String):Obj:=excClassObj c.nm c.q C c.N c.bs bm true c.sn c.sub c.ab c.col c.dd c.k0 c.k1 c.k2 c.k3 c.k5 newId
section
variable{prog:Program}{w:World}{A:Around}{E:Value->Shared->Prop}{h:Heap}{g:Array GenState}{d:Drawn}{t:Nat}{os:OsState}
variable{c:EC}{C:Addr}{bm bmB:List Value}{B newId initId:String}
theorem CV{C:Addr}{rest:List Value}:∃(X1 X2:Sem Unit) (F:Value->Option String->Sem Unit),checkBuiltinCall "Exception.__new__" ⟨.ref C::rest,[]⟩=(isType (.ref C)>>=λr=>if(!r)=true then X1 else isSubtype (.ref C) (.type "Exception")>>=λr=>if(!r)=true then X2 else Bind.staticBase (.ref C)>>=λbase=>Bind.madeBy base>>=F base)/\
  ∀base,F base (some "Exception.__new__")=Bind.checkArgs "Exception.__new__" ⟨.any,"Exception","Exception",.cls,[⟨"args",.varPos,false⟩,⟨"kwargs",.varKw,false⟩]⟩ ⟨.ref C::rest,[]⟩:=by
 apply Exists.intro;apply Exists.intro;apply Exists.intro
 constructor
 ·unfold checkBuiltinCall
  rw[F.excBase_Exception.newKind,F.excBase_Exception.newSplit,F.excBase_Exception.newRow]
  rfl
 ·intro base
  show(if(Manifest.canonical "Exception.__new__" !=Manifest.canonical "Exception.__new__")=true then _ else _)=_
  rw[bne_self_eq_false]
  rfl
theorem Fp{C:Addr}{rest:List Value}:Bind.checkArgs "Exception.__new__" ⟨.any,"Exception","Exception",.cls,[⟨"args",.varPos,false⟩,⟨"kwargs",.varKw,false⟩]⟩ ⟨.ref C::rest,[]⟩=pure ():=by
 rfl
theorem fD(hB:bm.contains (.type "Exception")=true){M:Model}{rest:List Value}{Q:Unit->Shared->Prop}(hC:h.get? C=some (c.o C bm "Exception.__new__"))
  (hq:Q () ⟨h,g,d,t,os⟩):wpAny M A (checkBuiltinCall "Exception.__new__" ⟨.ref C::rest,[]⟩) Q E ⟨h,g,d,t,os⟩:=by
 have hcont:(Value.ref C::bm).contains (.type "Exception")=true:=by rw[List.contains_cons,hB,Bool.or_true]
 refine Hk (CV (C:=C) (rest:=rest)) λX1 X2 F e1 e2=> ?_
 refine j4 e1 (wpAny_bind ?_)
 unfold isType
 refine wpAny_bind ?_
 refine wpAny_load (s:=⟨h,g,d,t,os⟩) hC (wpAny_pure (wpAny_bind (wpAny_isSubtype_exc hC ?_)))
 rw[hcont]
 exact wpAny_bind (wpAny_staticBase_exc hC (wpAny_bind (wpAny_madeBy_exc hC (j4 ((e2 _).trans Fp) (wpAny_pure hq)))))
theorem FR(F:ExcBaseFacts B newId initId bmB)(hB:bm.contains (.type B)=true)(hA':bm.contains (.type "AttributeError")=false)(hN':bm.contains (.type "NameError")=false){R:Result->Shared->Prop}{rest:List Value}(hC:h.get? C=some (c.o C bm newId))
  (hq:R (.ok (.ret (.ref (h.objs.size+1)))) ⟨(h.push {cls:= .type "tuple",data:= .seq rest.toArray}).push
   {cls:= .ref C,data:= .fields #[.ref h.objs.size,.none,.none,.none,.bool false,.none]},g,d,t,os⟩)(hrest:rest.length<=sizeLine):
  codeAny (model prog w) A (.builtin newId ⟨.ref C::rest,[]⟩) R ⟨h,g,d,t,os⟩:=by
 have hends:=F.ends
 have hcB:(Value.ref C::bm).contains (.type B)=true:=by rw[List.contains_cons,hB,Bool.or_true]
 have hcA:(Value.ref C::bm).contains (.type "AttributeError")=false:=by rw[List.contains_cons,hA'];rfl
 have hcN:(Value.ref C::bm).contains (.type "NameError")=false:=by rw[List.contains_cons,hN'];rfl
 refine codeAny_builtinAt F.entry ?_
 unfold Builtin.«BaseException.__new__»
 refine wpAt_bind ?_
 show wpAt _ _ _ (stack>>=_) _ _ _
 refine wpAt_bind (wpAt_stack λp below=>wpAt_of_wpAny ?_)
 wp_walk
 refine wpAt_of_wpAny ?_
 rw[F.owner]
 repeat (first|with_reducible refine wpAny_madeHere_exc F.canon hC ?_|with_reducible refine wpAny_loadPart_at hC ?_|(with_reducible refine wpAny_isSubtype_exc hC ?_;first|rw[hcB]|rw[hcA]|rw[hcN])|wp_step)
 show R _ _
 rw[Heap.size_push]
 exact hq
theorem fG{K:Frag}(X:K.In h)(hB:bm.contains (.type "Exception")=true)(hA':bm.contains (.type "AttributeError")=false)(hN':bm.contains (.type "NameError")=false){rest:List Value}{fI:Addr}{Q:Fin->Shared->Prop}
  (hC:h.get? C=some (c.o C bm "Exception.__new__"))(hi:findIn K (.ref C) "__init__"=some (some (.ref fI)))(hf:typeIn K (.ref fI)=some (.type "function"))
  (hq:∀h' e,Heap.MadeExcOf h h' e (.ref C) rest->
   wpAny (model prog w) A (call (.ref fI) (.ref e::rest)) (λr s'=>r= .none/\Q (.done (.ret (.ref e))) s') E ⟨h',g,d,t,os⟩)(hrest:rest.length<=sizeLine):
  wpAny (model prog w) A (Builtin.«type.__call__» ⟨.ref C::rest,[]⟩) Q E ⟨h,g,d,t,os⟩:=by
 refine AJ (pI (C:=C) (rest:=rest)) λX1 F a1 X2 X3 a2 a3=> ?_
 refine j4 a1 (wpAny_bind (wpAny_mroOf_exc hC (j4 (if_neg Bool.false_ne_true) (wpAny_bind (wpAny_madeBy_exc hC (j4 (a2 _) (wpAny_bind (wpAny_holding (wpAny_call ?_)))))))))
 refine codeAny_call_builtin_code (Code.quiet_builtin _ PySem.F.excBase_Exception.quiet) (fD hB hC ?_)
 refine FR PySem.F.excBase_Exception hB hA' hN' hC ?_ hrest
 show wpAny _ _ _ _ _ _
 have keep:∀b o,h.get? b=some o->((h.push {cls:= .type "tuple",data:= .seq rest.toArray}).push {cls:= .ref C,data:= .fields #[.ref h.objs.size,.none,.none,.none,.bool false,.none]}).get? b=some o:=
  λb o e=>Heap.get?_push_of_some _ (Heap.get?_push_of_some _ e)
 have hC₁:=keep _ _ hC
 have X₁:=X.keeps keep
 have hget:((h.push {cls:= .type "tuple",data:= .seq rest.toArray}).push
   {cls:= .ref C,data:= .fields #[.ref h.objs.size,.none,.none,.none,.bool false,.none]}).get? (h.objs.size+1)=some
   {cls:= .ref C,data:= .fields #[.ref h.objs.size,.none,.none,.none,.bool false,.none]}:=by heap_get
 have hcC:(Value.ref C::bm).contains (.ref C)=true:=by simp
 unfold isInstance
 repeat (first|with_reducible refine wpAny_loadPart_at hget ?_|(with_reducible refine wpAny_isSubtype_exc hC₁ ?_;rw[hcC])|wp_step)
 show wpAny _ _ (typeLookup (.ref C) _) _ _ _
 refine(looks_findIn X₁ hi).at ?_
 refine wpAny_holding (wpAny_bind ((bind_fn X₁ _ hf).at ?_))
 refine wpAny_bind (wpAny_mono (hq _ (h.objs.size+1) ⟨keep,Heap.get?_none_of_le (Nat.le_succ _),h.objs.size,hget,Heap.get?_none_of_le (Nat.le_refl _),?_⟩) (λr s' hr=> ?_) λJ J x=>x)
 ·exact Heap.get?_push_of_some _ (Heap.get?_push_at rfl rfl)
 ·refine xA hr λe_0 hQ=> ?_
  subst e_0
  wp_walk
  exact j4 (a3 _) (wpAny_pure hQ)
theorem Cy{K:Frag}(X:K.In h)(hB:bm.contains (.type "Exception")=true)(hA':bm.contains (.type "AttributeError")=false)(hN':bm.contains (.type "NameError")=false){rest:List Value}{fI:Addr}{R:Result->Shared->Prop}
  (hC:h.get? C=some (c.o C bm "Exception.__new__"))(hi:findIn K (.ref C) "__init__"=some (some (.ref fI)))(hf:typeIn K (.ref fI)=some (.type "function"))
  (hq:∀h' e,Heap.MadeExcOf h h' e (.ref C) rest->
   wpAny (model prog w) (A.under (.builtin "type.__call__" ⟨.ref C::rest,[]⟩)) (call (.ref fI) (.ref e::rest)) (λr s'=>r= .none/\R (.ok (.ret (.ref e))) s') (λe s'=>R (.error e) s') ⟨h',g,d,t,os⟩)(hrest:rest.length<=sizeLine):
  codeAny (model prog w) A (.call (.ref C) ⟨rest,[]⟩) R ⟨h,g,d,t,os⟩:=by
 have f1:=tc_lookup
 have f2:=tc_bind (.ref C)
 have hT:(⟨h,g,d,t,os⟩:Shared).TypeIs (.ref C) "type":=⟨_,hC,rfl⟩
 refine codeAny_of_tree ?_
 show wpAny _ _ (callAny (.ref C) _) _ _ _
 repeat (any_goals (first|assumption|with_reducible refine wpAny_loadPart_at hC ?_|wp_step))
 refine⟨rfl,?_⟩
 refine codeAny_call_builtin_at (Code.quiet_builtin _ (by decide+kernel)) entry_typeCall (wpAny_check_type_call_sub hC (fG X hB hA' hN' hC hi hf (λh' e hm=> ?_) hrest))
 exact hq h' e hm
end
end
section
open PySem PySem.W PySem.Calls
open Builtin Builtin.ObjectAttr
section
variable{prog:Program}{w:World}{A:Around}{E:Value->Shared->Prop}{h:Heap}{g:Array GenState}{d:Drawn}{t:Nat}{os:OsState}
variable{c:EC}{C x:Addr}{bm:List Value}{newId:String}
 {mA:Str->Option Value}{name:Str}{v:Value}{K:Frag}
theorem iS{M:Model}{o:Obj}{T:String}(hB:bm.contains (.type T)=true)(hC:h.get? C=some (c.o C bm newId))(hx:h.get? x=some o)(hc:o.cls= .ref C):
  Looks M h (isInstance (.ref x) (.type T)) true:=λA Q E s k hq=>by
 have hcB:(Value.ref C::bm).contains (.type T)=true:=by rw[List.contains_cons,hB,Bool.or_true]
 obtain⟨h',g,d,t,os⟩:=s
 have hC':=k _ _ hC
 have hx':=k _ _ hx
 unfold isInstance
 repeat (first|(with_reducible refine wpAny_loadPart_at hx' ?_;rw[hc])|(with_reducible refine wpAny_isSubtype_exc hC' ?_;rw[hcB])|wp_step)
 all_goals exact hq
theorem iI{sa ow B:String}{bm':List Value}(SF:PySem.StoreFacts B bm' sa ow){M:Model}{o:Obj}{nameV:Value}{Q:Unit->Shared->Prop}(hB:bm.contains (.type ow)=true)
  (hC:h.get? C=some (c.o C bm newId))(hx:h.get? x=some o)(hc:o.cls= .ref C)(hq:Q () ⟨h,g,d,t,os⟩):
  wpAny M A (checkBuiltinCall sa ⟨[.ref x,nameV,v],[]⟩) Q E ⟨h,g,d,t,os⟩:=
 check_slot SF.kind SF.split (iS hB hC hx hc) (SF.args _ _ _) hq
structure Kw(i ow n:String):Prop where
 kind:builtinKind i=some .slot
 split:splitId i=some (ow,n)
 args (a b:Value):argsOk i ⟨[a,b],[]⟩
theorem Av{M:Model}{o:Obj}{i ow n:String}(F:Kw i ow n){b:Value}{Q:Unit->Shared->Prop}(hB:bm.contains (.type ow)=true)
  (hC:h.get? C=some (c.o C bm newId))(hx:h.get? x=some o)(hc:o.cls= .ref C)(hq:Q () ⟨h,g,d,t,os⟩):
  wpAny M A (checkBuiltinCall i ⟨[.ref x,b],[]⟩) Q E ⟨h,g,d,t,os⟩:=
 check_slot F.kind F.split (iS hB hC hx hc) (F.args _ _) hq
abbrev lI(h:Heap)(x C:Addr)(name:Str)(v:Value)(mA:Str->Option Value)(K:Heap->Nat->Prop):Prop:=
 ∀h' tk',h'.Inst x C (λy=>if y=name then some v else mA y)->
   (∀b o,b≠x->(∀o₀ dx,h.get? x=some o₀->o₀.dict=some dx->b≠dx)->h.get? b=some o->h'.get? b=some o)->
   (∀o₀,h.get? x=some o₀->∃o₁,h'.get? x=some o₁/\o₁.cls=o₀.cls/\o₁.data=o₀.data/\o₁.slots=o₀.slots/\(∀dx,o₀.dict=some dx->o₁.dict=some dx)/\(o₀.dict=none->∃dx,o₁.dict=some dx/\h.get? dx=none))->h.objs.size<=h'.objs.size->K h' tk'
theorem wD{dx:Addr}{m:Str->Option Value}{ns:List Str}{tk:Tok}{Q:Fin->Shared->Prop}(hns:h.Ns1 dx m)(hw:Within m ns)(hsz:ns.length<=1000)
  (hq:∀h' tk',h'.Ns1 dx (λy=>if y=name then some v else m y)->Heap.SameBut dx h h'->Q (.done (.ret .none)) ⟨h',g,d,tk',os⟩):wpAny (model prog w) A (storeInDict dx (.str name tk) name v) Q E ⟨h,g,d,t,os⟩:=by
 unfold storeInDict newKeyGuard
 refine wpAny_bind (wpAny_pure (wpAny_bind (wpAny_nsSet1 hns λh' hn' hs=> ?_)))
 refine oN (hn'.count (Within.cons name v hw)) λoD esD epD hoD hdD hcD=> ?_
 refine wpAny_bind (wpAny_lookBehind hoD (by rw[hdD];exact pastItsLine_dict (alJ hcD (by rw[List.length_cons,sizeLine_eq];exact alJ (Nat.succ_le_succ hsz) (by decide)))) ?_)
 wp_walk
 exact hq h' _ hn' hs
theorem DL{x:Addr}{o:Obj}(hx:h.get? x=some o):((h.push emptyDict).update x λo=>{cls:=o.cls,dict:=some h.objs.size,data:=o.data,slots:=o.slots}).get? x=some {cls:=o.cls,dict:=some h.objs.size,data:=o.data,slots:=o.slots}/\
  ((h.push emptyDict).update x λo=>{cls:=o.cls,dict:=some h.objs.size,data:=o.data,slots:=o.slots}).Ns h.objs.size (λJ=>none):=by
 have hx₁:(h.push emptyDict).get? x=some o:=Heap.get?_push_of_some _ hx
 refine⟨Heap.get?_update_self _ hx₁ ?_,_,#[],_,(Heap.get?_update_ne _ _ _ _ (Nat.ne_of_gt (Heap.lt_size hx))).trans (Heap.get?_push_at rfl rfl),rfl,λe he=>absurd he (by simp),λJ=>rfl⟩
 have hfr:=(Heap.get?_some_iff.mp hx).2
 obtain⟨oc,od,odt,osl⟩:=o
 cases odt<;>first|rfl|exact hfr
set_option tactic.hygienic true in
theorem bQ{tk:Tok}{Q:Fin->Shared->Prop}{ns:List Str}(X:K.In h)(hbm:bm= .ref N::[.type "Exception",.type "BaseException",.type "object"])
  (hC:h.get? C=some (c.o C bm newId))(hf:findIn K (.ref C) name=some none)(I:h.Inst x C mA)
  (hq:lI h x C name v mA λh' tk'=>Q (.done (.ret .none)) ⟨h',g,d,tk',os⟩)(hw:Within mA ns)(hsz:ns.length<=1000):
  wpAny (model prog w) A (Builtin.«object.__setattr__» ⟨[.ref x,.str name tk,v],[]⟩) Q E ⟨h,g,d,t,os⟩:=by
 refine Gj I λo hx hc hnc hd=> ?_
 have hpass:=PySem.F.store_Exception.passes (.ref x)
 have L1:=looks_findIn (M:=model prog w) X hf
 unfold Builtin.«object.__setattr__»
 repeat (first|rw[refuse_eq]|(rw[hbm,refuseLoop_ref,refuseLoop_ref,hpass])|(with_reducible refine wpAny_loadPart_at hx ?_;rw[hc])|with_reducible refine wpAny_mroOf_exc hC ?_|(with_reducible refine L1.at ?_)|wp_step)
 rcases hd with⟨hdn,hmA⟩|⟨dx,hdx,hne,hns⟩
 ·rw[hdn,if_neg (by simp[typeHasDict])]
  split
  ·rename_i hcd
   cases hcd
  split
  ·rename_i c hcd
   exact absurd hcd (hnc c)
  ·have hxs:x≠h.objs.size:=Nat.ne_of_lt (Heap.lt_size hx)
   have N:=DL hx
   refine wpAny_bind (wpAny_alloc' (wpAny_bind (wpAny_update' (Heap.get?_push_of_some _ hx) (wpAny_pure ?_))))
   refine wD (Heap.Ns1.of_empty N.2) Within.nil (Nat.zero_le _) λh' tk' hn' hs=> ?_
   refine hq h' _ ⟨_,(hs.2 x hxs).trans N.1,hc,hnc,.inr ⟨h.objs.size,rfl,hxs.symm,(funext hmA:mA=_)▸hn'⟩⟩ (λb ob hbx J hb=>(hs.2 b (Nat.ne_of_lt (Heap.lt_size hb))).trans ((Heap.get?_update_ne _ _ _ _ hbx).trans (Heap.get?_push_of_some _ hb)))
    (λo₀ h₀=>(alS (hx.symm.trans h₀))▸⟨_,(hs.2 x hxs).trans N.1,rfl,rfl,rfl,λdx e=>(nomatch hdn.symm.trans e),λJ=>⟨_,rfl,Heap.get?_none_of_le (Nat.le_refl _)⟩⟩) (Nat.le_of_lt (by rw[hs.1,Heap.size_after_update,Heap.size_push];exact Nat.lt_succ_self _))
 ·rw[hdx]
  refine wpAny_pure (wD hns hw hsz λh' tk' hn' hs=> ?_)
  exact hq h' _ ⟨o,(hs.2 x hne.symm).trans hx,hc,hnc,.inr ⟨dx,hdx,hne,hn'⟩⟩ (λb ob J hbd hb=>(hs.2 b (hbd o dx hx hdx)).trans hb)
   (λo₀ h₀=>⟨o₀,(hs.2 x hne.symm).trans h₀,rfl,rfl,rfl,λJ e=>e,λq=>nomatch hdx.symm.trans ((alQ Obj.dict (alS (hx.symm.trans h₀))).trans q)⟩) (Nat.le_of_eq hs.1.symm)
theorem hM{Q:Unit->Shared->Prop}{ns:List Str}(X:K.In h)(hbm:bm= .ref N::[.type "Exception",.type "BaseException",.type "object"])
  (hC:h.get? C=some (c.o C bm newId))(hs:findIn K (.ref C) "__setattr__"=some (some (.builtin "object.__setattr__")))(hf:findIn K (.ref C) name=some none)(hxC:x≠C)(I:h.Inst x C mA)
  (hq:lI h x C name v mA λh' tk'=>Q () ⟨h',g,d,tk',os⟩)(hw:Within mA ns)(hsz:ns.length<=1000):
  wpAny (model prog w) A (PySem.setAttr (.ref x) name v) Q E ⟨h,g,d,t,os⟩:=by
 have hB:bm.contains (.type "object")=true:=by rw[hbm];rfl
 refine eO (id I) λo hx hc J=> ?_
 have SF:=PySem.F.store_Exception
 have f3:=SF.slot.bind (.ref x)
 have L2:=looks_findIn (M:=model prog w) X hs
 unfold PySem.setAttr callSpecial? specialOf
 repeat (any_goals (first|assumption|(with_reducible refine wpAny_loadPart_at hx ?_;rw[hc])|(with_reducible refine L2.at ?_)|wp_step))
 refine codeAny_call_builtin SF.slot.plain SF.entry (iI SF hB hC hx hc (bQ X hbm hC hf I (λh' tk' I' hk hsame hz=> ?_) hw hsz))
 repeat (any_goals (first|assumption|wp_step))
 exact hq h' tk' I' hk hsame hz
end
section
variable{prog:Program}{w:World}{A:Around}{E:Value->Shared->Prop}{h:Heap}{g:Array GenState}{d:Drawn}{t:Nat}{os:OsState}
variable{c:EC}{C a:Addr}{bm:List Value}{newId:String}
 {mA:Str->Option Value}{name:Str}{v:Value}{K:Frag}
theorem bga:Kw "BaseException.__getattribute__" "BaseException" "__getattribute__" where
 kind:=by decide+kernel
 split:=by decide+kernel
 args:=PySem.F.args_bexc_ga
set_option tactic.hygienic true in
theorem dS{tk:Tok}{Q:Fin->Shared->Prop}(X:K.In h)(hC:h.get? C=some (c.o C bm newId))(hf:findIn K (.ref C) name=some none)
  (I:h.Inst a C mA)(hv:mA name=some v)(hq:Q (.done (.ret v)) ⟨h,g,d,t,os⟩):
  wpAny (model prog w) A (Builtin.«object.__getattribute__» ⟨[.ref a,.str name tk],[]⟩) Q E ⟨h,g,d,t,os⟩:=by
 refine Gj I λo hx hc hnc hd=> ?_
 rcases hd with⟨_,hmA⟩|⟨dx,hdx,hne,hns⟩
 ·rw[hmA name] at hv;cases hv
 have L1:=looks_findIn (M:=model prog w) X hf
 unfold Builtin.«object.__getattribute__»
 repeat (first|(with_reducible refine wpAny_loadPart_at hx ?_;rw[hc])|(with_reducible refine L1.at ?_)|wp_step)
 split
 ·rename_i c hcd
  exact absurd hcd (hnc c)
 unfold instanceDict
 repeat (first|(with_reducible refine wpAny_loadPart_at hx ?_;rw[hc])|with_reducible refine wpAny_loadPart_at hC ?_|wp_step)
 rw[hdx]
 repeat (first|(with_reducible refine wpAny_nsGet hns.ns ?_;rw[hv])|wp_step)
 exact hq
theorem nZ{tk:Tok}{fill expr:Bool}{Q:Value->Shared->Prop}(X:K.In h)(hB:bm.contains (.type "BaseException")=true)(hC:h.get? C=some (c.o C bm newId))(hf:findIn K (.ref C) name=some none)
  (hga:findIn K (.ref C) "__getattribute__"=some (some (.builtin "BaseException.__getattribute__")))(hgt:findIn K (.ref C) "__getattr__"=some none)
  (I:h.Inst a C mA)(hv:mA name=some v)(hh:handedOut v=pure v)(hq:Q v ⟨h,g,d,t,os⟩):wpAny (model prog w) A (getAttrBy (.ref a) (.str name tk) fill expr) Q E ⟨h,g,d,t,os⟩:=by
 have FB:=PySem.F.attr_Exception
 have f3:=FB.ga.bind (.ref a)
 refine eO (id I) λo hx hc J=> ?_
 have L1:=looks_findIn (M:=model prog w) X hga
 have L2:=looks_findIn (M:=model prog w) X hgt
 have hx0:(expr&&onTheHeap (Value.builtin "BaseException.__getattribute__"))=false:=by cases expr<;>rfl
 have hx2:(Value.builtin "BaseException.__getattribute__"==Value.builtin "object.__getattribute__")=false:=by decide+kernel
 have hx1:(onTheHeap (Value.ref C)&&Value.builtin "BaseException.__getattribute__"==Value.builtin "object.__getattribute__")=false:=by rw[hx2];rfl
 repeat (any_goals (first|assumption|(with_reducible refine wpAny_loadPart_at hx ?_;rw[hc])|with_reducible refine L1.at ?_|with_reducible refine L2.at ?_|wp_step))
 refine codeAny_call_builtin FB.ga.plain PySem.F.entry_bexc_ga (Av bga hB hC hx hc (dS X hC hf I hv ?_))
 repeat (any_goals (first|assumption|(rw[hh];exact wpAny_pure hq)|wp_step))
theorem Db{expr:Bool}{Q:Value->Shared->Prop}(X:K.In h)(hB:bm.contains (.type "BaseException")=true)(hC:h.get? C=some (c.o C bm newId))(hf:findIn K (.ref C) name=some none)
  (hga:findIn K (.ref C) "__getattribute__"=some (some (.builtin "BaseException.__getattribute__")))(hgt:findIn K (.ref C) "__getattr__"=some none)
  (I:h.Inst a C mA)(hv:mA name=some v)(hh:handedOut v=pure v)(hq:Q v ⟨h,g,d,t+1,os⟩):wpAny (model prog w) A (PySem.getAttr (.ref a) name expr) Q E ⟨h,g,d,t,os⟩:=by
 unfold PySem.getAttr
 repeat (any_goals (first|assumption|with_reducible apply nZ X hB hC hf hga hgt I hv hh|wp_step))
end
end
section
open PySem PySem.W PySem.Calls
inductive KW:List Stmt->Prop
 |mk (p1 ap p2 p3 cp sp p4 ap2 p5 sp2 p6 ap3 k p7 p8 sp3) (h:(ap.endLine==cp.line)=true):KW [.Expr (.Call (.Attribute (.Name "Exception" p1) "__init__" ap) [.Name "self" p2,.Name "why" p3] [] cp) sp,.Assign [.Attribute (.Name "self" p4) "why" ap2] (.Name "why" p5) sp2,.Assign [.Attribute (.Name "self" p6) "at" ap3] (.UnaryOp .USub (.Constant (.int 1) k p7) p8) sp3]
section
variable{prog:Program}{w:World}{A:Around}{E:Value->Shared->Prop}{s:Shared}{env:PySem.Env}
theorem aN{M:Model}{Q:List Value->Shared->Prop}(h:Q [] s):wpAny M A (spliced []) Q E s:=wpAny_pure h
theorem vU{M:Model}{x:Sem Value}{rest:List (Bool×Sem Value)}{Q:List Value->Shared->Prop}
  (h:wpAny M A x (λv s₁=>wpAny M A (spliced rest) (λvs s₂=>Q (v::vs) s₂) E s₁) E s):wpAny M A (spliced ((false,x)::rest)) Q E s:=by
 rw[spliced]
 refine wpAny_bind (wpAny_mono h (λv s₁ h₁=> ?_) λJ J z=>z)
 simp-iota only[Bool.false_eq_true,if_false]
 exact wpAny_bind (wpAny_pure (wpAny_bind (wpAny_holding (wpAny_mono h₁ (λvs s₂ h₂=>wpAny_pure h₂) λJ J z=>z))))
theorem AD{x:Str}{pos:Pos}{v:Value}{mg mb:Str->Option Value}{Q:Value->Shared->Prop}(hg:s.heap.Ns mainGlobals mg)(hb:s.heap.Ns builtinsNs mb)(h1:mg x=none)(h2:mb x=some v)
  (hk:env.scope.kind= .function)(hx:env.kindOf x=some .globalImplicit)(e1:env.globals=mainGlobals)(e2:env.builtins=builtinsNs)(hd:(x==("__debug__":Str))=false)(hcd:(x==("__classdict__":Str))=false)(q:Q v s):
  wpAny (model prog w) A (eval (.Name x pos) env) Q E s:=by
 refine wpAny_Name ?_ hd
 unfold loadName
 simp only[Env.blockKind,hk,hx,ScopeKind.isAnnotationScope,Bool.false_and,Bool.false_eq_true,if_false]
 show wpAny (model prog w) A (loadGlobal env x) Q E s
 unfold loadGlobal
 rw[e1,e2]
 refine wpAny_bind (wpAny_nsGet hg ?_)
 rw[h1]
 show wpAny (model prog w) A (nsGet builtinsNs x>>=_) Q E s
 refine wpAny_bind (wpAny_nsGet hb ?_)
 rw[h2]
 exact wpAny_pure q
theorem oB{x:Str}{pos:Pos}{v:Value}{mg:Str->Option Value}{Q:Value->Shared->Prop}(hg:s.heap.Ns mainGlobals mg)(h1:mg x=some v)
  (hk:env.scope.kind= .function)(hx:env.kindOf x=some .globalImplicit)(e1:env.globals=mainGlobals)(hd:(x==("__debug__":Str))=false)(q:Q v s):
  wpAny (model prog w) A (eval (.Name x pos) env) Q E s:=by
 refine wpAny_Name ?_ hd
 unfold loadName
 simp only[Env.blockKind,hk,hx,ScopeKind.isAnnotationScope,Bool.false_and,Bool.false_eq_true,if_false]
 show wpAny (model prog w) A (loadGlobal env x) Q E s
 unfold loadGlobal
 rw[e1]
 refine wpAny_bind (wpAny_nsGet hg ?_)
 rw[h1]
 exact wpAny_pure q
theorem dF{K:Frag}{T:String}{name:Str}{v:Value}{pl:Sem Bool}{Q:Value×List Value->Shared->Prop}(X:K.In s.heap)(ht:typeOf (.type T)=pure (.type "type"))(hs:Manifest.isStub T=false)
  (e:findCls K (.type T) (.type "type") name=some (.val v))(hh:handedIn v=true)(h:Q (v,[]) {s with toks:=s.toks+1}):wpAny (model prog w) A (getMethod (.type T) name pl) Q E s:=by
 have hstub:opaqueClassAbove (.type T)=pure none:=by unfold opaqueClassAbove;dsimp only;rw[hs];rfl
 have L0:Looks (model prog w) s.heap (typeOf (.type T)) (.type "type"):=Looks.of_pure ht
 have hg:findIn K (.type "type") "__getattribute__"=some (some (.builtin "type.__getattribute__")):=type_tga
 unfold getMethod specialOf
 refine wpAny_bind (wpAny_bind (L0.here ((looks_findIn X hg).here ?_)))
 dsimp only
 rw[if_pos canon_tga]
 refine wpAny_bind (wpAny_mono (Q:=λv=>Q (v,[])) (E:=E) ?_ (λJ J z=>wpAny_pure z) λJ J z=>z)
 have LO:Looks (model prog w) s.heap (opaqueClassAbove (.type T)) none:=Looks.of_pure hstub
 refine cls_open X LO L0 hg (looks_hook X (r:=none) (by rfl)) (by show subIn K _ _=_;rfl) e
  (wpAny_pure (by show wpAny _ _ (handedOut v) _ _ _;rw[handedOut_of hh];exact wpAny_pure h))
end
section
variable{prog:Program}{w:World}{A:Around}{E:Value->Shared->Prop}{h:Heap}{g:Array GenState}{d:Drawn}{t:Nat}{os:OsState}{env:PySem.Env}
variable{c:EC}{C e:Addr}{bm bmB:List Value}{newId:String}{K:Frag}{m:Str->Option Value}
structure nA(env:PySem.Env):Prop where
 kind:env.scope.kind= .function
 RZ:env.globals=mainGlobals
 bl:env.builtins=builtinsNs
noncomputable abbrev nF(C t0:Addr):Obj:={cls:= .ref C,data:= .fields #[.ref t0,.none,.none,.none,.bool false,.none]}
theorem C9{Q:Value->Shared->Prop}{t0:Addr}{y:Value}(hB:bm.contains (.type "Exception")=true)(hC:h.get? C=some (c.o C bm newId))(he:h.get? e=some (nF C t0))
  (hq:∀h',(∀b o,b≠e->h.get? b=some o->h'.get? b=some o)->h'.get? e=some (nF C h.objs.size)->h.objs.size<=h'.objs.size->Q .none ⟨h',g,d,t,os⟩):
  wpAny (model prog w) A (call (.builtin "Exception.__init__") [.ref e,y]) Q E ⟨h,g,d,t,os⟩:=by
 have F:=PySem.F.excBase_Exception
 have hcB:(Value.ref C::bm).contains (.type "Exception")=true:=by rw[List.contains_cons,hB,Bool.or_true]
 refine wpAny_call (codeAny_call_builtin F.init.plain F.initEntry ?_)
 have hshort:=F.noStar
 simp only[checkBuiltinCall,F.initKind,F.initSplit,F.initRow]
 repeat (first|(with_reducible refine wpAny_loadPart_at he ?_)|with_reducible refine wpAny_loadPart_at hC ?_|(with_reducible refine wpAny_isSubtype_exc hC ?_;rw[hcB])|wp_step)
 show Q .none _
 refine hq _ (λb o hb ho=> ?_) ?_ ?_
 ·rw[Heap.get?_update_other _ _ (Ne.symm hb)]
  exact Heap.get?_push_of_some _ ho
 ·rw[Heap.get?_update_self _ (Heap.get?_push_of_some _ he) rfl]
  rfl
 ·rw[Heap.size_after_update,Heap.size_push];omega
theorem uW{x:Str}{pos:Pos}{v:Value}{Q:Value->Shared->Prop}{s:Shared}(O:nA env)(hl:env.kindOf x=some .local)(hn:s.heap.Ns env.locals m)(hv:m x=some v)(hd:(x==("__debug__":Str))=false)(hq:Q v s):
  wpAny (model prog w) A (eval (.Name x pos) env) Q E s:=wpAny_Name (wpAny_loadName_local O.kind hl hn hv hq) hd
theorem Jp{p1 ap p2 p3 cp sp:Pos}{Q:Flow->Shared->Prop}{t0:Addr}{y:Value}{mg mb:Str->Option Value}(hl:(ap.endLine==cp.line)=true)(O:nA env)(ks:env.kindOf "self"=some .local)(kw:env.kindOf "why"=some .local)(kx:env.kindOf "Exception"=some .globalImplicit)
  (X:K.In h)(hg:h.Ns mainGlobals mg)(hb:h.Ns builtinsNs mb)(g1:mg "Exception"=none)(g2:mb "Exception"=some (.type "Exception"))(hf:findCls K (.type "Exception") (.type "type") "__init__"=some (.val (.builtin "Exception.__init__")))
  (hm:h.Ns env.locals m)(ms:m "self"=some (.ref e))(mw:m "why"=some y)
  (hB:bm.contains (.type "Exception")=true)(hC:h.get? C=some (c.o C bm newId))(he:h.get? e=some (nF C t0))
  (hq:∀h' tk,(∀b o,b≠e->h.get? b=some o->h'.get? b=some o)->h'.get? e=some (nF C h.objs.size)->h.objs.size<=h'.objs.size->Q .next ⟨h',g,d,tk,os⟩):
  wpAny (model prog w) A (exec (.Expr (.Call (.Attribute (.Name "Exception" p1) "__init__" ap) [.Name "self" p2,.Name "why" p3] [] cp) sp) env) Q E ⟨h,g,d,t,os⟩:=by
 refine wpAny_Expr ?_ (by unfold interactive;rw[O.kind];rfl) (by rfl)
 rw[arm_eval_Call,bF (by rfl)]
 refine wpAny_bind (AD hg hb g1 g2 O.kind kx O.RZ O.bl (by decide) (by decide) (wpAny_bind (wpAny_standAt ?_)))
 unfold methodCall
 have hform:methodCallForm (2+([]:List Keyword).length) (backTo cp (starEach [.Name "self" p2,.Name "why" p3] env)) (backToKw cp (keywordEach [] env))=true:=by rfl
 rw[show([Expr.Name "self" p2,Expr.Name "why" p3].length)=2 from rfl,hform]
 have hpos:methodCallPos true (.Name "Exception" p1) env ap cp=pure cp:=by unfold methodCallPos;simp[hl]
 rw[hpos]
 refine wpAny_bind (wpAny_holding (dF X (by kernel_rfl) (by decide+kernel) hf (by rfl) ?_))
 refine wpAny_bind (wpAny_pure ?_)
 refine callWith_builtin (by rfl) ?_
 show wpAny _ _ (evalArgs _ true ((false,_)::_) []) _ _ _
 refine evalArgs_plain ?_
 show wpAny _ _ (spliced [(false,eval (.Name "self" p2) env),(false,eval (.Name "why" p3) env)]) _ _ _
 refine vU (uW O ks hm ms (by decide) ?_)
 refine vU (uW O kw hm mw (by decide) ?_)
 refine aN ?_
 exact C9 hB hC he λh' a b c=>hq h' _ a b c
end
theorem Cn{h h':Heap}{a:Addr}{m:Str->Option Value}(hn:h.Ns a m)(k:∀o,h.get? a=some o->h'.get? a=some o):h'.Ns a m:=hn.imp λJ=>Exists.imp λJ=>Exists.imp λJ q=>⟨k _ q.1,q.2⟩
structure vX(K:Frag):Prop where
 obj:∃c:EC,K.lookup 86=some (c.o 86 [.ref 73,.type "Exception",.type "BaseException",.type "object"] "Exception.__new__")
 ini:findCls K (.type "Exception") (.type "type") "__init__"=some (.val (.builtin "Exception.__init__"))
 init:findIn K (.ref 86) "__init__"=some (some (.ref 70))
 fn:typeIn K (.ref 70)=some (.type "function")
 set:findIn K (.ref 86) "__setattr__"=some (some (.builtin "object.__setattr__"))
 ga:findIn K (.ref 86) "__getattribute__"=some (some (.builtin "BaseException.__getattribute__"))
 gt:findIn K (.ref 86) "__getattr__"=some none
 why:findIn K (.ref 86) "why"=some none
 at_:findIn K (.ref 86) "at"=some none
theorem qZ{K:Frag}{h:Heap}{C:Addr}{bm:List Value}{newId:String}(X:K.In h)(e:∃c:EC,K.lookup C=some (c.o C bm newId)):∃c:EC,h.get? C=some (c.o C bm newId):=e.imp λJ q=>X _ _ q
structure nJ(C:Cx)(a:Nat)(fd:FuncData)(body:List Stmt):Prop where
 at_:∃o,C.h0.get? a=some o/\o.data= .func fd
 body:fd.body= .stmts body
 co:fd.scope.isCoroutine=false
 gen:fd.scope.isGenerator=false
 kind:fd.scope.kind= .function
 clo:fd.closure=[]
 Sb:fd.globals=mainGlobals
 bl:fd.builtins=builtinsNs
 code:C.h0.CodeRec fd.code fd.qualname
 Sa:fd.params.posonlyargs=[]/\fd.params.kwonlyargs=[]/\fd.params.vararg=none/\fd.params.kwarg=none
 names:uL (fd.scope.names.map (·.1))=true
 args:uL (fd.params.args.map (·.arg))=true
 Sd:fd.defaults= .none
theorem nJ.toAt{C:Cx}{a:Nat}{fd:FuncData}{body:List Stmt}(H:nJ C a fd body):H6 C a fd body []:=⟨H.at_,H.body,H.co,H.gen,H.kind,H.clo,H.Sb,H.bl,H.code,H.Sa,H.names,H.args,.inl ⟨H.Sd,rfl⟩⟩
structure Jf(C:Cx)(fd:FuncData)(body:List Stmt):Prop where
 RD:nJ C 70 fd body
 is:KW body
 args:fd.params.args.map (·.arg)=[("self":Str),("why":Str)]
 ks:fd.scope.names.lookup ("self":Str)=some .local
 kw:fd.scope.names.lookup ("why":Str)=some .local
 kx:fd.scope.names.lookup ("Exception":Str)=some .globalImplicit
 cell:∀x∈fd.scope.names,x.2≠ .cell
section
variable{env:PySem.Env}{m:Str->Option Value}{C:Cx}{A:Around}{E:Value->Shared->Prop}{h:Heap}{g:Array GenState}{d:Drawn}{t:Nat}{os:OsState}{e t0:Addr}{y:Value}
structure iA(hb h:Heap)(e:Addr)(y:Value):Prop where
 ex:∃t1 dx mA,h.get? e=some {cls:= .ref 86,dict:=some dx,data:= .fields #[.ref t1,.none,.none,.none,.bool false,.none]}/\dx≠e/\h.Ns1 dx mA/\mA "why"=some y/\hb.get? dx=none
theorem Hv{h0:Heap}{e:Addr}{K:Frag}(X:K.In h0)(MF:vX K)(hen:h0.get? e=none):e≠86:=λq=>(qZ X MF.obj).elim λJ ho=>nomatch (q▸hen).symm.trans ho
theorem BD{h1 h2:Heap}{e:Addr}{o:Obj}(he:h1.get? e=some o)(hd:o.dict=none)(k:∀b o,b≠e->(∀o₀ dx,h1.get? e=some o₀->o₀.dict=some dx->b≠dx)->h1.get? b=some o->h2.get? b=some o)(b:Addr)(o':Obj)(hb:b≠e)(ho:h1.get? b=some o'):h2.get? b=some o':=
 k b o' hb (λJ J q1 q2=>nomatch hd.symm.trans ((alQ Obj.dict (alS (he.symm.trans q1))).trans q2)) ho
abbrev t9(h h':Heap)(x:Addr):Prop:=∀o₀,h.get? x=some o₀->∃o₁,h'.get? x=some o₁/\o₁.cls=o₀.cls/\o₁.data=o₀.data/\o₁.slots=o₀.slots/\(∀dx,o₀.dict=some dx->o₁.dict=some dx)/\(o₀.dict=none->∃dx,o₁.dict=some dx/\h.get? dx=none)
theorem iA.below{h₀ h':Heap}(m:iA h₀ h' e y)(k:∀b o,h.get? b=some o->h₀.get? b=some o):iA h h' e y:=
 ⟨m.ex.imp λJ=>Exists.imp λJ=>Exists.imp λJ q=>⟨q.1,q.2.1,q.2.2.1,q.2.2.2.1,Option.eq_none_iff_forall_ne_some.mpr λJ z=>nn (k _ _ z) q.2.2.2.2⟩⟩
theorem JE{o:Obj}{c:Value}{d:Option Addr}{x:Data}{l:Array (Option Value)}(h1:o.cls=c)(h2:o.dict=d)(h3:o.data=x)(h4:o.slots=l):o=⟨c,d,x,l⟩:=by subst h1 h2 h3 h4;rfl
theorem Fi{h1 h2 h3:Heap}{e t1:Addr}{m:Str->Option Value}{y:Value}(k1:∀b o,b≠e->h.get? b=some o->h1.get? b=some o)(he1:h1.get? e=some (nF 86 t1))
  (k2:∀b o,b≠e->h1.get? b=some o->h2.get? b=some o)(s2:t9 h1 h2 e)(k3:∀b o,b≠e->(∀o₀ dx,h2.get? e=some o₀->o₀.dict=some dx->b≠dx)->h2.get? b=some o->h3.get? b=some o)(s3:t9 h2 h3 e)(I:h3.Inst e 86 m)(hm:m "why"=some y):
  (∀b o,b≠e->h.get? b=some o->h3.get? b=some o)/\iA h h3 e y:=by
 refine As (s2 _ he1) λo2 he2 c2 d2 l2 J f2=> ?_
 refine xEA (f2 rfl) λdx hdx hdn=> ?_
 refine As (s3 _ he2) λo3 he3 c3 d3 l3 e3 J=> ?_
 have hdx3:=e3 _ hdx
 have ne:∀{b o},h1.get? b=some o->b≠dx:=λhb q=>nomatch ((alQ h1.get? q).trans hdn).symm.trans hb
 refine Gj I λo4 he4 J J hd4=> ?_
 have e4:=(alQ Obj.dict (alS (he4.symm.trans he3))).trans hdx3
 refine⟨λb o hb ho=>k3 b o hb (λo₀ dx' q1 q2 q=>ne (k1 _ _ hb ho) (q.trans (alS (q2.symm.trans ((alQ Obj.dict (alS (q1.symm.trans he2))).trans hdx))))) (k2 _ _ hb (k1 _ _ hb ho)),hd4.elim (λq=>nomatch q.1.symm.trans e4) λ⟨dx',hd',hne,hns⟩=> ?_⟩
 have e5:dx'=dx:=alS (hd'.symm.trans e4)
 subst e5
 exact⟨t1,dx',_,he3.trans (alQ some (JE (c3.trans c2) hdx3 (d3.trans d2) (l3.trans l2))),hne,hns,hm,Option.eq_none_iff_forall_ne_some.mpr λo z=>ne (k1 dx' o hne z) rfl⟩
theorem EK{L:List Stmt}(his:KW L)(O:nA env)(ks:env.kindOf "self"=some .local)(kw:env.kindOf "why"=some .local)(kx:env.kindOf "Exception"=some .globalImplicit)(X:y9 C)(MF:vX C.K)(gE:C.mg "Exception"=none)(bE:C.mb "Exception"=some (.type "Exception"))
  (kp:∀b o,C.h0.get? b=some o->h.get? b=some o)(hn:h.Ns env.locals m)(ms:m "self"=some (.ref e))(mw:m "why"=some y)(he:h.get? e=some (nF 86 t0))(hen:C.h0.get? e=none)(hL:env.locals≠e){Q:Flow->Shared->Prop}
  (hq:∀h' tk,(∀b o,b≠e->h.get? b=some o->h'.get? b=some o)->iA h h' e y->Q .next ⟨h',g,d,tk,os⟩):wpAny (Mo C) A (execs L env) Q E ⟨h,g,d,t,os⟩:=by
 cases his with|mk p1 ap p2 p3 cp sp p4 ap2 p5 sp2 p6 ap3 k p7 p8 sp3 hl=>
 have e86:e≠86:=Hv X.KX MF hen
 have KX:∀{h':Heap},(∀b o,b≠e->h.get? b=some o->h'.get? b=some o)->C.K.In h':=λk=>X.KX.keeps λb o hb=>k b o (λq=>nomatch (q▸hen).symm.trans hb) (kp _ _ hb)
 have KN:∀{h':Heap},(∀b o,b≠e->h.get? b=some o->h'.get? b=some o)->h'.Ns env.locals m:=λk=>Cn hn λo ho=>k _ o hL ho
 have X₀:=KX λJ J J q=>q
 refine j4 (arm_execs_cons _ _ _) (wpAny_bind (Jp hl O ks kw kx X₀ (X.g.keeps kp) (X.b.keeps kp) gE bE MF.ini hn ms mw (by rfl) (qZ X₀ MF.obj).choose_spec he λh1 tk1 kp1 he1 hz1=> ?_))
 have X1:=KX kp1
 have I1:h1.Inst e 86 (λJ=>none):=⟨_,he1,rfl,(λc q=>nomatch q),.inl ⟨rfl,λJ=>rfl⟩⟩
 refine j4 (arm_execs_cons _ _ _) (wpAny_bind (plainObj_wpAny_Assign_Attribute (uW O kw (KN kp1) mw (by decide) (uW O ks (KN kp1) ms (by decide) (hM X1 rfl (qZ X1 MF.obj).choose_spec MF.set MF.why e86 I1 (λh2 tk2 I2 kp2 same2 hz2=> ?_) Within.nil (Nat.zero_le _))))))
 have k2:=BD he1 rfl kp2
 have k12:∀b o,b≠e->h.get? b=some o->h2.get? b=some o:=λb o hb ho=>k2 b o hb (kp1 b o hb ho)
 have X2:=KX k12
 refine j4 (arm_execs_cons _ _ _) (wpAny_bind (plainObj_wpAny_Assign_Attribute (j4 (arm_eval_UnaryOp _ _ _ _) (wpAny_bind (wpAny_Constant_int (wpAny_bind (wpAny_standAt (wpAny_holding (PyProof.Rows.neg_int (uW O ks (KN k12) ms (by decide) (hM X2 rfl (qZ X2 MF.obj).choose_spec MF.set MF.at_ e86 I2 (λh3 tk3 I3 kp3 same3 hz3=> ?_) (Within.cons _ _ Within.nil) (alE rfl))))))))))))
 have z:=Fi kp1 he1 k2 same2 kp3 same3 I3 ((if_neg (by decide)).trans (if_pos rfl))
 exact wpAny_pure (hq h3 _ z.1 z.2)
theorem Jg{fd:FuncData}{body:List Stmt}(X:y9 C)(H:Jf C fd body)(MF:vX C.K)(gE:C.mg "Exception"=none)(bE:C.mb "Exception"=some (.type "Exception"))(hd:A.depth<1000)(kp:∀b o,C.h0.get? b=some o->h.get? b=some o)
  (he:h.get? e=some (nF 86 t0))(hen:C.h0.get? e=none){Q:Value->Shared->Prop}
  (hq:∀h' tk,(∀b o,b≠e->h.get? b=some o->h'.get? b=some o)->iA h h' e y->Q .none ⟨h',g,d,tk,os⟩):
  wpAny (Mo C) A (call (.ref 70) [.ref e,y]) Q E ⟨h,g,d,t,os⟩:=by
 refine xEA H.RD.at_ λo ho hfd=> ?_
 refine KT H.RD.Sa λhp1 hp2 hp3 hp4=> ?_
 refine wpAny_call (codeAny_call_def (s:=⟨h,g,d,t,os⟩) (a:=70) (o:=o) (fd:=fd) (binds:=[("self",.ref e),("why",y)]) hd (kp _ _ ho) hfd (X.nolimit.keeps kp) (H.RD.code.keeps kp) H.RD.body (λ{M A' E' Q'} q=> ?_) H.cell (λx hx=> ?_) ?_ H.RD.co H.RD.gen H.RD.kind)
 ·refine xX (p1:=["self","why"]) (p2:=[]) (p3:=[]) (x1:=[.ref e,y]) (x2:=[]) (d2:=[]) (d3:=[]) hp1 hp2 hp3 hp4 H.args (vS H.RD.args) (λ{Q} hq=>by rw[H.RD.Sd];exact wpAny_pure (hq none rfl)) rfl rfl rfl rfl ?_
  rw[H.args];exact q
 ·exact(alC hx).elim (λq=>q▸H.ks) λhx=>(alC hx).elim (λq=>q▸H.kw) λhx=>nomatch hx
 exactλh₀ hn₀ kp₀=>EK (env:=callEnv fd h.objs.size 70) H.is ⟨H.RD.kind,H.RD.Sb,H.RD.bl⟩ H.ks H.kw H.kx X MF gE bE (λb o hb=>kp₀ _ _ (kp _ _ hb)) hn₀ (by rfl) (by rfl) (kp₀ _ _ he) hen (Nat.ne_of_gt (Heap.lt_size he)) λh' tk k ma=>hq h' tk (λb o hb ho=>k b o hb (kp₀ _ _ ho)) (ma.below kp₀)
end
structure Cg(base:Heap)(l:List PySem.Env)(e dx:Addr)(fl:Value)(h:Heap):Prop where
 stays:base.StaysIn h
 new:base.get? e=none
 frames:h.FunFrames base l
 tr:∃oe vs T oT ts,h.get? e=some oe/\oe.cls= .ref 86/\oe.dict=some dx/\oe.data= .fields vs/\vs[1]?=some (.ref T)/\base.get? T=none/\T≠e/\h.get? T=some oT/\oT.data= .fields ts/\ts[3]?=some fl
theorem DA(o:Obj)(f:Array Value->Array Value):(o.mapFields f).dict=o.dict:=by
 obtain⟨c,d,dt,sl⟩:=o
 cases dt<;>rfl
section
variable{M:Model}{A:Around}{E:Value->Shared->Prop}{s:Shared}{base:Heap}{env:PySem.Env}{outer l:List PySem.Env}{L e dx:Addr}{Q:Unit->Shared->Prop}
theorem E3{oe:Obj}{vs:Array Value}{head:Value}{b:Bool}(hfr:A.frames=some (env::outer))(hl:s.heap.FunFrames base (env::outer))(hf:env.frame=some L)
  (he:s.heap.get? e=some oe)(hkb:base.StaysIn s.heap)(hen:base.get? e=none)(hd:oe.data= .fields vs)(hsz:1<vs.size)(hc:oe.cls= .ref 86)(hx:oe.dict=some dx)
  (q:∀h',Cg base (env::outer) e dx (rawInt L) h'->s.heap.UpToSlots h'->Q () {s with heap:=h'}):
  wpAny M A (do let a<-frameOf env;let pl<-entryPlaceOf L b;let b<-EntryCells.newEntry head a .none (rawInt L) .none pl;setField (.ref e) 1 b) Q E s:=by
 have ne:e∉(env::outer).filterMap (·.frame):=λhm=>by
  obtain⟨_,o,ho,hnf⟩:=hl.mem hm
  rw[he] at ho;cases ho;exact hnf vs hd
 refine wpAny_bind (wpAny_frameOf_fun hfr hl hf λh₁ hs₁=> ?_)
 refine wpAny_bind (wpAny_entryPlaceOf λpl hpl=> ?_)
 unfold EntryCells.newEntry newFields
 refine wpAny_bind (wpAny_newObj_type ?_ (hpl.sizeOk5 _ _ _ _ _))
 generalize hob:({cls:= .type "traceback",dict:=none,data:= .fields ([head,.ref L,.none,rawInt L,.none]++(if pl.isEmpty then List.replicate 6 Value.none else pl)).toArray}:Obj)=ob
 have ob3:∃ts,ob.data= .fields ts/\ts[3]?=some (rawInt L):=⟨_,by rw[<-hob],by first|(simp;done)|(rcases hpl with rfl|⟨_,_,_,_,_,_,_,rfl⟩<;>simp)⟩
 have obf:ob.isFreed=false:=by rw[<-hob];rfl
 refine xEA ob3 λts hts h3=> ?_
 have he₁:h₁.get? e=some oe:=(hs₁.2.1 e ne).trans he
 have kb₁:base.StaysIn h₁:=λb o hbo=>(hs₁.2.1 b λhm=>by rw[(hl.mem hm).1] at hbo;cases hbo).trans (hkb b o hbo)
 have he₂:=Heap.get?_push_of_some (h:=h₁) ob he₁
 refine wpAny_setField he₂ hd hsz ?_
 have hTe:h₁.objs.size≠e:=Nat.ne_of_gt (Heap.lt_size he₁)
 have hd₃:=Obj.data_mapFields hd (·.setIfInBounds 1 (Value.ref h₁.objs.size))
 have keep:∀b o,b≠e->h₁.get? b=some o->((h₁.push ob).update e (Obj.mapFields (·.setIfInBounds 1 (Value.ref h₁.objs.size)))).get? b=some o:=λb o hb ho=>by
  rw[Heap.get?_update_other _ _ (Ne.symm hb)]
  exact Heap.get?_push_of_some _ ho
 have noRec:∀b o,s.heap.get? b=some o->(∀vs,o.data≠ .fields vs)->b≠e:=λb o hb hnf q=>by
  rw[q,he] at hb;cases hb;exact hnf vs hd
 refine q _ ⟨λb o hbo=>keep b o (λq=>by rw[q,hen] at hbo;cases hbo) (kb₁ b o hbo),hen,hl.of_keeps λb o hb hnf=> ?_,?_⟩ λb o hb hnf=> ?_
 ·refine xE (hs₁.2.2 b o hb) λsl hs=> ?_
  exact⟨_,keep b _ (noRec b o hb hnf) hs,rfl⟩
 ·exact⟨_,_,h₁.objs.size,ob,ts,Heap.get?_update_self _ he₂ (Obj.isFreed_of_fields hd₃),(Obj.cls_mapFields _ _).trans hc,(DA _ _).trans hx,hd₃,by simp[hsz],kb₁.fresh,hTe,
   (Heap.get?_update_other _ _ (Ne.symm hTe)).trans (Heap.get?_push_size h₁ obf),hts,h3⟩
 ·refine xE (hs₁.2.2 b o hb) λsl hs=> ?_
  exact⟨sl,keep b _ (noRec b o hb hnf) hs⟩
theorem tP{oe:Obj}{vs:Array Value}(hfr:A.frames=some (env::outer))(hl:s.heap.FunFrames base (env::outer))(hf:env.frame=some L)
  (he:s.heap.get? e=some oe)(hkb:base.StaysIn s.heap)(hen:base.get? e=none)(hd:oe.data= .fields vs)(h1:vs[1]?=some .none)(hc:oe.cls= .ref 86)(hx:oe.dict=some dx)
  (q:∀h',Cg base (env::outer) e dx (rawInt L) h'->s.heap.UpToSlots h'->Q () {s with heap:=h'}):wpAny M A (noteFrame (.ref e) env) Q E s:=by
 unfold noteFrame
 simp only[hf]
 refine wpAny_bind (wpAny_field he hd h1 ?_)
 rw[if_neg (by decide)]
 exact E3 hfr hl hf he hkb hen hd (Array.getElem?_eq_some_iff.mp h1).1 hc hx q
theorem xG(hfr:A.frames=some (env::outer))(hf:env.frame=some L)(F:Cg base (env::outer) e dx .none s.heap)
  (q:∀h',Cg base (env::outer) e dx (rawInt L) h'->s.heap.UpToSlots h'->Q () {s with heap:=h'}):wpAny M A (noteFrame (.ref e) env) Q E s:=by
 obtain⟨hkb,hen,hl,oe,vs,T,oT,ts,he,hc,hx,hd,h1,hnT,hTe,hT,hdT,h3⟩:=F
 unfold noteFrame
 simp only[hf]
 refine wpAny_bind (wpAny_field he hd h1 ?_)
 rw[if_pos (show(Value.ref T !=Value.none)=true from by simp)]
 refine wpAny_bind (wpAny_field hT hdT h3 ?_)
 rw[if_neg (show¬((Value.none==rawInt L)=true) from by simp[rawInt])]
 refine wpAny_bind (wpAny_setField hT hdT (Array.getElem?_eq_some_iff.mp h3).1 ?_)
 have other:∀b,b≠T->(s.heap.update T (Obj.mapFields (·.setIfInBounds 3 Value.none))).get? b=s.heap.get? b:=λb hb=>Heap.get?_update_other _ _ (Ne.symm hb)
 have noRec:∀b o,s.heap.get? b=some o->(∀vs,o.data≠ .fields vs)->b≠T:=λb o hb hnf q=>by
  rw[q,hT] at hb;cases hb;exact hnf ts hdT
 refine E3 hfr (hl.of_keeps λb o hb hnf=>⟨o,(other b (noRec b o hb hnf)).trans hb,rfl⟩) hf ((other e (Ne.symm hTe)).trans he)
  (λb o hbo=>(other b λq=>by rw[q,hnT] at hbo;cases hbo).trans (hkb b o hbo)) hen hd (Array.getElem?_eq_some_iff.mp h1).1 hc hx
  λh' x y=>q h' x λb o hb hnf=>y b o ((other b (noRec b o hb hnf)).trans hb) hnf
theorem mX{fl:Value}(F:Cg base l e dx fl s.heap)(q:∀h',Cg base l e dx .none h'->s.heap.UpToSlots h'->Q () {s with heap:=h'}):wpAny M A (setFlight (.ref e) none) Q E s:=by
 obtain⟨hkb,hen,hl,oe,vs,T,oT,ts,he,hc,hx,hd,h1,hnT,hTe,hT,hdT,h3⟩:=F
 have hsz3:3<ts.size:=(Array.getElem?_eq_some_iff.mp h3).1
 have other:∀b,b≠T->(s.heap.update T (Obj.mapFields (·.setIfInBounds 3 ((none:Option Addr).elim Value.none λf=>rawInt f)))).get? b=s.heap.get? b:=
  λb hb=>Heap.get?_update_other _ _ (Ne.symm hb)
 have noRec:∀b o,s.heap.get? b=some o->(∀vs,o.data≠ .fields vs)->b≠T:=λb o hb hnf q=>by
  rw[q,hT] at hb;cases hb;exact hnf ts hdT
 unfold setFlight
 refine wpAny_bind (wpAny_field he hd h1 ?_)
 rw[if_pos (show(Value.ref T !=Value.none)=true from by simp)]
 refine wpAny_setField hT hdT hsz3 (q _ ⟨λb o hbo=>(other b λq=>by rw[q,hnT] at hbo;cases hbo).trans (hkb b o hbo),hen,
  hl.of_keeps λb o hb hnf=>⟨o,(other b (noRec b o hb hnf)).trans hb,rfl⟩,?_⟩ λb o hb hnf=>⟨o.slots,(other b (noRec b o hb hnf)).trans hb⟩)
 exact⟨oe,vs,T,_,_,(other e (Ne.symm hTe)).trans he,hc,hx,hd,h1,hnT,hTe,Heap.get?_update_self _ hT (Obj.isFreed_of_fields (Obj.data_mapFields hdT _)),Obj.data_mapFields hdT _,by simp[hsz3]⟩
theorem HI{oe:Obj}{vs:Array Value}(hfr:A.frames=some (env::outer))(hl:s.heap.FunFrames base (env::outer))(hf:env.frame=some L)
  (he:s.heap.get? e=some oe)(hkb:base.StaysIn s.heap)(hen:base.get? e=none)(hd:oe.data= .fields vs)(h1:vs[1]?=some .none)(hc:oe.cls= .ref 86)(hx:oe.dict=some dx)
  (q:∀h',Cg base outer e dx .none h'->s.heap.UpToSlots h'->Q () {s with heap:=h'}):wpAny M A (leaving env (.ref e)) Q E s:=by
 unfold leaving
 refine wpAny_bind (tP hfr hl hf he hkb hen hd h1 hc hx λh₁ F₁ jU₁=> ?_)
 refine mX (s:={s with heap:=h₁}) F₁ λh₂ F₂ jU₂=>q h₂ ⟨F₂.stays,F₂.new,F₂.frames.2.2,F₂.tr⟩ (jU₁.trans jU₂)
end
section
variable{M:Model}{A:Around}{E:Value->Shared->Prop}{env:PySem.Env}
variable{c:EC}{N:Addr}{bm:List Value}{newId:String}
theorem fK{s:Shared}{x:Sem Value}{Q:Flow->Shared->Prop}(hbase:bm.contains (.type "BaseException")=true)(hh:A.handled=none)
  (h:wpAny M A x (λv s₁=>∃e t dx,v= .ref e/\(∃(c:EC) (newId:String),s₁.heap.get? 86=some (c.o 86 bm newId))/\
   s₁.heap.get? e=some {cls:= .ref 86,dict:=some dx,data:= .fields #[.ref t,.none,.none,.none,.bool false,.none]}/\E (.ref e) s₁) E s):
  wpAny M A (raiseStmt env (some x) none) Q E s:=by
 have hcB:(Value.ref 86::bm).contains (.type "BaseException")=true:=by rw[List.contains_cons,hbase,Bool.or_true]
 unfold raiseStmt
 refine wpAny_bind (wpAny_mono h (λv s₁ h₁=> ?_) λJ J x=>x)
 obtain⟨e,t,dx,rfl,⟨cc,newId,hC⟩,he,hE⟩:=h₁
 obtain⟨hp,g,d,tk,os⟩:=s₁
 repeat (first|with_reducible refine wpAny_loadPart_at he ?_|with_reducible refine wpAny_loadPart_at hC ?_|(with_reducible refine wpAny_isSubtype_exc hC ?_;rw[hcB])|wp_step)
 exact wpAny_raiseNew_none hh hE
end
section
variable{C:Cx}{A:Around}{E:Value->Shared->Prop}{env:PySem.Env}{h:Heap}{g:Array GenState}{d:Drawn}{t:Nat}{os:OsState}
theorem Dy{fd:FuncData}{body:List Stmt}(X:y9 C)(H:Jf C fd body)(MF:vX C.K)(gE:C.mg "Exception"=none)(bE:C.mb "Exception"=some (.type "Exception"))(hd:A.depth+10<1000)(kp:∀b o,C.h0.get? b=some o->h.get? b=some o){y:Value}{Q:Value->Shared->Prop}
  (q:∀h' tk e,(∀b o,h.get? b=some o->h'.get? b=some o)->iA h h' e y->C.h0.get? e=none->Q (.ref e) ⟨h',g,d,tk,os⟩):wpAny (Mo C) A (call (.ref 86) [y]) Q E ⟨h,g,d,t,os⟩:=by
 refine xE (qZ (X.KX.keeps kp) MF.obj) λcc hC=> ?_
 have X1:C.K.In h:=X.KX.keeps kp
 refine wpAny_call (Cy X1 (by rfl) (by rfl) (by rfl) hC MF.init MF.fn (λh' e hm=> ?_) (by simp[sizeLine_eq]))
 have K':∀b o,C.h0.get? b=some o->h'.get? b=some o:=λb o hb=>hm.keeps _ _ (kp _ _ hb)
 have hne:h.get? e=none:=hm.new
 have h0e:C.h0.get? e=none:=by
  cases z:C.h0.get? e with
  |none=>rfl
  |some o=>rw[kp _ _ z] at hne;cases hne
 refine eO hm.there λt0 ht J J=> ?_
 refine Jg (t0:=t0) X H MF gE bE ?_ K' ht h0e λh'' tk kp'' ma=>⟨rfl,q h'' tk e (λb o hb=>kp'' b o (by rintro rfl;rw[hne] at hb;cases hb) (hm.keeps _ _ hb)) (let⟨t1,dx,mA,e1,e2,e3,e4,e5⟩:=ma.ex;⟨t1,dx,mA,e1,e2,e3,e4,by
  cases z:h.get? dx with
  |none=>rfl
  |some o=>rw[hm.keeps _ _ z] at e5;cases e5⟩) h0e⟩
 show A.depth+(Code.builtin "type.__call__" ⟨.ref 86::[y],[]⟩).weight<1000
 have:(Code.builtin "type.__call__" ⟨.ref 86::[y],[]⟩).weight=1:=by rfl
 omega
theorem Ao{fd:FuncData}{body:List Stmt}{msg:Str}{k:Nat}{np kp' cpos pos:Pos}(X:y9 C)(H:Jf C fd body)(MF:vX C.K)(gE:C.mg "Exception"=none)(bE:C.mb "Exception"=some (.type "Exception"))(gM:C.mg "Misused"=some (.ref 86))(hk86:keepIn C.K (.ref 86)=true)
  (O:nA env)(kx:env.kindOf "Misused"=some .globalImplicit)(hd:A.depth+10<1000)(hh:A.handled=none)(kp:∀b o,C.h0.get? b=some o->h.get? b=some o){Q:Flow->Shared->Prop}
  (q:∀h' tk e tm,(∀b o,h.get? b=some o->h'.get? b=some o)->iA h h' e (.str msg tm)->C.h0.get? e=none->E (.ref e) ⟨h',g,d,tk,os⟩):
  wpAny (Mo C) A (exec (.Raise (some (.Call (.Name "Misused" np) [.Constant (.str msg) k kp'] [] cpos)) none pos) env) Q E ⟨h,g,d,t,os⟩:=by
 rw[arm_exec_Raise]
 refine wpAny_bind (wpAny_standAt ?_)
 refine fK (bm:=[.ref 73,.type "Exception",.type "BaseException",.type "object"]) (by rfl) hh ?_
 refine wpAny_bind ?_
 rw[wZ (by rfl)]
 refine wpAny_bind (oB (X.g.keeps kp) gM O.kind kx O.RZ (by decide) ?_)
 refine callWith_of (P:=C.K.In) (by rfl) (λh' X'=>keeps_K hk86 h' X') ?_
 show wpAny _ _ (evalArgs _ true ((false,_)::_) []) _ _ _
 refine evalArgs_plain ?_
 show wpAny _ _ (spliced [(false,mkText msg)]) _ _ _
 refine vU (wpAny_mkText (aN ⟨X.KX.keeps kp,?_⟩))
 refine Dy X H MF gE bE hd kp λh' tk e kp'' ma he0=> ?_
 refine wpAny_bind (wpAny_standAt (wpAny_pure ?_))
 refine bL ma.ex λt1 dx mA e1 e2 e3 e4 e5=> ?_
 refine xE (qZ (X.KX.keeps λb o hb=>kp'' _ _ (kp _ _ hb)) MF.obj) λcc hC=> ?_
 exact⟨e,t1,dx,rfl,⟨cc,_,hC⟩,e1,q h' tk e _ kp'' ma he0⟩
end
end
section
noncomputable section
open PySem (Str)
noncomputable def j:List Str:=[Str.ofString "append",Str.ofString "get",Str.ofString "mark",Str.ofString "priority",Str.ofString "iif",Str.ofString "oif",Str.ofString "iifname",Str.ofString "oifname",Str.ofString "pkttype",Str.ofString "iiftype",Str.ofString "oiftype",Str.ofString "l4",Str.ofString "off",Str.ofString "place",Str.ofString "kind",Str.ofString "data",Str.ofString "reply",Str.ofString "original",Str.ofString "zone",Str.ofString "table",Str.ofString "number",Str.ofString "talks",Str.ofString "flows",Str.ofString "expects",Str.ofString "master",Str.ofString "status",Str.ofString "until",Str.ofString "since",Str.ofString "packet",Str.ofString "now",Str.ofString "talk",Str.ofString "state",Str.ofString "is_reply",Str.ofString "begin",Str.ofString "go",Str.ofString "error",Str.ofString "break",Str.ofString "",Str.ofString "t",Str.ofString "trackers",Str.ofString "the book of talks has no tracker for the protocol",Str.ofString "most",Str.ofString "drop",Str.ofString "last",Str.ofString "again",Str.ofString "invalid",Str.ofString "ends",Str.ofString "in",Str.ofString "keys",Str.ofString "why",Str.ofString "sides",Str.ofString "seed",Str.ofString "tries",Str.ofString "is_loose",Str.ofString "hook",Str.ofString "sets",Str.ofString "objects",Str.ofString "fields",Str.ofString "readers",Str.ofString "doers",Str.ofString "ops",Str.ofString "tools",Str.ofString "order",Str.ofString "little",Str.ofString "log",Str.ofString "replies",Str.ofString "steps",Str.ofString "homes",Str.ofString "link",Str.ofString "meta",Str.ofString "input"]
noncomputable def globs:List (Str×V):=[(Str.ofString "number_of",(.obj 21)),(Str.ofString "look4",(.obj 28)),(Str.ofString "head_size",(.obj 35)),(Str.ofString "size_at",(.obj 42)),(Str.ofString "place_at",(.obj 49)),(Str.ofString "look6",(.obj 56)),(Str.ofString "WallFault",(.obj 73)),(Str.ofString "Misused",(.obj 86)),(Str.ofString "new_meta",(.obj 95)),(Str.ofString "Packet",(.obj 112)),(Str.ofString "look",(.obj 123)),(Str.ofString "packet_of",(.obj 131)),(Str.ofString "family_of",(.obj 138)),(Str.ofString "base_of",(.obj 145)),(Str.ofString "part",(.obj 152)),(Str.ofString "address_at",(.obj 159)),(Str.ofString "target_of",(.obj 166)),(Str.ofString "WORD",(.int 4294967295)),(Str.ofString "MOST_SCALE",(.int 14)),(Str.ofString "options_till",(.obj 173)),(Str.ofString "scale_of",(.obj 180)),(Str.ofString "may_sack",(.obj 187)),(Str.ofString "sack_edge",(.obj 194)),(Str.ofString "error_kinds",(.obj 201)),(Str.ofString "DYING_tuples",(.int 512)),(Str.ofString "Talk",(.obj 218)),(Str.ofString "TalkBook",(.obj 240)),(Str.ofString "is_icmp",(.obj 251)),(Str.ofString "is_error",(.obj 258)),(Str.ofString "answer_kind",(.obj 265)),(Str.ofString "ports_at",(.obj 272)),(Str.ofString "tuple_at",(.obj 279)),(Str.ofString "tuple_of",(.obj 286)),(Str.ofString "inner_tuple",(.obj 293)),(Str.ofString "invert",(.obj 300)),(Str.ofString "side_of",(.obj 307)),(Str.ofString "drop_talk",(.obj 312)),(Str.ofString "look_up",(.obj 319)),(Str.ofString "SEEN_REPLY",(.int 2)),(Str.ofString "ASSURED",(.int 4)),(Str.ofString "DYING_relate",(.int 512)),(Str.ofString "INVALID",(.int 1)),(Str.ofString "RELATED",(.int 4)),(Str.ofString "CONFIRMED",(.int 8)),(Str.ofString "UNTRACKED",(.int 64)),(Str.ofString "UDP_SPAN",(.int 30000)),(Str.ofString "UDP_STREAM_SPAN",(.int 120000)),(Str.ofString "UDP_STREAM_FROM",(.int 2000)),(Str.ofString "ICMP_SPAN",(.int 30000)),(Str.ofString "PLAIN_SPAN",(.int 600000)),(Str.ofString "begin_any",(.obj 326)),(Str.ofString "go_udp",(.obj 333)),(Str.ofString "begin_icmp",(.obj 340)),(Str.ofString "go_icmp",(.obj 347)),(Str.ofString "go_plain",(.obj 354)),(Str.ofString "talk_of_error",(.obj 361)),(Str.ofString "is_error_packet",(.obj 368)),(Str.ofString "error_talk",(.obj 375)),(Str.ofString "error_or_near",(.obj 382)),(Str.ofString "udp_trackers",(.obj 389)),(Str.ofString "icmp_trackers",(.obj 396)),(Str.ofString "plain_trackers",(.obj 403)),(Str.ofString "Expect",(.obj 420)),(Str.ofString "add_expect",(.obj 431)),(Str.ofString "does_fit",(.obj 438)),(Str.ofString "take_expect",(.obj 445)),(Str.ofString "sort_of",(.obj 452)),(Str.ofString "flags_are_right",(.obj 459)),(Str.ofString "next_state",(.obj 466)),(Str.ofString "tcp_span",(.obj 473)),(Str.ofString "before",(.obj 480)),(Str.ofString "after",(.obj 487)),(Str.ofString "Side",(.obj 504)),(Str.ofString "behind_packet",(.obj 515)),(Str.ofString "segment_of",(.obj 522)),(Str.ofString "end_of",(.obj 529)),(Str.ofString "note_options",(.obj 536)),(Str.ofString "open_side",(.obj 543)),(Str.ofString "answer_side",(.obj 550)),(Str.ofString "begin_side",(.obj 557)),(Str.ofString "take_up",(.obj 564)),(Str.ofString "is_within",(.obj 571)),(Str.ofString "move_sender",(.obj 578)),(Str.ofString "move_receiver",(.obj 585)),(Str.ofString "meet_sender",(.obj 592)),(Str.ofString "in_window",(.obj 599)),(Str.ofString "begin_tcp",(.obj 606)),(Str.ofString "is_refused",(.obj 613)),(Str.ofString "refresh_tcp",(.obj 620)),(Str.ofString "go_tcp",(.obj 627)),(Str.ofString "tcp_trackers",(.obj 634)),(Str.ofString "tracker_of",(.obj 641)),(Str.ofString "all_trackers",(.obj 648)),(Str.ofString "new_talks",(.obj 656)),(Str.ofString "sweep",(.obj 663)),(Str.ofString "evict",(.obj 670)),(Str.ofString "put_talk",(.obj 677)),(Str.ofString "found_talk",(.obj 684)),(Str.ofString "relate_talk",(.obj 691)),(Str.ofString "begin_talk",(.obj 698)),(Str.ofString "bring_on",(.obj 705)),(Str.ofString "track",(.obj 713)),(Str.ofString "confirm",(.obj 720)),(Str.ofString "Scene",(.obj 738)),(Str.ofString "_law_lives",(.Q1 [(.int 252),(.int 254),(.int 253),(.int 126)])),(Str.ofString "_law_deeds",(.Q1 [(.int 2),(.int 10),(.int 779),(.int 303),(.int 6),(.int 582),(.int 270),(.int 8),(.int 779),(.int 452),(.int 26),(.int 0)])),(Str.ofString "_law_digit",(.obj 751)),(Str.ofString "_law_tuple",(.obj 758)),(Str.ofString "_law_talks",(.obj 765)),(Str.ofString "_law_without",(.obj 770)),(Str.ofString "_law_out",(.obj 775)),(Str.ofString "_law_holder",(.obj 782)),(Str.ofString "_law_confirmed",(.obj 787)),(Str.ofString "_law_expected",(.obj 792)),(Str.ofString "_law_strange",(.obj 799)),(Str.ofString "_law_scene",(.obj 806)),(Str.ofString "_law_tracked",(.obj 813)),(Str.ofString "_law_looked",(.obj 820)),(Str.ofString "_law_asked",(.obj 827)),(Str.ofString "_law_swept",(.obj 832)),(Str.ofString "_law_done",(.obj 837)),(Str.ofString "_law_is_same",(.obj 842)),(Str.ofString "_law_empty_books",(.obj 849)),(Str.ofString "law",(.obj 854))]
noncomputable def Mw:List (Str×V):=[(Str.ofString "len",(.bi "len")),(Str.ofString "range",(.ty "range")),(Str.ofString "list",(.ty "list")),(Str.ofString "dict",(.ty "dict")),(Str.ofString "bytes",(.ty "bytes")),(Str.ofString "bytearray",(.ty "bytearray")),(Str.ofString "sorted",(.bi "sorted"))]
noncomputable def T:bD:=⟨j,globs++Mw⟩
noncomputable def Qs:List IS:=[
 (.Q0 (.v 1) (.l (.int 0))),
 (.QL [2] false (.v 0) [(.Q0 (.v 1) (.QB .BitOr (.QB .LShift (.v 1) (.l (.int 8))) (.v 2)))]),
 (.ret (.v 1))]
noncomputable def f21:FI:=⟨[0],[],11,Qs⟩
noncomputable def Qc:List IS:=[
 (.QC (.QT .Or [(.Q4 (.call (.l (.bi "len")) [(.v 0)]) [.Lt] [(.l (.int 20))]),(.Q4 (.QB .RShift (.sub (.v 0) (.l (.int 0))) (.l (.int 4))) [.NotEq] [(.l (.int 4))])]) [(.ret (.l .none))] []),
 (.Q0 (.v 1) (.QB .Mult (.QB .BitAnd (.sub (.v 0) (.l (.int 0))) (.l (.int 15))) (.l (.int 4)))),
 (.QC (.QT .Or [(.Q4 (.v 1) [.Lt] [(.l (.int 20))]),(.Q4 (.v 1) [.Gt] [(.call (.l (.bi "len")) [(.v 0)])])]) [(.ret (.l .none))] []),
 (.Q0 (.v 2) (.call (.l (.obj 21)) [(.RN (.v 0) (.l (.int 6)) (.l (.int 8)))])),
 (.ret (.Q1 [(.sub (.v 0) (.l (.int 9))),(.v 1),(.QB .Mult (.QB .BitAnd (.v 2) (.l (.int 8191))) (.l (.int 8))),(.Q4 (.QB .BitAnd (.v 2) (.l (.int 8192))) [.NotEq] [(.l (.int 0))])]))]
noncomputable def f28:FI:=⟨[0],[],11,Qc⟩
noncomputable def Pl:List IS:=[
 (.QC (.Q4 (.v 0) [.In] [(.Q1 [(.l (.int 0)),(.l (.int 43)),(.l (.int 60))])]) [(.ret (.QB .Mult (.QB .Add (.v 1) (.l (.int 1))) (.l (.int 8))))] []),
 (.QC (.Q4 (.v 0) [.Eq] [(.l (.int 51))]) [(.ret (.QB .Mult (.QB .Add (.v 1) (.l (.int 2))) (.l (.int 4))))] []),
 (.QC (.Q4 (.v 0) [.Eq] [(.l (.int 44))]) [(.ret (.l (.int 8)))] []),
 (.ret (.l (.int 0)))]
noncomputable def f35:FI:=⟨[0,1],[],10,Pl⟩
noncomputable def PF:List IS:=[
 (.QC (.Q4 (.call (.l (.obj 35)) [(.v 2),(.l (.int 0))]) [.Eq] [(.l (.int 0))]) [(.ret (.l (.int 0)))] []),
 (.QC (.Q4 (.QB .Add (.v 1) (.l (.int 2))) [.Gt] [(.v 3)]) [(.ret (.neg (.l (.int 1))))] []),
 (.Q0 (.v 4) (.call (.l (.obj 35)) [(.v 2),(.sub (.v 0) (.QB .Add (.v 1) (.l (.int 1))))])),
 (.QC (.Q4 (.QB .Add (.v 1) (.v 4)) [.Gt] [(.v 3)]) [(.ret (.neg (.l (.int 1))))] []),
 (.ret (.v 4))]
noncomputable def f42:FI:=⟨[0,1,2,3],[],13,PF⟩
noncomputable def Pp:List IS:=[
 (.QC (.QT .Or [(.Q4 (.call (.l (.bi "len")) [(.v 0)]) [.Lt] [(.l (.int 40))]),(.Q4 (.QB .RShift (.sub (.v 0) (.l (.int 0))) (.l (.int 4))) [.NotEq] [(.l (.int 6))])]) [(.ret (.l .none))] []),
 (.Q0 (.v 1) (.sub (.v 0) (.l (.int 6)))),
 (.Q0 (.v 2) (.l (.int 40))),
 (.Q0 (.v 3) (.l (.int 0))),
 (.Q0 (.v 4) (.l (.bool false))),
 (.Se (.Q4 (.v 3) [.Eq] [(.l (.int 0))]) [(.Q0 (.v 5) (.call (.l (.obj 42)) [(.v 0),(.v 2),(.v 1),(.call (.l (.bi "len")) [(.v 0)])])),(.QC (.QT .Or [(.Q4 (.v 5) [.Lt] [(.l (.int 0))]),(.QT .And [(.Q4 (.v 1) [.Eq] [(.l (.int 0))]),(.Q4 (.v 2) [.Gt] [(.l (.int 40))])])]) [(.ret (.l .none))] []),(.QC (.Q4 (.v 5) [.Eq] [(.l (.int 0))]) [.brk] []),(.QC (.Q4 (.v 1) [.Eq] [(.l (.int 44))]) [(.Q0 (.v 3) (.call (.l (.obj 49)) [(.v 0),(.v 2)])),(.Q0 (.v 4) (.Q4 (.QB .BitAnd (.sub (.v 0) (.QB .Add (.v 2) (.l (.int 3)))) (.l (.int 1))) [.Eq] [(.l (.int 1))]))] []),(.Q0 (.v 1) (.sub (.v 0) (.v 2))),(.aug 2 .Add (.v 5))]),
 (.ret (.Q1 [(.v 1),(.v 2),(.v 3),(.v 4)]))]
noncomputable def f56:FI:=⟨[0],[],14,Pp⟩
noncomputable def Qx:List IS:=[
 (.Q0 (.v 0) (.Rl [] [])),
 (.QL [1] false (.Q1 [(.l (.str 2)),(.l (.str 3)),(.l (.str 4)),(.l (.str 5)),(.l (.str 6)),(.l (.str 7)),(.l (.str 8))]) [(.Q0 (.sub (.v 0) (.v 1)) (.l (.int 0)))]),
 (.Q0 (.sub (.v 0) (.l (.str 9))) (.l (.int 1))),
 (.Q0 (.sub (.v 0) (.l (.str 10))) (.l (.int 1))),
 (.ret (.v 0))]
noncomputable def f95:FI:=⟨[],[],10,Qx⟩
noncomputable def Ht:List IS:=[
 (.Q0 (.Qy (.v 0) 11) (.neg (.l (.int 1)))),
 (.Q0 (.Qy (.v 0) 12) (.neg (.l (.int 1)))),
 (.Q0 (.Qy (.v 0) 13) (.l (.int 0))),
 (.Q0 (.v 1) (.l .none)),
 (.QC (.Q4 (.Qy (.v 0) 14) [.Eq] [(.l (.int 2048))]) [(.Q0 (.v 1) (.call (.l (.obj 28)) [(.Qy (.v 0) 15)]))] [(.QC (.Q4 (.Qy (.v 0) 14) [.Eq] [(.l (.int 34525))]) [(.Q0 (.v 1) (.call (.l (.obj 56)) [(.Qy (.v 0) 15)]))] [])]),
 (.QC (.Q4 (.v 1) [.Is] [(.l .none)]) [(.ret (.l .none))] []),
 (.Q0 (.Qy (.v 0) 11) (.sub (.v 1) (.l (.int 0)))),
 (.Q0 (.Qy (.v 0) 13) (.sub (.v 1) (.l (.int 2)))),
 (.QC (.QT .And [(.Q4 (.sub (.v 1) (.l (.int 2))) [.Eq] [(.l (.int 0))]),(.Q4 (.sub (.v 1) (.l (.int 1))) [.LtE] [(.call (.l (.bi "len")) [(.Qy (.v 0) 15)])])]) [(.Q0 (.Qy (.v 0) 12) (.sub (.v 1) (.l (.int 1))))] [])]
noncomputable def Nh:FI:=⟨[0],[],10,Ht⟩
noncomputable def JM:List IS:=[
 (.Q0 (.v 3) (.call (.l (.obj 112)) [(.v 0),(.v 1),(.v 2)])),
 (.expr (.call (.l (.obj 123)) [(.v 3)])),
 (.ret (.v 3))]
noncomputable def MJ:FI:=⟨[0,1,2],[(.int 2048),(.bytes [])],12,JM⟩
noncomputable def NJ:List IS:=[
 (.QC (.Q4 (.Qy (.v 0) 14) [.Eq] [(.l (.int 2048))]) [(.ret (.l (.int 2)))] []),
 (.QC (.Q4 (.Qy (.v 0) 14) [.Eq] [(.l (.int 34525))]) [(.ret (.l (.int 10)))] []),
 (.QC (.Q4 (.Qy (.v 0) 14) [.Eq] [(.l (.int 2054))]) [(.ret (.l (.int 3)))] []),
 (.ret (.l (.int 0)))]
noncomputable def LU:FI:=⟨[0],[],9,NJ⟩
noncomputable def N0:List IS:=[
 (.ret (.ite (.Q4 (.v 0) [.Eq] [(.l (.int 2))]) (.Q1 [(.l (.int 3)),(.l (.int 4)),(.l (.int 5)),(.l (.int 11)),(.l (.int 12))]) (.Q1 [(.l (.int 1)),(.l (.int 2)),(.l (.int 3)),(.l (.int 4))])))]
noncomputable def Po:FI:=⟨[0],[],9,N0⟩
noncomputable def Ln:List IS:=[
 (.ret (.QT .Or [(.QT .And [(.Q4 (.v 0) [.Eq] [(.l (.int 2))]),(.Q4 (.v 1) [.Eq] [(.l (.int 1))])]),(.QT .And [(.Q4 (.v 0) [.Eq] [(.l (.int 10))]),(.Q4 (.v 1) [.Eq] [(.l (.int 58))])])]))]
noncomputable def PV:FI:=⟨[0,1],[],10,Ln⟩
noncomputable def N5:List IS:=[
 (.ret (.Q4 (.v 1) [.In] [(.call (.l (.obj 201)) [(.v 0)])]))]
noncomputable def Qf:FI:=⟨[0,1],[],10,N5⟩
noncomputable def Oq:List IS:=[
 (.Q0 (.v 2) (.ite (.Q4 (.v 0) [.Eq] [(.l (.int 2))]) (.Q1 [(.Q1 [(.l (.int 8)),(.l (.int 0))]),(.Q1 [(.l (.int 13)),(.l (.int 14))]),(.Q1 [(.l (.int 15)),(.l (.int 16))]),(.Q1 [(.l (.int 17)),(.l (.int 18))])]) (.Q1 [(.Q1 [(.l (.int 128)),(.l (.int 129))])]))),
 (.QL [3,4] true (.v 2) [(.QC (.Q4 (.v 1) [.Eq] [(.v 3)]) [(.ret (.v 4))] []),(.QC (.Q4 (.v 1) [.Eq] [(.v 4)]) [(.ret (.v 3))] [])]),
 (.ret (.neg (.l (.int 1))))]
noncomputable def KA:FI:=⟨[0,1],[],13,Oq⟩
noncomputable def MB:List IS:=[
 (.QC (.QT .Or [(.Q4 (.v 2) [.Eq] [(.l (.int 6))]),(.Q4 (.v 2) [.Eq] [(.l (.int 17))])]) [(.QC (.Q4 (.QB .Add (.v 3) (.l (.int 4))) [.Gt] [(.call (.l (.bi "len")) [(.v 0)])]) [(.ret (.l .none))] []),(.ret (.Q1 [(.call (.l (.obj 21)) [(.RN (.v 0) (.v 3) (.QB .Add (.v 3) (.l (.int 2))))]),(.call (.l (.obj 21)) [(.RN (.v 0) (.QB .Add (.v 3) (.l (.int 2))) (.QB .Add (.v 3) (.l (.int 4))))])]))] []),
 (.QC (.not (.call (.l (.obj 251)) [(.v 1),(.v 2)])) [(.ret (.Q1 [(.l (.int 0)),(.l (.int 0))]))] []),
 (.QC (.Q4 (.QB .Add (.v 3) (.l (.int 8))) [.Gt] [(.call (.l (.bi "len")) [(.v 0)])]) [(.ret (.l .none))] []),
 (.Q0 (.v 4) (.sub (.v 0) (.v 3))),
 (.Q0 (.v 5) (.l (.int 0))),
 (.QC (.Q4 (.call (.l (.obj 265)) [(.v 1),(.v 4)]) [.GtE] [(.l (.int 0))]) [(.Q0 (.v 5) (.call (.l (.obj 21)) [(.RN (.v 0) (.QB .Add (.v 3) (.l (.int 4))) (.QB .Add (.v 3) (.l (.int 6))))]))] []),
 (.ret (.Q1 [(.v 5),(.QB .Add (.QB .Mult (.v 4) (.l (.int 256))) (.sub (.v 0) (.QB .Add (.v 3) (.l (.int 1)))))]))]
noncomputable def MY:FI:=⟨[0,1,2,3],[],14,MB⟩
noncomputable def M9:List IS:=[
 (.Q0 (.v 4) (.call (.l (.obj 272)) [(.v 0),(.v 1),(.v 2),(.v 3)])),
 (.QC (.Q4 (.v 4) [.Is] [(.l .none)]) [(.ret (.l .none))] []),
 (.Q0 (.v 5) (.l (.int 12))),
 (.Q0 (.v 6) (.l (.int 4))),
 (.QC (.Q4 (.v 1) [.Eq] [(.l (.int 10))]) [(.Q0 (.v 5) (.l (.int 8))),(.Q0 (.v 6) (.l (.int 16)))] []),
 (.Q0 (.v 7) (.call (.l (.obj 21)) [(.RN (.v 0) (.v 5) (.QB .Add (.v 5) (.v 6)))])),
 (.Q0 (.v 8) (.call (.l (.obj 21)) [(.RN (.v 0) (.QB .Add (.v 5) (.v 6)) (.QB .Add (.QB .Add (.v 5) (.v 6)) (.v 6)))])),
 (.ret (.Q1 [(.v 1),(.v 2),(.v 7),(.sub (.v 4) (.l (.int 0))),(.v 8),(.sub (.v 4) (.l (.int 1)))]))]
noncomputable def LZ:FI:=⟨[0,1,2,3],[],17,M9⟩
noncomputable def Md:List IS:=[
 (.Q0 (.v 1) (.call (.l (.obj 138)) [(.v 0)])),
 (.QC (.QT .Or [(.Q4 (.v 1) [.NotIn] [(.Q1 [(.l (.int 2)),(.l (.int 10))])]),(.Q4 (.Qy (.v 0) 12) [.Lt] [(.l (.int 0))])]) [(.ret (.l .none))] []),
 (.ret (.call (.l (.obj 279)) [(.Qy (.v 0) 15),(.v 1),(.Qy (.v 0) 11),(.Qy (.v 0) 12)]))]
noncomputable def ME:FI:=⟨[0],[],10,Md⟩
noncomputable def LI:List IS:=[
 (.Q0 (.v 2) (.ite (.Q4 (.v 1) [.Eq] [(.l (.int 2))]) (.call (.l (.obj 28)) [(.v 0)]) (.call (.l (.obj 56)) [(.v 0)]))),
 (.QC (.QT .Or [(.Q4 (.v 2) [.Is] [(.l .none)]),(.Q4 (.sub (.v 2) (.l (.int 2))) [.NotEq] [(.l (.int 0))])]) [(.ret (.l .none))] []),
 (.ret (.call (.l (.obj 279)) [(.v 0),(.v 1),(.sub (.v 2) (.l (.int 0))),(.sub (.v 2) (.l (.int 1)))]))]
noncomputable def Ol:FI:=⟨[0,1],[],11,LI⟩
noncomputable def M4:List IS:=[
 (.Q0 (.Q1 [(.v 1),(.v 2),(.v 3),(.v 4),(.v 5),(.v 6)]) (.v 0)),
 (.QC (.not (.call (.l (.obj 251)) [(.v 1),(.v 2)])) [(.ret (.Q1 [(.v 1),(.v 2),(.v 5),(.v 6),(.v 3),(.v 4)]))] []),
 (.Q0 (.v 7) (.call (.l (.obj 265)) [(.v 1),(.QB .RShift (.v 6) (.l (.int 8)))])),
 (.QC (.Q4 (.v 7) [.Lt] [(.l (.int 0))]) [(.ret (.l .none))] []),
 (.ret (.Q1 [(.v 1),(.v 2),(.v 5),(.v 4),(.v 3),(.QB .Add (.QB .Mult (.v 7) (.l (.int 256))) (.QB .BitAnd (.v 6) (.l (.int 255))))]))]
noncomputable def NA:FI:=⟨[0],[],16,M4⟩
noncomputable def NP:List IS:=[
 (.ret (.ite (.v 1) (.Qy (.v 0) 16) (.Qy (.v 0) 17)))]
noncomputable def LF:FI:=⟨[0,1],[],10,NP⟩
noncomputable def ML:List IS:=[
 (.QL [2] false (.Q1 [(.l (.int 0)),(.l (.int 1))]) [(.Q0 (.v 3) (.Q1 [(.Qy (.v 1) 18),(.call (.l (.obj 307)) [(.v 1),(.v 2)])])),(.QC (.Q4 (.Rs (.Qy (.v 0) 19) 1 [(.v 3)]) [.Eq] [(.Q1 [(.Qy (.v 1) 20),(.v 2)])]) [(.RW (.Qy (.v 0) 19) (.v 3))] [])]),
 (.QC (.Q4 (.Qy (.v 1) 20) [.In] [(.Qy (.v 0) 21)]) [(.RW (.Qy (.v 0) 21) (.Qy (.v 1) 20))] []),
 (.QL [3] false (.call (.l (.ty "list")) [(.Qy (.v 0) 22)]) [(.QC (.Q4 (.sub (.sub (.Qy (.v 0) 22) (.v 3)) (.l (.int 0))) [.Eq] [(.Qy (.v 1) 20)]) [(.RW (.Qy (.v 0) 22) (.v 3))] [])]),
 (.Q0 (.Qy (.v 0) 23) (.comp (.v 4) [4] false (.Qy (.v 0) 23) [(.Q4 (.Qy (.v 4) 24) [.NotEq] [(.Qy (.v 1) 20)])])),
 (.Q0 (.Qy (.v 1) 25) (.QB .BitOr (.Qy (.v 1) 25) (.l (.int 512))))]
noncomputable def Le:FI:=⟨[0,1],[],12,ML⟩
noncomputable def NL:List IS:=[
 (.Q0 (.v 4) (.Rs (.Qy (.v 0) 19) 1 [(.Q1 [(.v 1),(.v 2)])])),
 (.QC (.Q4 (.v 4) [.Is] [(.l .none)]) [(.ret (.l .none))] []),
 (.Q0 (.v 5) (.sub (.Qy (.v 0) 21) (.sub (.v 4) (.l (.int 0))))),
 (.QC (.Q4 (.Qy (.v 5) 26) [.LtE] [(.v 3)]) [(.expr (.call (.l (.obj 312)) [(.v 0),(.v 5)])),(.ret (.l .none))] []),
 (.ret (.Q1 [(.v 5),(.sub (.v 4) (.l (.int 1)))]))]
noncomputable def Oj:FI:=⟨[0,1,2,3],[],14,NL⟩
noncomputable def LK:List IS:=[
 (.Q0 (.Qy (.v 1) 27) (.v 3)),
 (.ret (.l (.bool true)))]
noncomputable def Qi:FI:=⟨[0,1,2,3],[],12,LK⟩
noncomputable def NO:List IS:=[
 (.Q0 (.Qy (.v 1) 27) (.v 3)),
 (.Q0 (.v 4) (.ite (.Q4 (.sub (.Qy (.v 1) 17) (.l (.int 0))) [.Eq] [(.l (.int 2))]) (.Q1 [(.l (.int 8)),(.l (.int 13)),(.l (.int 15)),(.l (.int 17))]) (.Q1 [(.l (.int 128))]))),
 (.ret (.Q4 (.QB .RShift (.sub (.Qy (.v 1) 17) (.l (.int 5))) (.l (.int 8))) [.In] [(.v 4)]))]
noncomputable def LA:FI:=⟨[0,1,2,3],[],13,NO⟩
noncomputable def L6:List IS:=[
 (.Q0 (.v 4) (.call (.l (.obj 138)) [(.v 1)])),
 (.Q0 (.v 5) (.call (.l (.obj 293)) [(.RN (.Qy (.v 1) 15) (.QB .Add (.Qy (.v 1) 12) (.l (.int 8))) (.l .none)),(.v 4)])),
 (.QC (.Q4 (.v 5) [.Is] [(.l .none)]) [(.ret (.l .none))] []),
 (.Q0 (.v 6) (.call (.l (.obj 300)) [(.v 5)])),
 (.QC (.Q4 (.v 6) [.Is] [(.l .none)]) [(.ret (.l .none))] []),
 (.Q0 (.v 7) (.call (.l (.obj 319)) [(.v 0),(.v 2),(.v 6),(.v 3)])),
 (.QC (.QT .Or [(.Q4 (.v 7) [.Is] [(.l .none)]),(.Q4 (.sub (.call (.l (.obj 307)) [(.sub (.v 7) (.l (.int 0))),(.sub (.v 7) (.l (.int 1)))]) (.l (.int 4))) [.NotEq] [(.call (.l (.obj 166)) [(.v 1)])])]) [(.ret (.l .none))] []),
 (.ret (.v 7))]
noncomputable def Na:FI:=⟨[0,1,2,3],[],16,L6⟩
noncomputable def N9:List IS:=[
 (.Q0 (.v 1) (.call (.l (.obj 138)) [(.v 0)])),
 (.QC (.QT .Or [(.not (.call (.l (.obj 251)) [(.v 1),(.Qy (.v 0) 11)])),(.Q4 (.Qy (.v 0) 12) [.Lt] [(.l (.int 0))]),(.Q4 (.Qy (.v 0) 12) [.GtE] [(.call (.l (.bi "len")) [(.Qy (.v 0) 15)])])]) [(.ret (.l (.bool false)))] []),
 (.ret (.call (.l (.obj 258)) [(.v 1),(.sub (.Qy (.v 0) 15) (.Qy (.v 0) 12))]))]
noncomputable def Ls:FI:=⟨[0],[],10,N9⟩
noncomputable def My:List IS:=[
 (.QC (.not (.call (.l (.obj 368)) [(.Qy (.v 1) 28)])) [(.ret (.l (.bool false)))] []),
 (.Q0 (.v 3) (.call (.l (.obj 361)) [(.v 0),(.Qy (.v 1) 28),(.v 2),(.Qy (.v 1) 29)])),
 (.QC (.Q4 (.v 3) [.Is] [(.l .none)]) [(.Q0 (.Qy (.v 1) 30) (.l .none)),(.Q0 (.Qy (.v 1) 31) (.l (.int 1))),(.Q0 (.Qy (.v 1) 32) (.l (.int 0)))] [(.Q0 (.Qy (.v 1) 30) (.sub (.v 3) (.l (.int 0)))),(.Q0 (.Qy (.v 1) 31) (.l (.int 4))),(.Q0 (.Qy (.v 1) 32) (.sub (.v 3) (.l (.int 1))))]),
 (.ret (.l (.bool true)))]
noncomputable def Nu:FI:=⟨[0,1,2],[],12,My⟩
noncomputable def L5:List IS:=[
 (.Q0 (.v 3) (.Qy (.v 1) 28)),
 (.QC (.QT .And [(.Q4 (.call (.l (.obj 138)) [(.v 3)]) [.Eq] [(.l (.int 10))]),(.Q4 (.l (.int 0)) [.LtE,.LtE] [(.Qy (.v 3) 12),(.QB .Sub (.call (.l (.bi "len")) [(.Qy (.v 3) 15)]) (.l (.int 8)))])]) [(.QC (.Q4 (.sub (.Qy (.v 3) 15) (.Qy (.v 3) 12)) [.In] [(.Q1 [(.l (.int 130)),(.l (.int 131)),(.l (.int 132)),(.l (.int 133)),(.l (.int 134)),(.l (.int 135)),(.l (.int 136)),(.l (.int 143))])]) [(.Q0 (.Qy (.v 1) 30) (.l .none)),(.Q0 (.Qy (.v 1) 31) (.l (.int 64))),(.Q0 (.Qy (.v 1) 32) (.l (.int 0))),(.ret (.l (.bool true)))] [])] []),
 (.ret (.call (.l (.obj 375)) [(.v 0),(.v 1),(.v 2)]))]
noncomputable def LD:FI:=⟨[0,1,2],[],12,L5⟩
noncomputable def Nm:List IS:=[
 (.ret (.Rl [(.l (.int 17))] [(.Rl [(.l (.str 33)),(.l (.str 34))] [(.l (.obj 326)),(.l (.obj 333))])]))]
noncomputable def Qj:FI:=⟨[],[],8,Nm⟩
noncomputable def Nn:List IS:=[
 (.ret (.Rl [(.l (.int 1)),(.l (.int 58))] [(.Rl [(.l (.str 33)),(.l (.str 34)),(.l (.str 35))] [(.l (.obj 340)),(.l (.obj 347)),(.l (.obj 375))]),(.Rl [(.l (.str 33)),(.l (.str 34)),(.l (.str 35))] [(.l (.obj 340)),(.l (.obj 347)),(.l (.obj 382))])]))]
noncomputable def PI:FI:=⟨[],[],8,Nn⟩
noncomputable def NM:List IS:=[
 (.ret (.Rl [(.neg (.l (.int 1)))] [(.Rl [(.l (.str 33)),(.l (.str 34))] [(.l (.obj 326)),(.l (.obj 354))])]))]
noncomputable def Qv:FI:=⟨[],[],8,NM⟩
noncomputable def HN:List IS:=[
 (.Q0 (.v 2) (.Qy (.v 0) 30)),
 (.Q0 (.v 3) (.Qy (.v 0) 21)),
 (.QC (.QT .Or [(.Q4 (.v 2) [.Is] [(.l .none)]),(.Q4 (.v 3) [.Is] [(.l .none)]),(.Q4 (.QB .BitAnd (.Qy (.v 2) 25) (.QB .BitOr (.l (.int 8)) (.l (.int 512)))) [.NotEq] [(.l (.int 0))])]) [(.ret (.Q1 [(.l (.str 36)),(.l (.str 37))]))] []),
 (.Q0 (.Q1 [(.v 4),(.v 5),(.v 6),(.v 7),(.v 8)]) (.v 1)),
 (.Q0 (.v 9) (.l (.int 0))),
 (.QL [10] false (.Qy (.v 3) 23) [(.QC (.QT .And [(.Q4 (.Qy (.v 10) 24) [.Eq] [(.Qy (.v 2) 20)]),(.Q4 (.Qy (.v 0) 29) [.Lt] [(.Qy (.v 10) 26)])]) [(.Q0 (.v 9) (.QB .Add (.v 9) (.l (.int 1))))] [])]),
 (.QC (.Q4 (.v 9) [.GtE] [(.v 7)]) [(.ret (.Q1 [(.l (.str 36)),(.l (.str 37))]))] []),
 (.Q0 (.v 11) (.call (.l (.obj 307)) [(.v 2),(.QB .Sub (.l (.int 1)) (.Qy (.v 0) 32))])),
 (.Q0 (.v 12) (.Q1 [(.ite (.Q4 (.v 8) [.Eq] [(.l (.int 0))]) (.sub (.v 11) (.l (.int 0))) (.v 8)),(.v 4),(.sub (.v 11) (.l (.int 2))),(.sub (.v 11) (.l (.int 4))),(.v 5)])),
 (.QL [10] false (.Qy (.v 3) 23) [(.QC (.QT .And [(.Q4 (.Qy (.v 10) 24) [.Eq] [(.Qy (.v 2) 20)]),(.Q4 (.Qy (.v 10) 18) [.Eq] [(.Qy (.v 2) 18)]),(.Q4 (.Qy (.v 10) 38) [.Eq] [(.v 12)])]) [(.Q0 (.Qy (.v 10) 26) (.QB .Add (.Qy (.v 0) 29) (.v 6))),(.ret (.l .none))] [])]),
 (.expr (.Rs (.Qy (.v 3) 23) 0 [(.call (.l (.obj 420)) [(.Qy (.v 2) 20),(.v 12),(.Qy (.v 2) 18),(.QB .Add (.Qy (.v 0) 29) (.v 6))])])),
 (.ret (.l .none))]
noncomputable def MK:FI:=⟨[0,1],[],21,HN⟩
noncomputable def Om:List IS:=[
 (.ret (.Rl [(.l (.int 6))] [(.Rl [(.l (.str 33)),(.l (.str 34))] [(.l (.obj 606)),(.l (.obj 627))])]))]
noncomputable def PL:FI:=⟨[],[],8,Om⟩
noncomputable def Dk:List IS:=[
 (.QC (.Q4 (.v 1) [.In] [(.Qy (.v 0) 39)]) [(.ret (.sub (.Qy (.v 0) 39) (.v 1)))] []),
 (.QC (.Q4 (.neg (.l (.int 1))) [.In] [(.Qy (.v 0) 39)]) [(.ret (.sub (.Qy (.v 0) 39) (.neg (.l (.int 1)))))] []),
 .bad]
noncomputable def Nc:FI:=⟨[0,1],[],10,Dk⟩
noncomputable def NN:List IS:=[
 (.Q0 (.v 0) (.Rl [] [])),
 (.QL [1] false (.Q1 [(.call (.l (.obj 389)) []),(.call (.l (.obj 396)) []),(.call (.l (.obj 634)) []),(.call (.l (.obj 403)) [])]) [(.R5 0 1 2)]),
 (.ret (.v 0))]
noncomputable def Lw:FI:=⟨[],[],11,NN⟩
noncomputable def Nj:List IS:=[
 (.Q0 (.v 2) (.call (.l (.obj 240)) [(.v 0),(.v 1)])),
 (.Q0 (.Qy (.v 2) 39) (.call (.l (.obj 648)) [])),
 (.ret (.v 2))]
noncomputable def Ld:FI:=⟨[0,1],[(.int 0)],11,Nj⟩
noncomputable def N7:List IS:=[
 (.Q0 (.v 2) (.l (.int 0))),
 (.QL [3] false (.call (.l (.ty "list")) [(.Qy (.v 0) 21)]) [(.QC (.Q4 (.Qy (.sub (.Qy (.v 0) 21) (.v 3)) 26) [.LtE] [(.v 1)]) [(.expr (.call (.l (.obj 312)) [(.v 0),(.sub (.Qy (.v 0) 21) (.v 3))])),(.Q0 (.v 2) (.QB .Add (.v 2) (.l (.int 1))))] [])]),
 (.ret (.v 2))]
noncomputable def MQ:FI:=⟨[0,1],[],12,N7⟩
noncomputable def M7:List IS:=[
 (.QC (.Q4 (.call (.l (.obj 663)) [(.v 0),(.v 1)]) [.Gt] [(.l (.int 0))]) [(.ret (.l (.bool true)))] []),
 (.QL [2] false (.call (.l (.bi "sorted")) [(.Qy (.v 0) 21)]) [(.QC (.Q4 (.QB .BitAnd (.Qy (.sub (.Qy (.v 0) 21) (.v 2)) 25) (.l (.int 4))) [.Eq] [(.l (.int 0))]) [(.expr (.call (.l (.obj 312)) [(.v 0),(.sub (.Qy (.v 0) 21) (.v 2))])),(.ret (.l (.bool true)))] [])]),
 (.ret (.l (.bool false)))]
noncomputable def PH:FI:=⟨[0,1],[],11,M7⟩
noncomputable def Ng:List IS:=[
 (.Q0 (.Qy (.v 0) 30) (.v 1)),
 (.Q0 (.Qy (.v 0) 31) (.v 2)),
 (.Q0 (.Qy (.v 0) 32) (.v 3))]
noncomputable def Mq:FI:=⟨[0,1,2,3],[],12,Ng⟩
noncomputable def NS:List IS:=[
 (.Q0 (.v 3) (.call (.l (.obj 319)) [(.Qy (.v 0) 21),(.v 1),(.v 2),(.Qy (.v 0) 29)])),
 (.QC (.Q4 (.v 3) [.Is] [(.l .none)]) [(.ret (.l (.bool false)))] []),
 (.Q0 (.Q1 [(.v 4),(.v 5)]) (.v 3)),
 (.QC (.QT .Or [(.Q4 (.v 5) [.Eq] [(.l (.int 1))]),(.Q4 (.QB .BitAnd (.Qy (.v 4) 25) (.l (.int 2))) [.NotEq] [(.l (.int 0))])]) [(.expr (.call (.l (.obj 677)) [(.v 0),(.v 4),(.l (.int 2)),(.v 5)]))] [(.expr (.call (.l (.obj 677)) [(.v 0),(.v 4),(.ite (.Q4 (.QB .BitAnd (.Qy (.v 4) 25) (.l (.int 1))) [.NotEq] [(.l (.int 0))]) (.l (.int 4)) (.l (.int 8))),(.l (.int 0))]))]),
 (.ret (.l (.bool true)))]
noncomputable def Lh:FI:=⟨[0,1,2],[],14,NS⟩
noncomputable def Ig:List IS:=[
 (.Q0 (.v 4) (.Qy (.v 0) 21)),
 (.expr (.call (.l (.obj 677)) [(.v 0),(.l .none),(.l (.int 1)),(.l (.int 0))])),
 (.Q0 (.v 5) (.call (.l (.obj 300)) [(.v 3)])),
 (.QC (.Q4 (.v 5) [.Is] [(.l .none)]) [(.ret (.l .none))] []),
 (.QC (.QT .And [(.Q4 (.call (.l (.bi "len")) [(.Qy (.v 4) 21)]) [.GtE] [(.Qy (.v 4) 41)]),(.not (.call (.l (.obj 670)) [(.v 4),(.Qy (.v 0) 29)]))]) [(.ret (.Q1 [(.l (.str 42)),(.l (.str 37))]))] []),
 (.Q0 (.Qy (.v 4) 43) (.QB .Add (.Qy (.v 4) 43) (.l (.int 1)))),
 (.Q0 (.v 6) (.call (.l (.obj 218)) [(.Qy (.v 4) 43),(.v 3),(.v 5),(.v 2)])),
 (.Q0 (.Qy (.v 6) 27) (.Qy (.v 0) 29)),
 (.QC (.call (.sub (.v 1) (.l (.str 33))) [(.v 4),(.v 6),(.Qy (.v 0) 28),(.Qy (.v 0) 29)]) [(.expr (.call (.l (.obj 677)) [(.v 0),(.v 6),(.ite (.call (.l (.obj 691)) [(.v 0),(.v 6),(.v 2)]) (.l (.int 4)) (.l (.int 8))),(.l (.int 0))]))] []),
 (.ret (.l .none))]
noncomputable def Nk:FI:=⟨[0,1,2,3],[],15,Ig⟩
noncomputable def M6:List IS:=[
 (.Q0 (.v 4) (.Qy (.v 0) 21)),
 (.Q0 (.v 5) (.l (.str 44))),
 (.Se (.Q4 (.v 5) [.Eq] [(.l (.str 44))]) [(.QC (.not (.call (.l (.obj 684)) [(.v 0),(.v 2),(.v 3)])) [(.Q0 (.v 6) (.call (.l (.obj 698)) [(.v 0),(.v 1),(.v 2),(.v 3)])),(.QC (.Q4 (.Qy (.v 0) 30) [.Is] [(.l .none)]) [(.ret (.v 6))] [])] []),(.Q0 (.v 5) (.call (.sub (.v 1) (.l (.str 34))) [(.v 4),(.Qy (.v 0) 30),(.Qy (.v 0) 28),(.Qy (.v 0) 32),(.Qy (.v 0) 29)])),(.QC (.Q4 (.v 5) [.Eq] [(.l (.str 44))]) [(.expr (.call (.l (.obj 312)) [(.v 4),(.Qy (.v 0) 30)]))] [])]),
 (.QC (.Q4 (.v 5) [.Eq] [(.l (.str 45))]) [(.expr (.call (.l (.obj 677)) [(.v 0),(.l .none),(.l (.int 1)),(.l (.int 0))]))] [(.QC (.Q4 (.Qy (.v 0) 32) [.Eq] [(.l (.int 1))]) [(.Q0 (.Qy (.Qy (.v 0) 30) 25) (.QB .BitOr (.Qy (.Qy (.v 0) 30) 25) (.l (.int 2))))] [])]),
 (.ret (.l .none))]
noncomputable def Mu:FI:=⟨[0,1,2,3],[],15,M6⟩
noncomputable def L7:List IS:=[
 (.QC (.Q4 (.Qy (.v 0) 31) [.Eq] [(.l (.int 64))]) [(.ret (.l .none))] []),
 (.Q0 (.v 2) (.call (.l (.obj 286)) [(.Qy (.v 0) 28)])),
 (.QC (.Q4 (.v 2) [.Is] [(.l .none)]) [(.expr (.call (.l (.obj 677)) [(.v 0),(.l .none),(.l (.int 1)),(.l (.int 0))])),(.ret (.l .none))] []),
 (.Q0 (.v 3) (.call (.l (.obj 641)) [(.Qy (.v 0) 21),(.sub (.v 2) (.l (.int 1)))])),
 (.QC (.QT .And [(.Q4 (.l (.str 35)) [.In] [(.v 3)]),(.call (.sub (.v 3) (.l (.str 35))) [(.Qy (.v 0) 21),(.v 0),(.v 1)])]) [(.ret (.l .none))] []),
 (.ret (.call (.l (.obj 705)) [(.v 0),(.v 3),(.v 1),(.v 2)]))]
noncomputable def MM:FI:=⟨[0,1],[(.int 0)],12,L7⟩
noncomputable def LM:List IS:=[
 (.Q0 (.v 1) (.Qy (.v 0) 21)),
 (.Q0 (.v 2) (.Qy (.v 0) 30)),
 (.QC (.QT .Or [(.Q4 (.v 2) [.Is] [(.l .none)]),(.Q4 (.QB .BitAnd (.Qy (.v 2) 25) (.l (.int 8))) [.NotEq] [(.l (.int 0))])]) [(.ret (.l .none))] []),
 (.QL [3] false (.Q1 [(.Qy (.v 2) 17),(.Qy (.v 2) 16)]) [(.QC (.Q4 (.call (.l (.obj 319)) [(.v 1),(.Qy (.v 2) 18),(.v 3),(.Qy (.v 0) 29)]) [.IsNot] [(.l .none)]) [(.ret (.Q1 [(.l (.str 42)),(.l (.str 37))]))] [])]),
 (.Q0 (.sub (.Qy (.v 1) 19) (.Q1 [(.Qy (.v 2) 18),(.Qy (.v 2) 17)])) (.Q1 [(.Qy (.v 2) 20),(.l (.int 0))])),
 (.Q0 (.sub (.Qy (.v 1) 19) (.Q1 [(.Qy (.v 2) 18),(.Qy (.v 2) 16)])) (.Q1 [(.Qy (.v 2) 20),(.l (.int 1))])),
 (.Q0 (.sub (.Qy (.v 1) 21) (.Qy (.v 2) 20)) (.v 2)),
 (.Q0 (.Qy (.v 2) 25) (.QB .BitOr (.Qy (.v 2) 25) (.l (.int 8)))),
 (.ret (.l .none))]
noncomputable def LX:FI:=⟨[0],[],12,LM⟩
noncomputable def MC:List IS:=[
 (.Q0 (.v 2) (.QB .Mod (.sub (.v 0) (.l (.int 0))) (.v 1))),
 (.Q0 (.sub (.v 0) (.l (.int 0))) (.QB .FloorDiv (.sub (.v 0) (.l (.int 0))) (.v 1))),
 (.ret (.v 2))]
noncomputable def O0:FI:=⟨[0,1],[],11,MC⟩
noncomputable def NF:List IS:=[
 (.ret (.Q1 [(.l (.int 2)),(.l (.int 17)),(.QB .Add (.l (.int 167772161)) (.QB .Mod (.v 0) (.l (.int 3)))),(.l (.int 7)),(.QB .Add (.l (.int 167772164)) (.QB .FloorDiv (.v 0) (.l (.int 3)))),(.l (.int 9))]))]
noncomputable def Qr:FI:=⟨[0],[],9,NF⟩
noncomputable def Mn:List IS:=[
 (.Q0 (.v 1) (.QN [])),
 (.QL [2] false (.call (.l (.ty "range")) [(.l (.int 4))]) [(.Q0 (.v 3) (.QN [(.sub (.v 0) (.v 2))])),(.Q0 (.Q1 [(.v 4),(.v 5)]) (.Q1 [(.call (.l (.obj 751)) [(.v 3),(.l (.int 2))]),(.QN [(.call (.l (.obj 758)) [(.call (.l (.obj 751)) [(.v 3),(.l (.int 6))])]),(.call (.l (.obj 758)) [(.call (.l (.obj 751)) [(.v 3),(.l (.int 6))])])])])),(.Q0 (.v 6) (.QB .Add (.l (.int 1000)) (.sub (.Q1 [(.l (.int 0)),(.l (.int 700)),(.l (.int 1)),(.l (.int 90000))]) (.call (.l (.obj 751)) [(.v 3),(.l (.int 4))])))),(.expr (.Rs (.v 1) 0 [(.Rl [(.l (.str 20)),(.l (.str 18)),(.l (.str 46)),(.l (.str 26)),(.l (.str 25))] [(.QB .Add (.v 2) (.l (.int 1))),(.v 4),(.v 5),(.v 6),(.l (.int 0))])]))]),
 (.ret (.Rl [(.l (.str 29)),(.l (.str 21)),(.l (.str 47)),(.l (.str 48)),(.l (.str 22)),(.l (.str 23))] [(.l (.int 1000)),(.v 1),(.QN []),(.QN []),(.QN []),(.QN [])]))]
noncomputable def N4:FI:=⟨[0],[],15,Mn⟩
noncomputable def Oc:List IS:=[
 (.ret (.comp (.v 3) [3] false (.v 0) [(.Q4 (.sub (.v 3) (.v 2)) [.NotEq] [(.v 1)])]))]
noncomputable def NX:FI:=⟨[0,1,2],[],11,Oc⟩
noncomputable def MP:List IS:=[
 (.Q0 (.v 2) (.sub (.v 1) (.l (.str 20)))),
 (.Q0 (.sub (.v 0) (.l (.str 47))) (.comp (.v 3) [3] false (.sub (.v 0) (.l (.str 47))) [(.Q4 (.v 3) [.NotEq] [(.v 2)])])),
 (.Q0 (.sub (.v 0) (.l (.str 48))) (.call (.l (.obj 770)) [(.sub (.v 0) (.l (.str 48))),(.v 2),(.l (.int 1))])),
 (.Q0 (.sub (.v 0) (.l (.str 22))) (.call (.l (.obj 770)) [(.sub (.v 0) (.l (.str 22))),(.v 2),(.l (.int 1))])),
 (.Q0 (.sub (.v 0) (.l (.str 23))) (.call (.l (.obj 770)) [(.sub (.v 0) (.l (.str 23))),(.v 2),(.l (.int 0))])),
 (.Q0 (.sub (.v 1) (.l (.str 25))) (.QB .Add (.QB .Mod (.sub (.v 1) (.l (.str 25))) (.l (.int 512))) (.l (.int 512))))]
noncomputable def LE:FI:=⟨[0,1],[],11,MP⟩
noncomputable def Lo:List IS:=[
 (.QL [2] false (.sub (.v 0) (.l (.str 48))) [(.QC (.Q4 (.sub (.v 2) (.l (.int 0))) [.Eq] [(.v 1)]) [(.Q0 (.v 3) (.sub (.sub (.v 0) (.l (.str 21))) (.QB .Sub (.sub (.v 2) (.l (.int 1))) (.l (.int 1))))),(.QC (.Q4 (.sub (.v 3) (.l (.str 26))) [.Gt] [(.sub (.v 0) (.l (.str 29)))]) [(.ret (.Q1 [(.sub (.v 2) (.l (.int 1))),(.sub (.v 2) (.l (.int 2)))]))] []),(.expr (.call (.l (.obj 775)) [(.v 0),(.v 3)]))] [])]),
 (.ret (.l .none))]
noncomputable def MZ:FI:=⟨[0,1],[],12,Lo⟩
noncomputable def O1:List IS:=[
 (.QC (.Q4 (.QB .Mod (.QB .FloorDiv (.sub (.v 1) (.l (.str 25))) (.l (.int 8))) (.l (.int 2))) [.Eq] [(.l (.int 1))]) [(.ret (.l .none))] []),
 (.QL [2] false (.sub (.v 1) (.l (.str 46))) [(.QC (.Q4 (.call (.l (.obj 782)) [(.v 0),(.Q1 [(.sub (.v 1) (.l (.str 18))),(.v 2)])]) [.IsNot] [(.l .none)]) [(.ret (.Q1 [(.l (.str 42)),(.l (.str 37))]))] [])]),
 (.QL [3] false (.Q1 [(.l (.int 0)),(.l (.int 1))]) [(.Q0 (.v 4) (.Q1 [(.sub (.v 1) (.l (.str 18))),(.sub (.sub (.v 1) (.l (.str 46))) (.v 3))])),(.Q0 (.sub (.v 0) (.l (.str 48))) (.QB .Add (.comp (.v 5) [5] false (.sub (.v 0) (.l (.str 48))) [(.Q4 (.sub (.v 5) (.l (.int 0))) [.NotEq] [(.v 4)])]) (.QN [(.Q1 [(.v 4),(.sub (.v 1) (.l (.str 20))),(.v 3)])])))]),
 (.Q0 (.sub (.v 0) (.l (.str 47))) (.QB .Add (.sub (.v 0) (.l (.str 47))) (.QN [(.sub (.v 1) (.l (.str 20)))]))),
 (.Q0 (.sub (.v 1) (.l (.str 25))) (.QB .Add (.sub (.v 1) (.l (.str 25))) (.l (.int 8)))),
 (.ret (.l .none))]
noncomputable def Lm:FI:=⟨[0,1],[],13,O1⟩
noncomputable def GT:List IS:=[
 (.Q0 (.Q1 [(.v 4),(.v 5),(.v 6),(.v 7),(.v 8)]) (.v 3)),
 (.Q0 (.v 10) (.comp (.v 13) [13] false (.sub (.v 0) (.l (.str 23))) [(.Q4 (.sub (.v 13) (.l (.int 0))) [.Eq] [(.sub (.v 1) (.l (.str 20)))])])),
 (.QC (.QT .Or [(.Q4 (.sub (.v 1) (.l (.str 25))) [.Gt] [(.l (.int 7))]),(.Q4 (.call (.l (.bi "len")) [(.comp (.v 13) [13] false (.v 10) [(.Q4 (.sub (.v 13) (.l (.int 3))) [.Gt] [(.sub (.v 0) (.l (.str 29)))])])]) [.GtE] [(.v 7)])]) [(.ret (.Q1 [(.l (.str 36)),(.l (.str 37))]))] []),
 (.Q0 (.v 11) (.sub (.sub (.v 1) (.l (.str 46))) (.QB .Sub (.l (.int 1)) (.v 2)))),
 (.Q0 (.v 12) (.Q1 [(.ite (.Q4 (.v 8) [.Gt] [(.l (.int 0))]) (.v 8) (.l (.int 2))),(.v 4),(.sub (.v 11) (.l (.int 2))),(.sub (.v 11) (.l (.int 4))),(.v 5)])),
 (.QL [9] false (.v 10) [(.QC (.QT .And [(.Q4 (.sub (.v 9) (.l (.int 1))) [.Eq] [(.v 12)]),(.Q4 (.sub (.v 9) (.l (.int 2))) [.Eq] [(.sub (.v 1) (.l (.str 18)))])]) [(.Q0 (.sub (.v 9) (.l (.int 3))) (.QB .Add (.sub (.v 0) (.l (.str 29))) (.v 6))),(.ret (.l .none))] [])]),
 (.expr (.Rs (.sub (.v 0) (.l (.str 23))) 0 [(.QN [(.sub (.v 1) (.l (.str 20))),(.v 12),(.sub (.v 1) (.l (.str 18))),(.QB .Add (.sub (.v 0) (.l (.str 29))) (.v 6))])])),
 (.ret (.l .none))]
noncomputable def NY:FI:=⟨[0,1,2,3],[],21,GT⟩
noncomputable def MR:List IS:=[
 (.QC (.Q4 (.v 0) [.Eq] [(.l (.int 2))]) [(.Q0 (.v 2) (.QB .Add (.QB .Add (.l (.int 128)) (.l (.int 2))) (.QB .Mod (.v 1) (.l (.int 22))))),(.Q0 (.v 3) (.QB .Add (.QB .Add (.QB .Add (.QN [(.l (.int 96)),(.l (.int 0)),(.l (.int 0)),(.l (.int 0)),(.l (.int 0)),(.l (.int 8)),(.l (.int 58)),(.l (.int 64))]) (.QB .Mult (.QN [(.l (.int 254))]) (.l (.int 16)))) (.QB .Mult (.QN [(.l (.int 253))]) (.l (.int 16)))) (.QN [(.v 2),(.l (.int 0)),(.l (.int 0)),(.l (.int 0)),(.l (.int 0)),(.l (.int 0)),(.l (.int 0)),(.l (.int 0))]))),(.ret (.Q1 [(.call (.l (.ty "bytes")) [(.v 3)]),(.l (.int 34525)),(.ite (.Q4 (.v 2) [.In] [(.Q1 [(.l (.int 130)),(.l (.int 131)),(.l (.int 132)),(.l (.int 133)),(.l (.int 134)),(.l (.int 135)),(.l (.int 136)),(.l (.int 143))])]) (.l (.int 64)) (.l (.int 1)))]))] []),
 (.Q0 (.Q1 [(.v 4),(.v 5),(.v 6)]) (.Q1 [(.l (.int 0)),(.l (.int 17)),(.QN [(.l (.int 0)),(.l (.int 7))])])),
 (.QC (.Q4 (.v 0) [.Eq] [(.l (.int 0))]) [(.Q0 (.Q1 [(.v 4),(.v 6)]) (.Q1 [(.l (.int 9)),(.QN [(.l (.int 0)),(.l (.int 7)),(.l (.int 0)),(.l (.int 9)),(.l (.int 0)),(.l (.int 8)),(.l (.int 0)),(.l (.int 0))])]))] []),
 (.QC (.Q4 (.v 0) [.Eq] [(.l (.int 3))]) [(.Q0 (.Q1 [(.v 5),(.v 6)]) (.Q1 [(.l (.int 1)),(.QN [(.sub (.Q1 [(.l (.int 9)),(.l (.int 10)),(.l (.int 0)),(.l (.int 12)),(.l (.int 3)),(.l (.int 30))]) (.QB .Mod (.v 1) (.l (.int 6)))),(.l (.int 0)),(.l (.int 0)),(.l (.int 0)),(.l (.int 0)),(.l (.int 0)),(.l (.int 0)),(.l (.int 0))])]))] []),
 (.Q0 (.v 3) (.QB .Add (.QN [(.l (.int 69)),(.l (.int 0)),(.l (.int 0)),(.QB .Add (.l (.int 20)) (.call (.l (.bi "len")) [(.v 6)])),(.l (.int 0)),(.l (.int 1)),(.l (.int 0)),(.v 4),(.l (.int 64)),(.v 5),(.l (.int 0)),(.l (.int 0)),(.l (.int 10)),(.l (.int 0)),(.l (.int 0)),(.l (.int 1)),(.l (.int 10)),(.l (.int 0)),(.l (.int 0)),(.l (.int 4))]) (.v 6))),
 (.ret (.Q1 [(.call (.l (.ty "bytes")) [(.v 3)]),(.l (.int 2048)),(.l (.int 1))]))]
noncomputable def Gd:FI:=⟨[0,1],[],15,MR⟩
noncomputable def MX:List IS:=[
 (.Q0 (.v 3) (.sub (.call (.l (.obj 799)) [(.l (.int 1)),(.l (.int 0))]) (.l (.int 0)))),
 (.Q0 (.v 4) (.call (.l (.obj 738)) [(.call (.l (.obj 131)) [(.v 3)]),(.Rl [] []),(.v 2)])),
 (.Q0 (.Qy (.v 4) 21) (.v 0)),
 (.Q0 (.Qy (.v 4) 30) (.v 1)),
 (.ret (.v 4))]
noncomputable def Nf:FI:=⟨[0,1,2],[],13,MX⟩
noncomputable def LG:List IS:=[
 (.Q0 (.Q1 [(.v 4),(.v 5),(.v 6)]) (.call (.l (.obj 799)) [(.call (.l (.obj 751)) [(.v 3),(.l (.int 4))]),(.call (.l (.obj 751)) [(.v 3),(.l (.int 24))])])),
 (.Q0 (.v 7) (.call (.l (.obj 738)) [(.call (.l (.obj 131)) [(.v 4),(.v 5)]),(.Rl [] []),(.sub (.v 2) (.l (.str 29)))])),
 (.Q0 (.Qy (.v 7) 21) (.v 0)),
 (.Q0 (.Qy (.v 7) 30) (.v 1)),
 (.Q0 (.Qy (.v 7) 32) (.l (.int 1))),
 (.Q0 (.Qy (.v 7) 31) (.sub (.Q1 [(.l (.int 4)),(.l (.int 64))]) (.call (.l (.obj 751)) [(.v 3),(.l (.int 2))]))),
 (.Q0 (.v 8) (.Q4 (.Qy (.v 7) 31) [.Eq] [(.l (.int 64))])),
 (.QC (.Q4 (.call (.l (.obj 713)) [(.v 7),(.call (.l (.obj 751)) [(.v 3),(.l (.int 2))])]) [.IsNot] [(.l .none)]) [(.ret (.l (.bool false)))] []),
 (.QC (.v 8) [(.ret (.QT .And [(.Q4 (.Qy (.v 7) 30) [.Is] [(.v 1)]),(.Q4 (.Qy (.v 7) 31) [.Eq] [(.l (.int 64))]),(.Q4 (.Qy (.v 7) 32) [.Eq] [(.l (.int 1))])]))] []),
 (.ret (.QT .And [(.Q4 (.Qy (.v 7) 30) [.Is] [(.l .none)]),(.Q4 (.Qy (.v 7) 31) [.Eq] [(.v 6)]),(.Q4 (.Qy (.v 7) 32) [.Eq] [(.l (.int 0))])]))]
noncomputable def LN:FI:=⟨[0,1,2,3],[],17,LG⟩
noncomputable def Mx:List IS:=[
 (.Q0 (.v 4) (.Q1 [(.call (.l (.obj 751)) [(.v 3),(.l (.int 2))]),(.call (.l (.obj 758)) [(.call (.l (.obj 751)) [(.v 3),(.l (.int 6))])])])),
 (.Q0 (.Q1 [(.v 5),(.v 6)]) (.Q1 [(.call (.l (.obj 782)) [(.v 2),(.v 4)]),(.call (.l (.obj 319)) [(.v 0),(.sub (.v 4) (.l (.int 0))),(.sub (.v 4) (.l (.int 1))),(.sub (.v 2) (.l (.str 29)))])])),
 (.QC (.QT .Or [(.Q4 (.v 5) [.Is] [(.l .none)]),(.Q4 (.v 6) [.Is] [(.l .none)])]) [(.ret (.QT .And [(.Q4 (.v 5) [.Is] [(.l .none)]),(.Q4 (.v 6) [.Is] [(.l .none)])]))] []),
 (.ret (.QT .And [(.Q4 (.sub (.v 6) (.l (.int 0))) [.Is] [(.sub (.v 1) (.QB .Sub (.sub (.v 5) (.l (.int 0))) (.l (.int 1))))]),(.Q4 (.sub (.v 6) (.l (.int 1))) [.Eq] [(.sub (.v 5) (.l (.int 1)))])]))]
noncomputable def Lr:FI:=⟨[0,1,2,3],[],15,Mx⟩
noncomputable def Lq:List IS:=[
 (.Q0 (.v 5) (.call (.l (.obj 806)) [(.v 0),(.v 1),(.sub (.v 2) (.l (.str 29)))])),
 (.Q0 (.Qy (.v 5) 32) (.call (.l (.obj 751)) [(.v 4),(.l (.int 2))])),
 (.Q0 (.Q1 [(.v 6),(.v 7)]) (.Q1 [(.sub (.Q1 [(.l (.int 17)),(.l (.int 6))]) (.call (.l (.obj 751)) [(.v 4),(.l (.int 2))])),(.sub (.Q1 [(.l (.int 7)),(.l (.int 9))]) (.call (.l (.obj 751)) [(.v 4),(.l (.int 2))]))])),
 (.Q0 (.Q1 [(.v 8),(.v 9),(.v 10)]) (.QN [(.sub (.Q1 [(.l (.int 5000)),(.l (.int 0)),(.l (.int 400))]) (.call (.l (.obj 751)) [(.v 4),(.l (.int 3))])),(.sub (.Q1 [(.l (.int 1)),(.l (.int 2)),(.l (.int 0))]) (.call (.l (.obj 751)) [(.v 4),(.l (.int 3))])),(.sub (.Q1 [(.l (.int 0)),(.l (.int 2)),(.l (.int 10))]) (.call (.l (.obj 751)) [(.v 4),(.l (.int 3))]))])),
 (.Q0 (.v 11) (.Q1 [(.v 6),(.v 7),(.v 8),(.v 9),(.v 10)])),
 (.ret (.Q4 (.call (.l (.obj 431)) [(.v 5),(.v 11)]) [.Eq] [(.call (.l (.obj 792)) [(.v 2),(.v 3),(.Qy (.v 5) 32),(.v 11)])]))]
noncomputable def Ov:FI:=⟨[0,1,2,3,4],[],20,Lq⟩
noncomputable def NH:List IS:=[
 (.Q0 (.sub (.v 1) (.l (.str 29))) (.QB .Add (.sub (.v 1) (.l (.str 29))) (.sub (.Q1 [(.l (.int 0)),(.l (.int 1)),(.l (.int 699)),(.l (.int 90000))]) (.call (.l (.obj 751)) [(.v 2),(.l (.int 4))])))),
 (.Q0 (.v 4) (.comp (.v 5) [5] false (.sub (.v 1) (.l (.str 21))) [(.QT .And [(.Q4 (.sub (.v 5) (.l (.str 20))) [.In] [(.sub (.v 1) (.l (.str 47)))]),(.Q4 (.sub (.v 5) (.l (.str 26))) [.LtE] [(.sub (.v 1) (.l (.str 29)))])])])),
 (.QL [3] false (.v 4) [(.expr (.call (.l (.obj 775)) [(.v 1),(.v 3)]))]),
 (.ret (.Q4 (.call (.l (.obj 663)) [(.v 0),(.sub (.v 1) (.l (.str 29)))]) [.Eq] [(.call (.l (.bi "len")) [(.v 4)])]))]
noncomputable def Lf:FI:=⟨[0,1,2],[],13,NH⟩
noncomputable def Mi:List IS:=[
 (.Q0 (.v 4) (.QN [(.v 3)])),
 (.Q0 (.v 5) (.call (.l (.obj 751)) [(.v 4),(.l (.int 8))])),
 (.QC (.Q4 (.v 5) [.Eq] [(.l (.int 1))]) [(.ret (.call (.l (.obj 820)) [(.v 0),(.v 1),(.v 2),(.v 4)]))] []),
 (.QC (.Q4 (.v 5) [.Eq] [(.l (.int 5))]) [(.ret (.call (.l (.obj 832)) [(.v 0),(.v 2),(.v 4)]))] []),
 (.Q0 (.v 6) (.call (.l (.obj 751)) [(.v 4),(.l (.int 4))])),
 (.Q0 (.Q1 [(.v 7),(.v 8)]) (.Q1 [(.sub (.v 1) (.v 6)),(.sub (.sub (.v 2) (.l (.str 21))) (.v 6))])),
 (.QC (.Q4 (.v 5) [.Eq] [(.l (.int 0))]) [(.expr (.call (.l (.obj 312)) [(.v 0),(.v 7)])),(.expr (.call (.l (.obj 775)) [(.v 2),(.v 8)]))] [(.QC (.Q4 (.v 5) [.Eq] [(.l (.int 2))]) [(.ret (.Q4 (.call (.l (.obj 720)) [(.call (.l (.obj 806)) [(.v 0),(.v 7),(.sub (.v 2) (.l (.str 29)))])]) [.Eq] [(.call (.l (.obj 787)) [(.v 2),(.v 8)])]))] [(.QC (.Q4 (.v 5) [.Eq] [(.l (.int 3))]) [(.ret (.call (.l (.obj 827)) [(.v 0),(.v 7),(.v 2),(.v 8),(.v 4)]))] [(.QC (.Q4 (.v 5) [.Eq] [(.l (.int 4))]) [(.ret (.call (.l (.obj 813)) [(.v 0),(.v 7),(.v 2),(.v 4)]))] [(.QC (.Q4 (.v 5) [.Eq] [(.l (.int 6))]) [(.Q0 (.Q1 [(.v 9),(.v 10)]) (.Q1 [(.Q1 [(.call (.l (.obj 751)) [(.v 4),(.l (.int 2))]),(.call (.l (.obj 758)) [(.call (.l (.obj 751)) [(.v 4),(.l (.int 6))])])]),(.call (.l (.obj 751)) [(.v 4),(.l (.int 2))])])),(.Q0 (.sub (.Qy (.v 0) 22) (.v 9)) (.Q1 [(.QB .Add (.v 6) (.l (.int 1))),(.v 10)])),(.Q0 (.sub (.v 2) (.l (.str 22))) (.QB .Add (.comp (.v 15) [15] false (.sub (.v 2) (.l (.str 22))) [(.Q4 (.sub (.v 15) (.l (.int 0))) [.NotEq] [(.v 9)])]) (.QN [(.Q1 [(.v 9),(.QB .Add (.v 6) (.l (.int 1))),(.v 10)])])))] [(.Q0 (.Q1 [(.v 11),(.v 12)]) (.Q1 [(.call (.l (.obj 751)) [(.v 4),(.l (.int 2))]),(.sub (.sub (.v 8) (.l (.str 46))) (.l (.int 1)))])),(.Q0 (.v 13) (.Q1 [(.l (.int 2)),(.l (.int 17)),(.sub (.v 12) (.l (.int 2))),(.sub (.v 12) (.l (.int 4))),(.sub (.Q1 [(.l (.int 7)),(.l (.int 9))]) (.call (.l (.obj 751)) [(.v 4),(.l (.int 2))]))])),(.Q0 (.v 14) (.QB .Add (.sub (.v 2) (.l (.str 29))) (.sub (.Q1 [(.l (.int 0)),(.l (.int 400)),(.l (.int 5000)),(.l (.int 1))]) (.call (.l (.obj 751)) [(.v 4),(.l (.int 4))])))),(.Q0 (.Qy (.v 0) 23) (.QB .Add (.Qy (.v 0) 23) (.QN [(.call (.l (.obj 420)) [(.QB .Add (.v 6) (.l (.int 1))),(.v 13),(.v 11),(.v 14)])]))),(.expr (.Rs (.sub (.v 2) (.l (.str 23))) 0 [(.QN [(.QB .Add (.v 6) (.l (.int 1))),(.v 13),(.v 11),(.v 14)])]))])])])])]),
 (.ret (.l (.bool true)))]
noncomputable def Op:FI:=⟨[0,1,2,3],[],23,Mi⟩
noncomputable def LP:List IS:=[
 (.QC (.Q4 (.Qy (.v 0) 19) [.NotEq] [(.call (.l (.ty "dict")) [(.comp (.Q1 [(.v 3),(.Q1 [(.v 4),(.v 5)])]) [3,4,5] true (.sub (.v 2) (.l (.str 48))) [])])]) [(.ret (.l (.bool false)))] []),
 (.QC (.Q4 (.Qy (.v 0) 22) [.NotEq] [(.call (.l (.ty "dict")) [(.comp (.Q1 [(.v 3),(.Q1 [(.v 4),(.v 5)])]) [3,4,5] true (.sub (.v 2) (.l (.str 22))) [])])]) [(.ret (.l (.bool false)))] []),
 (.QC (.Q4 (.comp (.QN [(.Qy (.v 3) 24),(.Qy (.v 3) 38),(.Qy (.v 3) 18),(.Qy (.v 3) 26)]) [3] false (.Qy (.v 0) 23) []) [.NotEq] [(.sub (.v 2) (.l (.str 23)))]) [(.ret (.l (.bool false)))] []),
 (.QC (.QT .Or [(.Q4 (.call (.l (.ty "list")) [(.Qy (.v 0) 21)]) [.NotEq] [(.sub (.v 2) (.l (.str 47)))]),(.Q4 (.comp (.v 3) [3] false (.sub (.v 2) (.l (.str 47))) [(.Q4 (.sub (.Qy (.v 0) 21) (.v 3)) [.IsNot] [(.sub (.v 1) (.QB .Sub (.v 3) (.l (.int 1))))])]) [.NotEq] [(.QN [])])]) [(.ret (.l (.bool false)))] []),
 (.ret (.Q4 (.comp (.Qy (.v 3) 25) [3] false (.v 1) []) [.Eq] [(.comp (.sub (.v 3) (.l (.str 25))) [3] false (.sub (.v 2) (.l (.str 21))) [])]))]
noncomputable def LL:FI:=⟨[0,1,2],[],11,LP⟩
noncomputable def fH:List IS:=[
 (.Q0 (.v 0) (.RN (.v 0) (.l .none) (.l (.int 63)))),
 (.Q0 (.v 2) (.comp (.QB .Add (.sub (.l (.Q1 [(.int 252),(.int 254),(.int 253),(.int 126)])) (.v 9)) (.ite (.Q4 (.QB .Add (.l (.int 12)) (.v 9)) [.Lt] [(.call (.l (.bi "len")) [(.v 0)])]) (.sub (.v 0) (.QB .Add (.l (.int 12)) (.v 9))) (.l (.int 0)))) [9] false (.call (.l (.ty "range")) [(.l (.int 4))]) [])),
 (.Q0 (.Q1 [(.v 3),(.v 4),(.v 5)]) (.Q1 [(.call (.l (.obj 656)) [(.l (.int 9))]),(.call (.l (.obj 765)) [(.v 2)]),(.QN [])])),
 (.QL [6] false (.sub (.v 4) (.l (.str 21))) [(.Q0 (.v 7) (.call (.l (.obj 218)) [(.sub (.v 6) (.l (.str 20))),(.sub (.sub (.v 6) (.l (.str 46))) (.l (.int 0))),(.sub (.sub (.v 6) (.l (.str 46))) (.l (.int 1))),(.sub (.v 6) (.l (.str 18)))])),(.Q0 (.Qy (.v 7) 26) (.sub (.v 6) (.l (.str 26)))),(.expr (.Rs (.v 5) 0 [(.v 7)]))]),
 (.QL [1] false (.call (.l (.ty "range")) [(.l (.int 12))]) [(.Q0 (.v 8) (.QB .Add (.sub (.l (.Q1 [(.int 2),(.int 10),(.int 779),(.int 303),(.int 6),(.int 582),(.int 270),(.int 8),(.int 779),(.int 452),(.int 26),(.int 0)])) (.v 1)) (.ite (.Q4 (.v 1) [.Lt] [(.call (.l (.bi "len")) [(.v 0)])]) (.sub (.v 0) (.v 1)) (.l (.int 0))))),(.QC (.QT .Or [(.not (.call (.l (.obj 837)) [(.v 3),(.v 5),(.v 4),(.v 8)])),(.not (.call (.l (.obj 842)) [(.v 3),(.v 5),(.v 4)]))]) [(.ret (.l (.bool false)))] [])]),
 (.ret (.call (.l (.obj 849)) []))]
noncomputable def Qo:FI:=⟨[0],[],17,fH⟩
noncomputable def LH:List IS:=[
 (.Q0 (.Qy (.v 0) 20) (.v 1)),
 (.Q0 (.Qy (.v 0) 17) (.v 2)),
 (.Q0 (.Qy (.v 0) 16) (.v 3)),
 (.Q0 (.Qy (.v 0) 18) (.v 4)),
 (.Q0 (.Qy (.v 0) 26) (.l (.int 0))),
 (.Q0 (.Qy (.v 0) 27) (.l (.int 0))),
 (.Q0 (.Qy (.v 0) 2) (.l (.int 0))),
 (.Q0 (.Qy (.v 0) 25) (.l (.int 0))),
 (.Q0 (.Qy (.v 0) 31) (.l (.int 0))),
 (.Q0 (.Qy (.v 0) 50) (.l .none)),
 (.Q0 (.Qy (.v 0) 24) (.l (.int 0)))]
noncomputable def OX:FI:=⟨[0,1,2,3,4],[],13,LH⟩
noncomputable def Mf:List IS:=[
 (.Q0 (.Qy (.v 0) 41) (.v 1)),
 (.Q0 (.Qy (.v 0) 51) (.v 2)),
 (.Q0 (.Qy (.v 0) 52) (.v 3)),
 (.Q0 (.Qy (.v 0) 19) (.Rl [] [])),
 (.Q0 (.Qy (.v 0) 21) (.Rl [] [])),
 (.Q0 (.Qy (.v 0) 43) (.l (.int 0))),
 (.Q0 (.Qy (.v 0) 39) (.Rl [] [])),
 (.Q0 (.Qy (.v 0) 23) (.QN [])),
 (.Q0 (.Qy (.v 0) 22) (.Rl [] [])),
 (.Q0 (.Qy (.v 0) 53) (.l (.bool true)))]
noncomputable def OR:FI:=⟨[0,1,2,3],[(.int 64),(.int 0),(.int 128)],12,Mf⟩
noncomputable def Mr:List IS:=[
 (.Q0 (.Qy (.v 0) 28) (.v 1)),
 (.Q0 (.Qy (.v 0) 29) (.v 3)),
 (.Q0 (.Qy (.v 0) 54) (.v 4)),
 (.Q0 (.Qy (.v 0) 30) (.l .none)),
 (.Q0 (.Qy (.v 0) 31) (.l (.int 1))),
 (.Q0 (.Qy (.v 0) 32) (.l (.int 0))),
 (.Q0 (.Qy (.v 0) 21) (.l .none)),
 (.Q0 (.Qy (.v 0) 55) (.Rl [] [])),
 (.Q0 (.Qy (.v 0) 56) (.Rl [] [])),
 (.Q0 (.Qy (.v 0) 57) (.v 2)),
 (.Q0 (.Qy (.v 0) 58) (.Rl [] [])),
 (.Q0 (.Qy (.v 0) 59) (.Rl [] [])),
 (.Q0 (.Qy (.v 0) 60) (.Rl [] [])),
 (.Q0 (.Qy (.v 0) 61) (.Rl [] [])),
 (.Q0 (.Qy (.v 0) 62) (.l (.str 63))),
 (.Q0 (.Qy (.v 0) 64) (.QN [])),
 (.Q0 (.Qy (.v 0) 65) (.QN [])),
 (.Q0 (.Qy (.v 0) 66) (.l .none)),
 (.Q0 (.Qy (.v 0) 67) (.Rl [] []))]
noncomputable def OD:FI:=⟨[0,1,2,3,4],[(.int 0),(.str 70)],13,Mr⟩
noncomputable def MO:List IS:=[
 (.Q0 (.Qy (.v 0) 15) (.call (.l (.ty "bytearray")) [(.v 1)])),
 (.Q0 (.Qy (.v 0) 68) (.call (.l (.ty "bytearray")) [(.v 3)])),
 (.Q0 (.Qy (.v 0) 14) (.v 2)),
 (.Q0 (.Qy (.v 0) 11) (.neg (.l (.int 1)))),
 (.Q0 (.Qy (.v 0) 12) (.neg (.l (.int 1)))),
 (.Q0 (.Qy (.v 0) 13) (.l (.int 0))),
 (.Q0 (.Qy (.v 0) 69) (.call (.l (.obj 95)) []))]
noncomputable def O3:FI:=⟨[0,1,2,3],[],12,MO⟩
noncomputable def Lb:List IS:=[
 (.Q0 (.Qy (.v 0) 24) (.v 1)),
 (.Q0 (.Qy (.v 0) 38) (.v 2)),
 (.Q0 (.Qy (.v 0) 18) (.v 3)),
 (.Q0 (.Qy (.v 0) 26) (.v 4))]
noncomputable def Pd:FI:=⟨[0,1,2,3,4],[],13,Lb⟩
noncomputable def Sc:List (Nat×FI):=[(21,f21),(28,f28),(35,f35),(42,f42),(56,f56),(95,f95),(123,Nh),(131,MJ),(138,LU),(201,Po),(251,PV),(258,Qf),(265,KA),(272,MY),(279,LZ),(286,ME),(293,Ol),(300,NA),(307,LF),(312,Le),(319,Oj),(326,Qi),(340,LA),(361,Na),(368,Ls),(375,Nu),(382,LD),(389,Qj),(396,PI),(403,Qv),(431,MK),(634,PL),(641,Nc),(648,Lw),(656,Ld),(663,MQ),(670,PH),(677,Mq),(684,Lh),(698,Nk),(705,Mu),(713,MM),(720,LX),(751,O0),(758,Qr),(765,N4),(770,NX),(775,LE),(782,MZ),(787,Lm),(792,NY),(799,Gd),(806,Nf),(813,LN),(820,Lr),(827,Ov),(832,Lf),(837,Op),(842,LL),(854,Qo),(215,OX),(237,OR),(735,OD),(109,O3),(417,Pd)]
noncomputable def inL{α:Type}:List (Nat×α)->Nat->Option α
 |[],_=>none
 |e::r,a=> @Prod.rec Nat α (λJ=>Option α) (λb f=> @Bool.rec (λJ=>Option α) (inL r a) (some f) (Nat.beq b a)) e
theorem eY{α:Type}{a:Nat}{f:α}:∀{l:List (Nat×α)},inL l a=some f->(a,f)∈l
 |[],h=>nomatch h
 |(b,g)::r,h=>by
  have h: @Bool.rec (λJ=>Option α) (inL r a) (some g) (Nat.beq b a)=some f:=h
  cases e:Nat.beq b a with
  |true=>rw[e] at h;rw[<-alS h,alP e];exact .head _
  |false=>rw[e] at h;exact .tail _ (eY h)
noncomputable def OU:Nat->Option FI:=inL Sc
noncomputable def K3:List (Nat×Nat):=[(218,215),(240,237),(738,735),(112,109),(420,417)]
noncomputable def JZ:Nat->Option Nat:=inL K3
end
end
section
open PySem (Operator CmpOp BoolOp)
noncomputable def nG:List IS:=[
 (.Q0 (.v 0) (.call (.l (.obj 656)) [(.l (.int 0))])),
 (.Q0 (.v 1) (.sub (.call (.l (.obj 799)) [(.l (.int 0)),(.l (.int 0))]) (.l (.int 0)))),
 (.Q0 (.v 2) (.call (.l (.obj 738)) [(.call (.l (.obj 131)) [(.QB .Add (.QB .Add (.RN (.v 1) (.l .none) (.l (.int 7))) (.l (.bytes [0]))) (.RN (.v 1) (.l (.int 8)) (.l .none)))]),(.Rl [] []),(.l (.int 5))])),
 (.Q0 (.Qy (.v 2) 21) (.v 0)),
 (.Q0 (.Qy (.v 2) 32) (.l (.int 1))),
 (.QC (.QT .Or [(.Q4 (.call (.l (.obj 713)) [(.v 2)]) [.NotEq] [(.Q1 [(.l (.str 42)),(.l (.str 37))])]),(.Q4 (.Qy (.v 2) 30) [.IsNot] [(.l .none)]),(.Q4 (.Q1 [(.Qy (.v 2) 31),(.Qy (.v 2) 32),(.Qy (.v 0) 43)]) [.NotEq] [(.Q1 [(.l (.int 1)),(.l (.int 0)),(.l (.int 0))])])]) [(.ret (.l (.bool false)))] []),
 (.Q0 (.Q1 [(.v 3),(.v 4)]) (.Q1 [(.call (.l (.obj 240)) []),(.call (.l (.obj 218)) [(.l (.int 1)),(.call (.l (.obj 758)) [(.l (.int 0))]),(.call (.l (.obj 758)) [(.l (.int 3))]),(.l (.int 0))])])),
 (.QC (.QT .Or [(.not (.call (.l (.obj 326)) [(.v 3),(.v 4),(.Qy (.v 2) 28),(.l (.int 77))])),(.Q4 (.Qy (.v 4) 27) [.NotEq] [(.l (.int 77))])]) [(.ret (.l (.bool false)))] []),
 (.Q0 (.sub (.Qy (.v 3) 39) (.l (.int 17))) (.Rl [(.l (.str 33))] [(.l (.obj 326))])),
 (.QC (.Q4 (.call (.l (.obj 641)) [(.v 3),(.l (.int 17))]) [.NotEq] [(.sub (.Qy (.v 3) 39) (.l (.int 17)))]) [(.ret (.l (.bool false)))] [])]
noncomputable abbrev Er:Env:=[none,none,none,none,none,none,none,none,none,none,none,none,none,none]
noncomputable def P0:Ce:=⟨⟨0,1⟩,OU,JZ,λJ=>none⟩
structure M1(Y:Env)(U:St)(b y:Loc)(fs:List (Nat×V))(v:V):Prop where
 a:kP Y 3=some (.c b)
 b:U.get b=some (.Qz 240 fs)
 f:kR fs 39=some (.c y)
 y:U.get y=some (.dict [(.int 17,v)])
noncomputable def F9(o:Option zU):Bool:= @Option.rec zU (λJ=>Bool) false (λo=> @zU.casesOn (λJ=>Bool) o (λJ=>false) (λes=>Nat.beq es.length 1&&es.all λe=> @Option.rec Int (λJ=>Bool) false (λk=>decide (k=17)) e.1.QO) (λJ J=>false) λJ=>false) o
noncomputable def isB(Y:Env)(U:St):Bool:= @Option.rec V (λJ=>Bool) false (λv=> @Option.rec Loc (λJ=>Bool) false (λb=> @Option.rec zU (λJ=>Bool) false (λo=> @zU.casesOn (λJ=>Bool) o (λJ=>false) (λJ=>false) (λc fs=>Nat.beq c 240&& @Option.rec V (λJ=>Bool) false (λw=> @Option.rec Loc (λJ=>Bool) false (λy=>F9 (U.get y)) w.QD) (kR fs 39)) λJ=>false) (U.get b)) v.QD) (kP Y 3)
noncomputable def KB:KF:=λf Y U=> @Fl.rec (λJ=>Prop) (@Bool.rec (λJ=>Prop) False True (isB Y U)) (λJ=>False) False f
structure Ran(F:IS->BdF)(irs:List IS)(Y:Env)(U:St)(K:KF):Prop where
 run:exs F irs Y U K
theorem Jk{F:IS->BdF}{irs:List IS}{Y:Env}{U:St}{K:KF}(h:exs F irs Y U K=True):Ran F irs Y U K:=⟨h.mpr trivial⟩
theorem Kh:Ran (ex P0.j (orc P0 9) 64) nG Er ⟨0,0,λJ=>none⟩ KB:=by
 refine Jk ?_
 kernel_rfl
theorem G3{o:Option zU}(h:F9 o=true):∃v,o=some (.dict [(.int 17,v)]):=by
 cases o with
 |none=>exact nomatch h
 |some o=>
  cases o with
  |dict es=>
   have h:=alA (show(Nat.beq es.length 1&&es.all λe=> @Option.rec Int (λJ=>Bool) false (λk=>decide (k=17)) e.1.QO)=true from h)
   match es,h with
   |[e],h=>
    have z:=alN h.2 e (.head _)
    cases q:e.1.QO with
    |none=>rw[q] at z;exact nomatch z
    |some k=>
     rw[q] at z
     have z:k=17:=alH z
     refine⟨e.2,?_⟩
     rw[<-z,<-uX q]
  |_=>exact nomatch h
theorem AL{f:Fl}{Y:Env}{U:St}(h:KB f Y U):f= .next/\∃b y fs v,M1 Y U b y fs v:=by
 cases f with
 |next=>
  refine⟨rfl,?_⟩
  have h:isB Y U=true:=by
   cases e:isB Y U with
   |true=>rfl
   |false=>exact((alQ (@Bool.rec (λJ=>Prop) False True) e).mp h).elim
  unfold isB at h
  cases a:kP Y 3 with
  |none=>rw[a] at h;exact nomatch h
  |some v=>
   rw[a] at h
   have h: @Option.rec Loc (λJ=>Bool) false (λb=> @Option.rec zU (λJ=>Bool) false (λo=> @zU.casesOn (λJ=>Bool) o (λJ=>false) (λJ=>false) (λc fs=>Nat.beq c 240&& @Option.rec V (λJ=>Bool) false (λw=> @Option.rec Loc (λJ=>Bool) false (λy=>F9 (U.get y)) w.QD) (kR fs 39)) λJ=>false) (U.get b)) v.QD=true:=h
   cases b:v.QD with
   |none=>rw[b] at h;exact nomatch h
   |some b0=>
    rw[b] at h
    have h: @Option.rec zU (λJ=>Bool) false (λo=> @zU.casesOn (λJ=>Bool) o (λJ=>false) (λJ=>false) (λc fs=>Nat.beq c 240&& @Option.rec V (λJ=>Bool) false (λw=> @Option.rec Loc (λJ=>Bool) false (λy=>F9 (U.get y)) w.QD) (kR fs 39)) λJ=>false) (U.get b0)=true:=h
    cases c:U.get b0 with
    |none=>rw[c] at h;exact nomatch h
    |some o=>
     rw[c] at h
     cases o with
     |Qz C fs=>
      have h:=alA (show(Nat.beq C 240&& @Option.rec V (λJ=>Bool) false (λw=> @Option.rec Loc (λJ=>Bool) false (λy=>F9 (U.get y)) w.QD) (kR fs 39))=true from h)
      cases d:kR fs 39 with
      |none=>rw[d] at h;exact nomatch h.2
      |some w=>
       rw[d] at h
       have h2: @Option.rec Loc (λJ=>Bool) false (λy=>F9 (U.get y)) w.QD=true:=h.2
       cases e:w.QD with
       |none=>rw[e] at h2;exact nomatch h2
       |some y=>
        rw[e] at h2
        refine xE (G3 (show F9 (U.get y)=true from h2)) λu g=> ?_
        exact⟨b0,y,fs,u,qG b▸a,alP h.1▸c,qG e▸d,g⟩
     |_=>exact nomatch h
 |ret v=>exact h.elim
 |brk=>exact h.elim
theorem ask{b:Bool}{A B:Prop}(h1:b=true->A)(h2:b=false->B): @Bool.rec (λJ=>Prop) B A b:=by cases b;exact h2 rfl;exact h1 rfl
theorem lS{b:Bool}{A B:Prop}(h:b=true)(h1:A): @Bool.rec (λJ=>Prop) B A b:=h▸h1
theorem rV{b:Bool}{A B:Prop}(h:b=false)(h1:B): @Bool.rec (λJ=>Prop) B A b:=h▸h1
theorem zE{α:Type}{o:Option α}{F:α->Prop}{N:Prop}{a:α}(h:o=some a)(h1:F a): @Option.rec α (λJ=>Prop) N F o:=h▸h1
theorem dW{α:Type}{step:V->St->Cp (Option V)}{chk:St->Bool}{f g:α->V}{pd:α->Bool}{U:St}{xs:List α}:∀{K:List V->St->Prop},(∀x∈xs,∀K':Option V->St->Prop,K' (@Bool.rec (λJ=>Option V) none (some (g x)) (pd x)) U->step (f x) U K')->chk U=true->K ((xs.filter pd).map g) U->fQ step chk (xs.map f) U K:=by
 induction xs with
 |nil=>exactλJ J h=>h
 |cons x r ih=>
  intro K hs hc h
  refine hs x (.head _) _ (lS hc (ih (λy hy=>hs y (.tail _ hy)) hc ?_))
  cases q:pd x with
  |true=>rw[List.filter_cons_of_pos q] at h;exact h
  |false=>rw[List.filter_cons_of_neg (Bool.not_eq_true _▸q)] at h;exact h
section
variable{body g:BdF}{chk:St->Bool}{tg:List Nat}{b:Bool}{Y Y':Env}{U:St}{K:KF}
theorem zR{v:V}{vs:List V}(hb:aL tg b v Y=some Y')(h:body Y' U (Go (aE body chk tg b vs) chk K)):aE body chk tg b (v::vs) Y U K:=zE hb h
theorem zY(hc:chk U=true)(h:g Y U K):Go g chk K .next Y U:=lS hc h
theorem zI(h:g Y U K):sG g K .next Y U:=h
theorem zC{F:IS->BdF}{s:IS}{r:List IS}(h:F s Y U (sG (exs F r) K)):exs F (s::r) Y U K:=h
theorem rD{α:Type}:∀{l:List α} {k:List α->Prop},k l->CF l k
 |[],_,h=>h
 |a::r,k,h=>rD (l:=r) (k:=Nd a k) h
variable{W:jY}{Φ:Orc}{n:Nat}
theorem z8{f:FI}{as:List V}{K:V->St->Prop}(hb:Hz f as=some Y)(h:exs (ex W Φ 64) f.body Y U (Be K)):z9 W Φ f as U K:=zE hb (rD h)
theorem uO{it:IR}{body:List IS}(h:ev W Φ n Y it U (BR (exs (ex W Φ n) body) tg b Y K)):ex W Φ (n+1) (.QL tg b it body) Y U K:=h
theorem wK{es:List IR}{body:List IS}{vs:List V}(h1:∀K':V->St->Prop,K' (.Q1 vs) U->ev W Φ n Y (.Q1 es) U K')(h:aE (exs (ex W Φ n) body) (jI U none) tg b vs Y U K):ex W Φ (n+1) (.QL tg b (.Q1 es) body) Y U K:=h1 _ h
theorem q8{x:V}{vs:List V}{lo:Option Loc}(hi:qM x U=some (vs,lo))(h:aE body (jI U lo) tg b vs Y U K):BR body tg b Y K x U:=zE hi h
theorem yC{step:V->St->Cp (Option V)}{s:V}{vs:List V}{lo:Option Loc}{K:V->St->Prop}(hw:pP tg Y s U=some (vs,lo))(h:fQ step (jI U lo) vs U (pE eK K)):Dv step tg Y K s U:=zE hw h
end
theorem fS{κ:Type}{q:κ->κ->Bool}{k:κ}{v:V}:∀{es:List (κ×V)},tT q k es=some v->∃a,(a,v)∈es/\q a k=true
 |[],h=>nomatch h
 |(a,u)::r,h=>by
  have h: @Bool.rec (λJ=>Option V) (tT q k r) (some u) (q a k)=some v:=h
  cases e:q a k with
  |true=>rw[e] at h;exact⟨a,alS h▸ .head _,e⟩
  |false=>rw[e] at h;exact(fS h).imp λJ x=>⟨.tail _ x.1,x.2⟩
section
variable{κ:Type}{q:κ->κ->Bool}(hq:∀a b,q a b=true↔a=b)
include hq
theorem By{a b:κ}(h:a≠b):q a b=false:=alO λe=>h ((hq a b).mp e)
theorem mP(a:κ):q a a=true:=(hq a a).mpr rfl
theorem mL{α:Type}{f:α->κ}{g:α->V}{k:κ}:∀{l:List α},(∀x∈l,f x≠k)->tT q k (l.map λx=>(f x,g x))=none
 |[],_=>rfl
 |x::l,h=>by
  show @Bool.rec (λJ=>Option V) (tT q k (l.map _)) (some (g x)) (q (f x) k)=_
  rw[By hq (h x (.head _))]
  exact mL λy hy=>h y (.tail _ hy)
theorem vZ{α:Type}{f:α->κ}{g:α->V}{x:α}{B:List α}:∀{A:List α},(∀y∈A,f y≠f x)->tT q (f x) ((A++x::B).map λx=>(f x,g x))=some (g x)
 |[],_=>by
  show @Bool.rec (λJ=>Option V) (tT q (f x) (B.map _)) (some (g x)) (q (f x) (f x))=_
  rw[mP hq]
 |a::A,h=>by
  show @Bool.rec (λJ=>Option V) (tT q (f x) ((A++x::B).map _)) (some (g a)) (q (f a) (f x))=_
  rw[By hq (h a (.head _))]
  exact vZ λy hy=>h y (.tail _ hy)
theorem bH{α:Type}{f:α->κ}{g:α->V}{x:α}{B:List α}:∀{A:List α},(∀y∈A,f y≠f x)->Da q (f x) ((A++x::B).map λx=>(f x,g x))=(A++B).map λx=>(f x,g x)
 |[],_=>by
  show @Bool.rec (λJ=>List (κ×V)) ((f x,g x)::Da q (f x) (B.map _)) (B.map _) (q (f x) (f x))=_
  rw[mP hq];rfl
 |a::A,h=>by
  show @Bool.rec (λJ=>List (κ×V)) ((f a,g a)::Da q (f x) ((A++x::B).map _)) ((A++x::B).map _) (q (f a) (f x))=_
  rw[By hq (h a (.head _))]
  exact alQ (_:: ·) (bH λy hy=>h y (.tail _ hy))
theorem lX{α:Type}{f:α->κ}{g:α->V}{k:κ}{w:V}:∀{l:List α},(∀x∈l,f x≠k)->lT q k w (l.map λx=>(f x,g x))=(l.map λx=>(f x,g x))++[(k,w)]
 |[],_=>rfl
 |x::l,h=>by
  show @Bool.rec (λJ=>List (κ×V)) ((f x,g x)::lT q k w (l.map _)) ((f x,w)::(l.map _)) (q (f x) k)=_
  rw[By hq (h x (.head _))]
  exact alQ (_:: ·) (lX λy hy=>h y (.tail _ hy))
theorem oW{α:Type}{f:α->κ}{g:α->V}{x:α}{w:V}{B:List α}:∀{A:List α},(∀y∈A,f y≠f x)->lT q (f x) w ((A++x::B).map λx=>(f x,g x))=(A.map λx=>(f x,g x))++(f x,w)::(B.map λx=>(f x,g x))
 |[],_=>by
  show @Bool.rec (λJ=>List (κ×V)) ((f x,g x)::lT q (f x) w (B.map _)) ((f x,w)::(B.map _)) (q (f x) (f x))=_
  rw[mP hq];rfl
 |a::A,h=>by
  show @Bool.rec (λJ=>List (κ×V)) ((f a,g a)::lT q (f x) w ((A++x::B).map _)) ((f a,w)::((A++x::B).map _)) (q (f a) (f x))=_
  rw[By hq (h a (.head _))]
  exact alQ (_:: ·) (oW λy hy=>h y (.tail _ hy))
end
theorem uV{α β:Type}{f:α->β}{l:List α}(hn:(l.map f).Nodup){x:α}(hx:x∈l):∃A B,l=A++x::B/\(∀y∈A,f y≠f x)/\∀y∈B,f y≠f x:=by
 refine xEE (List.append_of_mem hx) λA B e_2=> ?_
 subst e_2
 rw[List.map_append,List.map_cons,List.nodup_append] at hn
 refine xAA hn λJ h2 h3=> ?_
 exact⟨A,B,rfl,λy hy=>h3 _ (List.mem_map.mpr ⟨y,hy,rfl⟩) _ (.head _),λy hy q=>(List.nodup_cons.mp h2).1 (q▸List.mem_map.mpr ⟨y,hy,rfl⟩)⟩
theorem yR{α:Type}{q:α->Bool}{l:List α}(h:∀x∈l,q x=true):l.filter q=l:=List.filter_eq_self.mpr h
theorem eL{α:Type}{A B:List α}{x:α}{q:α->Bool}(hx:q x=false)(hA:∀y∈A,q y=true)(hB:∀y∈B,q y=true):(A++x::B).filter q=A++B:=by
 rw[List.filter_append,List.filter_cons_of_neg (by rw[hx];exact Bool.false_ne_true),yR hA,yR hB]
theorem q9{U:St}{lo:Option Loc}:jI U lo U=true:=by
 cases lo with
 |none=>rfl
 |some x=>exact alG rfl
section
variable{U:St}{x:Loc}{v:V}{C a:Nat}{fs:List (Nat×V)}{es:List (V×V)}
theorem ga(h:U.get x=some (.Qz C fs))(e:kR fs a=some v):getAttr (.c x) a U=some v:=by
 show pur (gI U x) _=_
 rw[IE h];exact e
theorem sa(h:U.get x=some (.Qz C fs))(e:Nat.blt fs.length 900=true):setAttr (.c x) a v U=some (U.Q6 x (.Qz C (tI fs a v))):=by
 show pur (gI U x) _=_
 rw[IE h];exact if_pos (c:=fs.length<900) (alE e)
theorem moD(h:U.get x=some (.dict es)):pV 0 1 (.c x) 1 U=some ():=by show jV (U.get x) _ _ _=_;rw[h];rfl
theorem cmD{k:V}{o:Option V}(h:U.get x=some (.dict es))(ha:yD es k=true)(hl:yA es k=o):CC 0 1 (.c x) 1 [k] U=some (o.getD .none,U):=by
 subst hl
 show jV (U.get x) _ _ _=_
 rw[h];exact if_pos ⟨rfl,ha⟩
theorem deD{k w:V}(h:U.get x=some (.dict es))(ha:yD es k=true)(hl:yA es k=some w)(hz:es.length<1000):delItem (.c x) k U=some (U.Q6 x (.dict (Hc es k))):=by
 show pur (gD U x) _=_
 rw[Bp h];exact if_pos (by rw[ha,hl,alG hz];rfl)
theorem seD{k w:V}(h:U.get x=some (.dict es))(ha:yD es k=true)(hz:es.length<1000):setItem (.c x) k w U=some (U.Q6 x (.dict (uG es k w))):=by
 show jV (U.get x) _ _ _=_
 rw[h];exact if_pos (by rw[ha,alG hz];rfl)
theorem giD{k w:V}(h:U.get x=some (.dict es))(ha:yD es k=true)(hl:yA es k=some w):getItem (.c x) k U=some w:=by
 show jV (U.get x) _ _ _=_
 rw[h];exact(if_pos ha).trans hl
theorem AT{α:Type}{k:Nat}{f:Nat->Option α}(hk:k<1000):idx (.int k) f=f k:=by
 show @Bool.rec (λJ=>Option α) none (f k) (Nat.ble k 4611686018427387903)=_
 rw[Nat.ble_eq_true_of_le (show k<=4611686018427387903 by omega)]
theorem giL{vs:List V}{k:Nat}{w:V}(h:U.get x=some (.list vs))(hk:k<1000)(hl:vs[k]?=some w):getItem (.c x) (.int k) U=some w:=by
 show jV (U.get x) _ _ _=_
 rw[h]
 exact(AT (f:=λk=>vs[k]?) hk).trans hl
theorem inD{k:V}(h:U.get x=some (.dict es))(ha:yD es k=true):cG .In k (.c x) U=some (es.any λe=>decide (e.1=k)):=by
 show jV (U.get x) _ _ _=_
 rw[h];exact if_pos ha
theorem itL{vs:List V}(h:U.get x=some (.list vs)):qM (.c x) U=some (vs,some x):=by show jV (U.get x) _ _ _=_;rw[h];rfl
theorem keD{ks:List V}(h:U.get x=some (.dict es))(hz:es.length<1000)(e:es.map (·.1)=ks):lH "list" U (.c x)=some (.c U.fr,U.new (.list ks)):=by
 subst e
 show(pur (gD U x) λes=>aA es.length (mkL (es.map (·.1)) U))=_
 rw[Bp h];exact if_pos hz
theorem eqP{u w:V}(h1:yY u=true)(h2:yY w=true):cG .Eq u w U=some (decide (u=w)):=if_pos (by rw[h1,h2];rfl)
theorem j2{us:List V}(h:us.length<1000):eK us U=some (.c U.fr,U.new (.list us)):=if_pos h
theorem wU{tg:List Nat}{Y:Env}{s:V}{r:List V×Option Loc}(h:(tg.all λi=>(kP Y i).isNone)=true)(hi:qM s U=some r)(hl:r.1.length<1000):pP tg Y s U=some r:=(if_pos h).trans ((HT hi).trans (if_pos hl))
end
theorem dI{a b:Int}(h:a=b):decide (V.int a=V.int b)=true:=alG (h▸rfl)
theorem dnI{a b:Int}(h:a≠b):decide (V.int a=V.int b)=false:=decide_eq_false λq=>h (V.int.inj q)
end
section
structure Kc where
 QF:Nat->Int
 a:Nat->Int
 b:Nat->Int
 R2:Nat->Int
 fw:Loc->Bool
abbrev Ref:=Nat×Nat
abbrev T5:=Int×Int×Int×Int×Int
structure Ex where
 p:Nat
 t:T5
 z:Int
 u:Int
noncomputable def t5V(t:T5):V:= .Q1 [.int t.1,.int t.2.1,.int t.2.2.1,.int t.2.2.2.1,.int t.2.2.2.2]
noncomputable def yO(k:Int):V:= .Q1 [.int 2,.int 17,.int (167772161+Int.fmod k 3),.int 7,.int (167772164+Int.fdiv k 3),.int 9]
noncomputable def qS(z k:Int):V:= .Q1 [.int z,yO k]
noncomputable def dK(c:Kc)(r:Ref):Int:= @Nat.rec (λJ=>Int) (c.a r.1) (λJ J=>c.b r.1) r.2
noncomputable def jE(c:Kc)(r:Ref):V:=qS (c.QF r.1) (dK c r)
noncomputable def jA(p:Nat):V:= .int ((p:Int)+1)
noncomputable def u7(r:Ref):V:= .Q1 [jA r.1,.int (r.2:Int)]
noncomputable def stI(s:Bool×Bool):Int:= @Bool.rec (λJ=>Int) (@Bool.rec (λJ=>Int) 0 512 s.2) (@Bool.rec (λJ=>Int) 8 520 s.2) s.1
noncomputable abbrev qB(q:Loc)(n:Int):List (Nat×V):=[(41,.int 9),(51,.int 0),(52,.int 128),(19,.c ⟨1,1⟩),(21,.c ⟨1,2⟩),(43,.int n),(39,.c ⟨9,0⟩),(23,.c q),(22,.c ⟨1,3⟩),(53,.bool true)]
noncomputable abbrev yX(c:Kc)(p:Nat)(st:Bool×Bool):List (Nat×V):=[(20,jA p),(17,yO (c.a p)),(16,yO (c.b p)),(18,.int (c.QF p)),(26,.int (c.R2 p)),(27,.int 0),(2,.int 0),(25,.int (stI st)),(31,.int 0),(50,.none),(24,.int 0)]
noncomputable abbrev eS(x:Ex):List (Nat×V):=[(24,jA x.p),(38,t5V x.t),(18,.int x.z),(26,.int x.u)]
noncomputable abbrev vV(c:Kc)(keys:List Ref):List (V×V):=keys.map λr=>(jE c r,u7 r)
noncomputable abbrev eR(QI:List Nat):List (V×V):=QI.map λp=>(jA p,.c ⟨2,p⟩)
noncomputable abbrev flE(fl:List (V×Ref)):List (V×V):=fl.map λx=>(x.1,u7 x.2)
noncomputable abbrev qJ(now:Int)(wi wk wl wx:Loc):List (V×V):=[(.str 29,.int now),(.str 21,.c ⟨9,2⟩),(.str 47,.c wi),(.str 48,.c wk),(.str 22,.c wl),(.str 23,.c wx)]
noncomputable abbrev wH(c:Kc)(p:Nat)(st:Bool×Bool):List (V×V):=[(.str 20,jA p),(.str 18,.int (c.QF p)),(.str 46,.c ⟨5,p⟩),(.str 26,.int (c.R2 p)),(.str 25,.int (stI st))]
noncomputable def oF(k:V)(r:Ref):V:= .Q1 [k,jA r.1,.int (r.2:Int)]
noncomputable abbrev aU(x:Ex):List V:=[jA x.p,t5V x.t,.int x.z,.int x.u]
set_option genInjectivity true in
structure Dt where
 now:Int
 last:Int
 st:Nat->Bool×Bool
 QI:List Nat
 keys:List Ref
 bf:List (V×Ref)
 wf:List (V×Ref)
 xs:List (Loc×Loc×Ex)
noncomputable def tb(k:Nat):Bool:=Nat.beq k 1||(Nat.beq k 2||Nat.beq k 6)
noncomputable def tw(k:Nat):Bool:=Nat.beq k 3||(Nat.beq k 4||Nat.beq k 7)
noncomputable def tn(_:Nat):Bool:=false
noncomputable def okd(k:Nat):Bool:=Nat.beq k 0
noncomputable def sb(k:Nat):Bool:=okd k||tb k
noncomputable def sw(k:Nat):Bool:=okd k||tw k
theorem FZ{k:Nat}(h:okd k=true):k=0:=alP h
theorem dU{P:Nat->Prop}(h0:P 0){k:Nat}(h:okd k=true):P k:=FZ h▸h0
noncomputable def ex6(k:Nat):Bool:=okd k||Nat.beq k 6
noncomputable def ex7(k:Nat):Bool:=okd k||Nat.beq k 7
theorem BB{k:Nat}(h:okd k=true):tb k=false:=dU (P:=λk=>tb k=false) rfl h
theorem Ev{k:Nat}(h:okd k=true):tw k=false:=dU (P:=λk=>tw k=false) rfl h
theorem BA{P:Nat->Prop}(h0:P 0)(h2:P 6){k:Nat}(h:ex6 k=true):P k:=by
 unfold ex6 at h
 cases e:okd k with
 |true=>exact dU h0 e
 |false=>rw[e] at h;exact alP h▸h2
theorem Bk{P:Nat->Prop}(h0:P 0)(h2:P 7){k:Nat}(h:ex7 k=true):P k:=by
 unfold ex7 at h
 cases e:okd k with
 |true=>exact dU h0 e
 |false=>rw[e] at h;exact alP h▸h2
theorem kxF{l:Loc}(o:okd l.k=true):sb l.k=true/\l≠⟨1,0⟩/\l≠⟨1,1⟩/\l≠⟨1,2⟩/\l≠⟨1,3⟩/\l.k≠2:=by
 obtain⟨k,i⟩:=l
 have h:k=0:=FZ o
 subst h
 exact⟨rfl,nofun,nofun,nofun,nofun,nofun⟩
def Fe(fw:Loc->Bool)(U:St):Prop:=∀l,fw l=true->okd l.k=true/\U.get l≠none
structure BkV(U:St)(c:Kc)(d:Dt)(xl:Loc):Prop where
 b0:U.get ⟨1,0⟩=some (.Qz 240 (qB xl d.last))
 b1:U.get ⟨1,1⟩=some (.dict (vV c d.keys))
 b2:U.get ⟨1,2⟩=some (.dict (eR d.QI))
 b3:U.get ⟨1,3⟩=some (.dict (flE d.bf))
 bx:U.get xl=some (.list (d.xs.map λq=> .c q.1))
 kx:sb xl.k=true/\xl≠⟨1,0⟩/\xl≠⟨1,1⟩/\xl≠⟨1,2⟩/\xl≠⟨1,3⟩/\xl.k≠2
 x:∀q∈d.xs,U.get q.1=some (.Qz 420 (eS q.2.2))/\ex6 q.1.k=true
 r:∀p,p<4->U.get ⟨2,p⟩=some (.Qz 218 (yX c p (d.st p)))
 fz:c.fw xl=false
 fl:Fe c.fw U
structure WdV(U:St)(c:Kc)(d:Dt)(wi wk wl wx:Loc):Prop where
 w0:U.get ⟨3,0⟩=some (.dict (qJ d.now wi wk wl wx))
 i:U.get wi=some (.list (d.QI.map jA))
 ky:U.get wk=some (.list (d.keys.map λr=>oF (jE c r) r))
 fl:U.get wl=some (.list (d.wf.map λx=>oF x.1 x.2))
 ex:U.get wx=some (.list (d.xs.map λq=> .c q.2.1))
 ks:∀l∈[wi,wk,wl,wx],sw l.k=true/\l≠⟨3,0⟩/\l.k≠4
 x:∀q∈d.xs,U.get q.2.1=some (.list (aU q.2.2))/\ex7 q.2.1.k=true
 k:∀p,p<4->U.get ⟨4,p⟩=some (.dict (wH c p (d.st p)))
 dx:wx≠wi/\wx≠wk/\wx≠wl
 fz:∀l∈[wi,wk,wl,wx],c.fw l=false
 lv:Fe c.fw U
structure StV(U:St)(c:Kc)(sc:List Int):Prop where
 t0:U.get ⟨9,0⟩=some (.dict [(.int 17,.c ⟨9,4⟩),(.int 1,.c ⟨9,5⟩),(.int 58,.c ⟨9,6⟩),(.int 6,.c ⟨9,7⟩),(.int (-1),.c ⟨9,8⟩)])
 t4:U.get ⟨9,4⟩=some (.dict [(.str 33,.obj 326),(.str 34,.obj 333)])
 t5:U.get ⟨9,5⟩=some (.dict [(.str 33,.obj 340),(.str 34,.obj 347),(.str 35,.obj 375)])
 t6:U.get ⟨9,6⟩=some (.dict [(.str 33,.obj 340),(.str 34,.obj 347),(.str 35,.obj 382)])
 t7:U.get ⟨9,7⟩=some (.dict [(.str 33,.obj 606),(.str 34,.obj 627)])
 t8:U.get ⟨9,8⟩=some (.dict [(.str 33,.obj 326),(.str 34,.obj 354)])
 rl:U.get ⟨9,1⟩=some (.list [.c ⟨2,0⟩,.c ⟨2,1⟩,.c ⟨2,2⟩,.c ⟨2,3⟩])
 tl:U.get ⟨9,2⟩=some (.list [.c ⟨4,0⟩,.c ⟨4,1⟩,.c ⟨4,2⟩,.c ⟨4,3⟩])
 sc:U.get ⟨9,3⟩=some (.list (sc.map .int))
 e:∀p,p<4->U.get ⟨5,p⟩=some (.list [yO (c.a p),yO (c.b p)])
structure y8(U:St):Prop where
 d:∀n,U.next<=n->U.get ⟨U.kd,n⟩=none
 o:okd U.kd=true
structure Fr(T:Nat->Bool)(U U':St):Prop where
 kd:U'.kd=U.kd
 next:U.next<=U'.next
 get:∀l o,T l.k=false->U.get l=some o->U'.get l=some o
 Q3:y8 U'
theorem y8.Q6{U:St}(G:y8 U){l:Loc}{o o':zU}(h:U.get l=some o):y8 (U.Q6 l o'):=⟨λn hn=>by
 have e:Loc.mk U.kd n≠l:=λq=>nomatch (G.d n hn).symm.trans ((alQ U.get q).trans h)
 exact(zH e).trans (G.d n hn),G.o⟩
theorem y8.new{U:St}(G:y8 U){o:zU}:y8 (U.new o):=⟨λn hn=>(vC λq=>Nat.ne_of_gt hn (alQ Loc.i q)).trans (G.d n (Nat.le_of_succ_le hn)),G.o⟩
theorem y8.ne{U:St}(G:y8 U){l:Loc}{o:zU}(h:U.get l=some o):l≠U.fr:=λq=>nomatch (G.d _ (Nat.le_refl _)).symm.trans ((alQ U.get q.symm).trans h)
theorem y8.nk{U:St}(G:y8 U){l:Loc}{o a:zU}(h:U.get l=some o):(U.new a).get l=some o:=(vC (G.ne h)).trans h
theorem Fr.refl{T:Nat->Bool}{U:St}(G:y8 U):Fr T U U:=⟨rfl,Nat.le_refl _,λJ J J h=>h,G⟩
theorem Fr.trans{T:Nat->Bool}{U D Y:St}(x:Fr T U D)(y:Fr T D Y):Fr T U Y:=⟨y.kd.trans x.kd,alJ x.next y.next,λl o h e=>y.get l o h (x.get l o h e),y.Q3⟩
theorem Fr.Q6{T:Nat->Bool}{U D:St}(x:Fr T U D){l:Loc}{o o':zU}(h:D.get l=some o)(ht:T l.k=true):Fr T U (D.Q6 l o'):=
 ⟨x.kd,x.next,λm p hm e=>(zH λq=>nomatch (q▸hm).symm.trans ht).trans (x.get m p hm e),x.Q3.Q6 h⟩
theorem Fr.new{T:Nat->Bool}{U D:St}(x:Fr T U D){o:zU}:Fr T U (D.new o):=
 ⟨x.kd,Nat.le_succ_of_le x.next,λm p hm e=>(vC (x.Q3.ne (x.get m p hm e))).trans (x.get m p hm e),x.Q3.new⟩
theorem Fr.to{T T':Nat->Bool}{U D:St}(x:Fr T U D)(h:∀k,T k=true->T' k=true):Fr T' U D:=
 ⟨x.kd,x.next,λm p hm e=>x.get m p (alO λq=>Bool.false_ne_true (hm.symm.trans (h _ q))) e,x.Q3⟩
theorem Fe.fr{fw:Loc->Bool}{T:Nat->Bool}{U U':St}(h:Fe fw U)(F:Fr T U U')(h0:T 0=false):Fe fw U':=λl hl=>⟨(h l hl).1,by
 have z:=h l hl
 cases e:U.get l with
 |none=>exact absurd e z.2
 |some o=>exactλq=>nomatch (F.get l o (dU (P:=λk=>T k=false) h0 z.1) e).symm.trans q⟩
theorem Fe.new{fw:Loc->Bool}{U:St}(h:Fe fw U)(G:y8 U):fw U.fr=false:=alO λq=>(h _ q).2 (G.d _ (Nat.le_refl _))
theorem lK{k:Nat}(h:sb k=true):tw k=false:=by
 unfold sb at h
 cases e:okd k with
 |true=>exact dU (P:=λk=>tw k=false) rfl e
 |false=>
  rw[e] at h
  have:k=1\/k=2\/k=6:=by
   have h:tb k=true:=h
   unfold tb at h
   simpa [Bool.or_eq_true,Nat.beq_eq_true_eq] using h
  rcases this with rfl|rfl|rfl<;>rfl
theorem hW{k:Nat}(h:sw k=true):tb k=false:=by
 unfold sw at h
 cases e:okd k with
 |true=>exact dU (P:=λk=>tb k=false) rfl e
 |false=>
  rw[e] at h
  have:k=3\/k=4\/k=7:=by
   have h:tw k=true:=h
   unfold tw at h
   simpa [Bool.or_eq_true,Nat.beq_eq_true_eq] using h
  rcases this with rfl|rfl|rfl<;>rfl
theorem BkV.fr{U U':St}{c:Kc}{d:Dt}{xl:Loc}{T:Nat->Bool}(hT:∀k,sb k=true->T k=false)(B:BkV U c d xl)(F:Fr T U U'):BkV U' c d xl where
 b0:=F.get _ _ (hT _ rfl) B.b0
 b1:=F.get _ _ (hT _ rfl) B.b1
 b2:=F.get _ _ (hT _ rfl) B.b2
 b3:=F.get _ _ (hT _ rfl) B.b3
 bx:=F.get _ _ (hT _ B.kx.1) B.bx
 kx:=B.kx
 x q hq:=⟨F.get _ _ (BA (P:=λk=>T k=false) (hT _ rfl) (hT _ rfl) (B.x q hq).2) (B.x q hq).1,(B.x q hq).2⟩
 r p hp:=F.get _ _ (hT _ rfl) (B.r p hp)
 fz:=B.fz
 fl:=B.fl.fr F (hT _ rfl)
theorem WdV.fr{U U':St}{c:Kc}{d:Dt}{wi wk wl wx:Loc}{T:Nat->Bool}(hT:∀k,sw k=true->T k=false)(B:WdV U c d wi wk wl wx)(F:Fr T U U'):WdV U' c d wi wk wl wx where
 w0:=F.get _ _ (hT _ rfl) B.w0
 i:=F.get _ _ (hT _ (B.ks wi (.head _)).1) B.i
 ky:=F.get _ _ (hT _ (B.ks wk (.tail _ (.head _))).1) B.ky
 fl:=F.get _ _ (hT _ (B.ks wl (.tail _ (.tail _ (.head _)))).1) B.fl
 ex:=F.get _ _ (hT _ (B.ks wx (.tail _ (.tail _ (.tail _ (.head _))))).1) B.ex
 ks:=B.ks
 x q hq:=⟨F.get _ _ (Bk (P:=λk=>T k=false) (hT _ rfl) (hT _ rfl) (B.x q hq).2) (B.x q hq).1,(B.x q hq).2⟩
 k p hp:=F.get _ _ (hT _ rfl) (B.k p hp)
 dx:=B.dx
 fz:=B.fz
 lv:=B.lv.fr F (hT _ rfl)
theorem StV.fr{U U':St}{c:Kc}{sc:List Int}{T:Nat->Bool}(h9:T 9=false)(h5:T 5=false)(B:StV U c sc)(F:Fr T U U'):StV U' c sc:=
 ⟨F.get _ _ h9 B.t0,F.get _ _ h9 B.t4,F.get _ _ h9 B.t5,F.get _ _ h9 B.t6,F.get _ _ h9 B.t7,F.get _ _ h9 B.t8,F.get _ _ h9 B.rl,F.get _ _ h9 B.tl,F.get _ _ h9 B.sc,λp hp=>F.get _ _ h5 (B.e p hp)⟩
noncomputable def nb(p a:Nat):Bool:= !Nat.beq a p
theorem KZ{p a:Nat}(h:a=p):nb p a=false:=by rw[h];unfold nb;rw[Nat.beq_refl];rfl
theorem Fw{p a:Nat}(h:a≠p):nb p a=true:=by unfold nb;rw[alO λq=>h (alP q)];rfl
theorem Gv{p a:Nat}(h:nb p a=true):a≠p:=λq=>Bool.false_ne_true ((KZ q).symm.trans h)
noncomputable def u4(p:Nat)(d:Dt):Dt where
 now:=d.now
 last:=d.last
 st:=λq=> @Bool.rec (λJ=>Bool×Bool) (d.st q) ((d.st q).1,true) (Nat.beq q p)
 QI:=d.QI.filter (nb p)
 keys:=d.keys.filter λr=>nb p r.1
 bf:=d.bf.filter λx=>nb p x.2.1
 wf:=d.wf.filter λx=>nb p x.2.1
 xs:=d.xs.filter λq=>nb p q.2.2.p
structure Inv(c:Kc)(d:Dt)(k:Nat):Prop where
 Rh:(d.keys.map (jE c)).Nodup
 Ro:∀r∈d.keys,r.1<4/\r.2<2
 Rz:∀r∈d.keys,r.1∈d.QI
 Ra:d.QI.Nodup
 Rn:∀p∈d.QI,p<4
 Rv:∀p∈d.QI,(d.st p).1=true
 RI:(d.bf.map (·.1)).Nodup
 RK:(d.wf.map (·.1)).Nodup
 RE:∀x∈d.bf,∃z t,x.1=qS z t
 RJ:∀x,x∈d.bf↔x∈d.wf
 R8:d.keys.length<=2*k
 RC:d.QI.length<=k
 RH:d.bf.length<=k
 RG:d.wf.length<=k
 R4:d.xs.length<=k
 xn:(d.xs.map (·.1)).Nodup
 wn:(d.xs.map (·.2.1)).Nodup
theorem jB{α β:Type}{f:α->β}{p:α->Bool}{l:List α}(h:(l.map f).Nodup):((l.filter p).map f).Nodup:=h.sublist (List.filter_sublist.map f)
theorem Inv.drop{c:Kc}{d:Dt}{k:Nat}(I:Inv c d k)(p:Nat):Inv c (u4 p d) k where
 Rh:=jB I.Rh
 Ro r hr:=I.Ro r ((alL hr).1)
 Rz r hr:=List.mem_filter.mpr ⟨I.Rz r ((alL hr).1),(alL hr).2⟩
 Ra:=I.Ra.filter _
 Rn q hq:=I.Rn q ((alL hq).1)
 Rv q hq:=by
  show(@Bool.rec (λJ=>Bool×Bool) (d.st q) ((d.st q).1,true) (Nat.beq q p)).1=true
  cases Nat.beq q p<;>exact I.Rv q ((alL hq).1)
 RI:=jB I.RI
 RK:=jB I.RK
 RE x hx:=I.RE x ((alL hx).1)
 RJ x:=by
  show x∈d.bf.filter _↔x∈d.wf.filter _
  rw[List.mem_filter,List.mem_filter,I.RJ x]
 R8:=alJ (List.length_filter_le _ _) I.R8
 RC:=alJ (List.length_filter_le _ _) I.RC
 RH:=alJ (List.length_filter_le _ _) I.RH
 RG:=alJ (List.length_filter_le _ _) I.RG
 R4:=alJ (List.length_filter_le _ _) I.R4
 xn:=jB I.xn
 wn:=jB I.wn
theorem Inv.Ri{c:Kc}{d:Dt}{k:Nat}(I:Inv c d k):Inv c d (k+1):=
 {I with R8:=alJ I.R8 (Nat.mul_le_mul_left 2 (Nat.le_succ k)),RC:=Nat.le_succ_of_le I.RC,RH:=Nat.le_succ_of_le I.RH,RG:=Nat.le_succ_of_le I.RG,R4:=Nat.le_succ_of_le I.R4}
structure Tn(U:St)(c:Kc)(sc:List Int)(d:Dt)(k:Nat):Prop where
 V:∃xl wi wk wl wx,BkV U c d xl/\WdV U c d wi wk wl wx/\xl∉[wi,wk,wl,wx]
 S:StV U c sc
 G:y8 U
 I:Inv c d k
 hk:k<=400
 fw:∀l,c.fw l=false
theorem Tn.B{U:St}{c:Kc}{sc:List Int}{d:Dt}{k:Nat}(T:Tn U c sc d k):∃xl,BkV U c d xl:=T.V.imp λJ h=>h.elim λJ h=>h.elim λJ h=>h.elim λJ h=>h.elim λJ h=>h.1
theorem Tn.W{U:St}{c:Kc}{sc:List Int}{d:Dt}{k:Nat}(T:Tn U c sc d k):∃wi wk wl wx,WdV U c d wi wk wl wx:=T.V.elim λJ h=>h.imp λJ h=>h.imp λJ h=>h.imp λJ h=>h.imp λJ h=>h.2.1
theorem Tn.fr{U U':St}{c:Kc}{sc:List Int}{d:Dt}{k:Nat}(T:Tn U c sc d k)(F:Fr tn U U'):Tn U' c sc d k where
 V:=T.V.imp λJ h=>h.imp λJ h=>h.imp λJ h=>h.imp λJ h=>h.imp λJ h=>⟨h.1.fr (λJ J=>rfl) F,h.2.1.fr (λJ J=>rfl) F,h.2.2⟩
 S:=T.S.fr rfl rfl F
 G:=F.Q3
 I:=T.I
 hk:=T.hk
 fw:=T.fw
noncomputable abbrev Kc.of(c:Kc)(l:List Loc):Kc:=⟨c.QF,c.a,c.b,c.R2,λx=>okd x.k&&l.any λy=>decide (y=x)⟩
theorem En{l:List Loc}{x:Loc}{c:Kc}(h:x∉l):(c.of l).fw x=false:=alO λq=>by
 obtain⟨y,hy,e⟩:=List.any_eq_true.mp (alA q).2
 exact h (alH e▸hy)
theorem CG{l:List Loc}{x:Loc}{c:Kc}(h:(c.of l).fw x=true):okd x.k=true/\x∈l:=by
 refine xEA (List.any_eq_true.mp (alA h).2) λy hy e=> ?_
 exact⟨(alA h).1,alH e▸hy⟩
theorem Oi{k:Nat}(h:sb k=true)(h':sw k=true):okd k=true:=by
 cases e:okd k with
 |true=>rfl
 |false=>
  unfold sw at h'
  rw[e] at h'
  exact(lK h).symm.trans h'
theorem G5{l:List Loc}{x:Loc}{c:Kc}(h:(c.of l).fw x=false)(ho:x∈l->okd x.k=true):x∉l:=λhx=>by
 rw[show(c.of l).fw x=true from alB ⟨ho hx,List.any_eq_true.mpr ⟨x,hx,alG rfl⟩⟩] at h
 exact nomatch h
theorem Inv.of{c:Kc}{d:Dt}{k:Nat}(I:Inv c d k){l:List Loc}:Inv (c.of l) d k:=⟨I.Rh,I.Ro,I.Rz,I.Ra,I.Rn,I.Rv,I.RI,I.RK,I.RE,I.RJ,I.R8,I.RC,I.RH,I.RG,I.R4,I.xn,I.wn⟩
theorem nn1{α:Type}{o:Option α}{x:α}(h:o=some x):o≠none:=λq=>nomatch h.symm.trans q
theorem WdV.live{U:St}{c:Kc}{d:Dt}{wi wk wl wx:Loc}(W:WdV U c d wi wk wl wx):∀y∈[wi,wk,wl,wx],U.get y≠none:=λy hy=>by
 rcases alC hy with rfl|hy
 ·exact nn1 W.i
 rcases alC hy with rfl|hy
 ·exact nn1 W.ky
 rcases alC hy with rfl|hy
 ·exact nn1 W.fl
 exact alK hy▸nn1 W.ex
theorem BkV.of{U:St}{c:Kc}{d:Dt}{xl:Loc}(B:BkV U c d xl){l:List Loc}(h:xl∉l)(hl:∀y∈l,U.get y≠none):BkV U (c.of l) d xl:=⟨B.b0,B.b1,B.b2,B.b3,B.bx,B.kx,B.x,B.r,En h,λy hy=>⟨(CG hy).1,hl y (CG hy).2⟩⟩
theorem WdV.of{U:St}{c:Kc}{d:Dt}{wi wk wl wx:Loc}(W:WdV U c d wi wk wl wx){l:List Loc}(h:∀y∈[wi,wk,wl,wx],y∉l)(hl:∀y∈l,U.get y≠none):WdV U (c.of l) d wi wk wl wx:=⟨W.w0,W.i,W.ky,W.fl,W.ex,W.ks,W.x,W.k,W.dx,λy hy=>En (h y hy),λy hy=>⟨(CG hy).1,hl y (CG hy).2⟩⟩
theorem BkV.un{U:St}{c:Kc}{d:Dt}{xl:Loc}{l:List Loc}(B:BkV U (c.of l) d xl)(h:∀l,c.fw l=false):BkV U c d xl:=⟨B.b0,B.b1,B.b2,B.b3,B.bx,B.kx,B.x,B.r,h _,λy hy=>nomatch (h y).symm.trans hy⟩
theorem Tn.open{U:St}{c:Kc}{sc:List Int}{d:Dt}{k:Nat}(T:Tn U c sc d k):∃xl wi wk wl wx,BkV U c d xl/\WdV U (c.of [xl]) d wi wk wl wx:=by
 refine qX T.V λxl wi wk wl wx B W h=> ?_
 exact⟨xl,wi,wk,wl,wx,B,W.of (λy hy e=>h (alK e▸hy)) λy hy=>alK hy▸nn1 B.bx⟩
theorem WdV.RT{U:St}{c:Kc}{d d':Dt}{wi wk wl wx xl:Loc}(W:WdV U (c.of [xl]) d' wi wk wl wx)(B:BkV U c d xl):BkV U (c.of [wi,wk,wl,wx]) d xl:=
 B.of (λhx=>G5 (W.fz _ hx) (λJ=>Oi B.kx.1 (W.ks _ hx).1) (.head _)) W.live
theorem BkV.out{U:St}{c:Kc}{d:Dt}{xl wi wk wl wx:Loc}(B:BkV U (c.of [wi,wk,wl,wx]) d xl)(hs:∀l∈[wi,wk,wl,wx],sw l.k=true):xl∉[wi,wk,wl,wx]:=G5 B.fz λhx=>Oi B.kx.1 (hs _ hx)
theorem WdV.un{U:St}{c:Kc}{d:Dt}{wi wk wl wx:Loc}{l:List Loc}(W:WdV U (c.of l) d wi wk wl wx)(h:∀l,c.fw l=false):WdV U c d wi wk wl wx:=⟨W.w0,W.i,W.ky,W.fl,W.ex,W.ks,W.x,W.k,W.dx,λy J=>h y,λy hy=>nomatch (h y).symm.trans hy⟩
theorem Fr.own{T:Nat->Bool}{U D:St}(x:Fr T U D){l:Loc}{o o':zU}(h0:U.get l=none)(h:D.get l=some o):Fr T U (D.Q6 l o'):=
 ⟨x.kd,x.next,λm p hm e=>(zH λq=>nomatch h0.symm.trans ((alQ U.get q.symm).trans e)).trans (x.get m p hm e),x.Q3.Q6 h⟩
structure At(U:St)(l:Loc)(D:St)(o:zU):Prop where
 f:Fr tn U D
 z:U.get l=none
 g:D.get l=some o
 k:okd l.k=true
structure GY(l:Loc)(C:Nat)(Q:List (Nat×V)->St->Prop):Prop where
 at_:∀{fs D},Q fs D->D.get l=some (.Qz C fs)
 set:∀{fs fs' D},Q fs D->Q fs' (D.Q6 l (.Qz C fs'))
section
variable{U D D':St}{l:Loc}{o o' x:zU}
theorem At.start(G:y8 U):At U U.fr (U.new o) o:=⟨(Fr.refl G).new,G.d _ (Nat.le_refl _),zJ,G.o⟩
theorem At.new(A:At U l D o):At U l (D.new x) o:=⟨A.f.new,A.z,A.f.Q3.nk A.g,A.k⟩
theorem At.set(A:At U l D o):At U l (D.Q6 l o') o':=⟨A.f.own A.z A.g,A.z,zP,A.k⟩
theorem At.go(A:At U l D o)(F:Fr tn D D'):At U l D' o:=⟨A.f.trans F,A.z,F.get _ _ rfl A.g,A.k⟩
theorem At.base{Y:St}(A:At D l D' o)(F:Fr tn Y D):At Y l D' o:=⟨F.trans A.f,by
 cases e:Y.get l with
 |none=>rfl
 |some x=>exact(F.get l x rfl e).symm.trans A.z,A.g,A.k⟩
theorem At.Q9{C:Nat}:GY l C λfs D=>At U l D (.Qz C fs):=⟨At.g,At.set⟩
end
theorem Fr.QZ{U D:St}{x:Loc}{o o':zU}(F:Fr tn U D)(h:U.get x=some o):Fr tn (U.Q6 x o') (D.Q6 x o'):=⟨F.kd,F.next,λl p J e=>by
 by_cases q:l=x
 ·subst q;exact zP.trans (zP.symm.trans e)
 ·exact(zH q).trans (F.get l p rfl ((zH q).symm.trans e)),F.Q3.Q6 (F.get x o rfl h)⟩
theorem At.QZ{U D:St}{l x:Loc}{o p p':zU}(A:At U l D o)(h:U.get x=some p):At (U.Q6 x p') l (D.Q6 x p') o:=
 have ne:l≠x:=λq=>nomatch (q▸A.z).symm.trans h
 ⟨A.f.QZ h,(zH ne).trans A.z,(zH ne).trans A.g,A.k⟩
structure Pk(U D:St)(lp ld:Loc)(fs:List (Nat×V))(bs:List Nat):Prop where
 p:At U lp D (.Qz 112 fs)
 d:At U ld D (.QA bs)
 ne:ld≠lp
theorem Pk.Q9{U:St}{lp ld:Loc}{bs:List Nat}:GY lp 112 λfs D=>Pk U D lp ld fs bs:=
 ⟨λq=>q.p.g,λq=>⟨q.p.set,⟨q.p.set.f,q.d.z,(zH q.ne).trans q.d.g,q.d.k⟩,q.ne⟩⟩
theorem Pk.new{U D:St}{lp ld:Loc}{fs:List (Nat×V)}{bs:List Nat}{o:zU}(q:Pk U D lp ld fs bs):Pk U (D.new o) lp ld fs bs:=⟨q.p.new,q.d.new,q.ne⟩
structure Lv(U:St)(F:List (Loc×zU)):Prop where
 g:y8 U
 nd:(F.map (·.1)).Nodup
 at_:∀x∈F,U.get x.1=some x.2
 k:∀x∈F,okd x.1.k=true
theorem Lv.new{U:St}{F:List (Loc×zU)}{o:zU}(L:Lv U F):Lv (U.new o) ((U.fr,o)::F) where
 g:=L.g.new
 nd:=List.nodup_cons.mpr ⟨λh=>by
  obtain⟨x,hx,e⟩:=List.mem_map.mp h
  exact L.g.ne (L.at_ x hx) e,L.nd⟩
 at_ x hx:=(alC hx).elim (λe=>e▸zJ) λh=>L.g.nk (L.at_ x h)
 k x hx:=(alC hx).elim (λe=>e▸L.g.o) (L.k x)
theorem Lv.get{U:St}{F:List (Loc×zU)}(L:Lv U F)(i:Nat){l:Loc}{o:zU}(h:F[i]?=some (l,o)):U.get l=some o:=L.at_ _ (List.mem_of_getElem? h)
theorem Lv.ne{U:St}{F:List (Loc×zU)}(L:Lv U F)(i j:Nat){x y:Loc×zU}(hi:F[i]?=some x)(hj:F[j]?=some y)(h:Nat.beq i j=false):x.1≠y.1:=λe=>by
 have h1:(F.map (·.1))[i]?=some x.1:=by rw[List.getElem?_map,hi];rfl
 have h2:(F.map (·.1))[j]?=some y.1:=by rw[List.getElem?_map,hj];rfl
 have:=(List.getElem?_inj (List.getElem?_eq_some_iff.mp h1).1 L.nd).mp (h1.trans ((alQ some e).trans h2.symm))
 subst this
 rw[Nat.beq_refl] at h
 exact nomatch h
theorem rC{α:Type}:∀{l:List α} {i:Nat} {a:α},l[i]?=some a->l.set i a=l
 |[],_,_,h=>nomatch h
 |x::l,0,a,h=>alQ (· ::l) (alS h).symm
 |x::l,i+1,a,h=>alQ (x:: ·) (rC (l:=l) h)
theorem Lv.Q6{U:St}{F:List (Loc×zU)}(L:Lv U F)(i:Nat){l:Loc}{o o':zU}(h:F[i]?=some (l,o)):Lv (U.Q6 l o') (F.set i (l,o')) where
 g:=L.g.Q6 (L.get i h)
 nd:=by
  rw[List.map_set]
  have:(F.map (·.1))[i]?=some l:=by rw[List.getElem?_map,h];rfl
  rw[rC this];exact L.nd
 at_ x hx:=by
  refine xE (List.mem_iff_getElem?.mp hx) λj hj=> ?_
  by_cases e:i=j
  ·subst e
   rw[List.getElem?_set_self (List.getElem?_eq_some_iff.mp h).1] at hj
   rw[<-alS hj];exact zP
  ·rw[List.getElem?_set_ne e] at hj
   exact(zH (L.ne j i hj h (alO λq=>e (alP q).symm))).trans (L.at_ x (List.mem_of_getElem? hj))
 k x hx:=by
  refine xE (List.mem_iff_getElem?.mp hx) λj hj=> ?_
  by_cases e:i=j
  ·subst e
   rw[List.getElem?_set_self (List.getElem?_eq_some_iff.mp h).1] at hj
   rw[<-alS hj];exact L.k (l,o) (List.mem_of_getElem? h)
  ·rw[List.getElem?_set_ne e] at hj
   exact L.k x (List.mem_of_getElem? hj)
theorem Lv.perm{U:St}{F F':List (Loc×zU)}(L:Lv U F)(h:F.Perm F'):Lv U F':=⟨L.g,(h.map _).nodup_iff.mp L.nd,λx hx=>L.at_ x (h.mem_iff.mpr hx),λx hx=>L.k x (h.mem_iff.mpr hx)⟩
noncomputable def Mg:List Nat->Nat->Nat
 |[],n=>n
 |b::r,n=>Mg r (n*256+b)
noncomputable def ON(vs:List V)(U:St):Option (List Nat):=QQ vs λv=>pur (v.pick no some no no λl=>jV (U.get l) no no some) λbs=> @Bool.rec (λJ=>Option (List Nat)) none (some bs) (Nat.ble bs.length 16&&bs.all λb=>Nat.ble b 255)
noncomputable def Pn(U:St)(K:V->St->Prop)(bs:List Nat):Prop:=K (.int (Int.ofNat (Mg bs 0))) U
noncomputable def S21(vs:List V)(U:St)(K:V->St->Prop):Prop:=wR (ON vs U) (Pn U K)
inductive KP(vs:List V)(U:St)(K:V->St->Prop):Prop
 |mk (c:Kc) (p d:Nat) (st:Bool×Bool) (e:vs=[.c ⟨2,p⟩,.int (Int.ofNat d)]) (hd:d<2) (hr:U.get ⟨2,p⟩=some (.Qz 218 (yX c p st))) (h:K (yO (dK c (p,d))) U)
inductive H2(vs:List V)(U:St)(K:V->St->Prop):Prop
 |mk (c:Kc) (d:Dt) (k:Nat) (xl:Loc) (p:Nat) (e:vs=[.c ⟨1,0⟩,.c ⟨2,p⟩]) (hp:p<4) (hk:k<=400) (I:Inv c d k) (G:y8 U) (B:BkV U c d xl) (h:∀U' xl',BkV U' c (u4 p d) xl'->Fr tb U U'->K .none U')
inductive Kb(vs:List V)(U:St)(K:V->St->Prop):Prop
 |mk (c:Kc) (d:Dt) (k:Nat) (wi wk wl wx:Loc) (p:Nat) (e:vs=[.c ⟨3,0⟩,.c ⟨4,p⟩]) (hp:p<4) (hk:k<=400) (I:Inv c d k) (G:y8 U) (B:WdV U c d wi wk wl wx)
   (h:∀U' wi' wk' wl' wx',WdV U' c (u4 p d) wi' wk' wl' wx'->(∀l o,l≠⟨3,0⟩->l.k≠4->U.get l=some o->U'.get l=some o)->Fr tw U U'->K .none U')
inductive Jv(vs:List V)(U:St)(K:V->St->Prop):Prop
 |mk (α:Type) (l:Loc) (p:Nat) (pl:Int) (xs:List α) (f:α->V) (num:α->Nat) (e:vs=[.c l,jA p,.int pl]) (h1:U.get l=some (.list (xs.map f))) (hz:xs.length<1000) (h2:∀x∈xs,getItem (f x) (.int pl) U=some (jA (num x)))
   (h:K (.c U.fr) (U.new (.list ((xs.filter λx=>nb p (num x)).map f))))
noncomputable def jJ(c:Kc)(d:Dt)(key:V):Option Ref×Dt:=match d.keys.find? λr=>decide (jE c r=key) with
 |none=>(none,d)
 |some r=>if d.now<c.R2 r.1 then(some r,d) else(none,u4 r.1 d)
noncomputable def KJ:Option Ref->V
 |none=> .none
 |some r=> .Q1 [.c ⟨2,r.1⟩,.int (r.2:Int)]
noncomputable def KI:Option Ref->V
 |none=> .none
 |some r=> .Q1 [jA r.1,.int (r.2:Int)]
inductive Ia(vs:List V)(U:St)(K:V->St->Prop):Prop
 |mk (c:Kc) (d:Dt) (k:Nat) (xl:Loc) (z:Int) (t:V) (e:vs=[.c ⟨1,0⟩,.int z,t,.int d.now]) (hk:yZ (.Q1 [.int z,t])=true) (hk:k<=400) (I:Inv c d k) (G:y8 U) (B:BkV U c d xl)
   (h:∀U' xl',BkV U' c (jJ c d (.Q1 [.int z,t])).2 xl'->Fr tb U U'->K (KJ (jJ c d (.Q1 [.int z,t])).1) U')
 |miss (c:Kc) (keys:List Ref) (xl:Loc) (m:Int) (z now:Int) (t:V) (e:vs=[.c ⟨1,0⟩,.int z,t,.int now]) (hk:yZ (.Q1 [.int z,t])=true) (b0:U.get ⟨1,0⟩=some (.Qz 240 (qB xl m))) (b1:U.get ⟨1,1⟩=some (.dict (vV c keys))) (hn:∀r∈keys,jE c r≠ .Q1 [.int z,t]) (h:K .none U)
inductive KC(vs:List V)(U:St)(K:V->St->Prop):Prop
 |mk (c:Kc) (d:Dt) (k:Nat) (wi wk wl wx:Loc) (z t:Int) (e:vs=[.c ⟨3,0⟩,qS z t]) (hk:k<=400) (I:Inv c d k) (G:y8 U) (B:WdV U c d wi wk wl wx) (tl:U.get ⟨9,2⟩=some (.list [.c ⟨4,0⟩,.c ⟨4,1⟩,.c ⟨4,2⟩,.c ⟨4,3⟩]))
   (h:∀U' wi' wk' wl' wx',WdV U' c (jJ c d (qS z t)).2 wi' wk' wl' wx'->Fr tw U U'->K (KI (jJ c d (qS z t)).1) U')
noncomputable abbrev sP(c:Kc)(now:Int)(l:List Nat):List Nat:=l.filter λp=>decide (c.R2 p<=now)
noncomputable abbrev Rf(l:List Nat)(d:Dt):Dt:=l.foldl (λd p=>u4 p d) d
inductive MN(vs:List V)(U:St)(K:V->St->Prop):Prop
 |mk (c:Kc) (d:Dt) (k:Nat) (xl:Loc) (e:vs=[.c ⟨1,0⟩,.int d.now]) (hk:k<=400) (I:Inv c d k) (G:y8 U) (B:BkV U c d xl)
   (h:∀U' xl',BkV U' c (Rf (sP c d.now d.QI) d) xl'->Fr tb U U'->K (.int (0+((sP c d.now d.QI).length:Int))) U')
inductive lU(vs:List V)(U:St)(K:V->St->Prop):Prop
 |mk (b:Loc) (x:Int) (n:Nat) (e:vs=[.c b,.int (Int.ofNat n)]) (hn:(Nat.blt 0 n&&Nat.blt n 1000)=true) (hb:U.get b=some (.list [.int x])) (h:∀p y,p<n->K (.int (Int.ofNat p)) (U.Q6 b (.list [.int y])))
inductive aT(sh:Loc->Nat->List V)(vs:List V)(U:St)(K:V->St->Prop):Prop
 |mk (c:Kc) (sc:List Int) (d:Dt) (k:Nat) (b:Loc) (x:Int) (p:Nat) (U0:St) (e:vs=sh b p) (hp:p<4) (hk:k<400) (T:Tn U0 c sc d k) (F:Fr tn U0 U) (h0:U0.get b=none) (hb:U.get b=some (.list [.int x])) (h:∀U' d',Tn U' c sc d' (k+1)->K (.bool true) U')
noncomputable def Ir(b:Loc)(_:Nat):List V:=[.c ⟨1,0⟩,.c ⟨9,1⟩,.c ⟨3,0⟩,.c b]
noncomputable def IB(b:Loc)(_:Nat):List V:=[.c ⟨1,0⟩,.c ⟨3,0⟩,.c b]
noncomputable def Iy(b:Loc)(p:Nat):List V:=[.c ⟨1,0⟩,.c ⟨2,p⟩,.c ⟨3,0⟩,.c ⟨4,p⟩,.c b]
noncomputable def Iz(b:Loc)(p:Nat):List V:=[.c ⟨1,0⟩,.c ⟨2,p⟩,.c ⟨3,0⟩,.c b]
inductive MU(vs:List V)(U:St)(K:V->St->Prop):Prop
 |mk (c:Kc) (sc:List Int) (d:Dt) (k:Nat) (x:Int) (e:vs=[.c ⟨1,0⟩,.c ⟨9,1⟩,.c ⟨3,0⟩,.int x]) (hk:k<400) (T:Tn U c sc d k) (h:∀U' d',Tn U' c sc d' (k+1)->K (.bool true) U')
noncomputable abbrev wQ(pk:V)(now:Int)(tk st rp:V)(r:List (Nat×V)):List (Nat×V):=(28,pk)::(29,.int now)::(54,.str 70)::(30,tk)::(31,st)::(32,rp)::(21,.c ⟨1,0⟩)::r
noncomputable def bS(c:Kc)(keys:List Ref)(r:Ref):List Ref:=keys.filter (λs=>decide (jE c s≠jE c r))++[r]
noncomputable def NG(c:Kc)(p:Nat)(d:Dt):Dt:=⟨d.now,d.last,λq=> @Bool.rec (λJ=>Bool×Bool) (d.st q) (true,(d.st q).2) (Nat.beq q p),d.QI++[p],bS c (bS c d.keys (p,0)) (p,1),d.bf,d.wf,d.xs⟩
noncomputable def rQ(b:Bool):V:= @Bool.rec (λJ=>V) .none (.Q1 [.str 42,.str 37]) b
noncomputable def uR(c:Kc)(d:Dt)(p:Nat):Bool×Dt:= @Bool.rec (λJ=>Bool×Dt)
 (@Option.rec Ref (λJ=>Bool×Dt) (@Option.rec Ref (λJ=>Bool×Dt) (false,NG c p (jJ c (jJ c d (jE c (p,0))).2 (jE c (p,1))).2) (λJ=>(true,(jJ c (jJ c d (jE c (p,0))).2 (jE c (p,1))).2)) (jJ c (jJ c d (jE c (p,0))).2 (jE c (p,1))).1) (λJ=>(true,(jJ c d (jE c (p,0))).2)) (jJ c d (jE c (p,0))).1)
 (false,d) (d.st p).1
inductive Nw(vs:List V)(U:St)(K:V->St->Prop):Prop
 |mk (c:Kc) (d:Dt) (k:Nat) (xl l:Loc) (p:Nat) (pk st rp:V) (r:List (Nat×V)) (e:vs=[.c l]) (hl:U.get l=some (.Qz 738 (wQ pk d.now (.c ⟨2,p⟩) st rp r))) (kl:okd l.k=true) (hp:p<4) (hk:k<400) (I:Inv c d k) (G:y8 U) (B:BkV U c d xl)
   (h:∀U' xl',BkV U' c (uR c d p).2 xl'->Fr tb U U'->K (rQ (uR c d p).1) U')
inductive M2(vs:List V)(U:St)(K:V->St->Prop):Prop
 |mk (c:Kc) (d:Dt) (k:Nat) (wi wk wl wx:Loc) (p:Nat) (e:vs=[.c ⟨3,0⟩,.c ⟨4,p⟩]) (hp:p<4) (hk:k<400) (I:Inv c d k) (G:y8 U) (B:WdV U c d wi wk wl wx) (sc:List Int) (S:StV U c sc)
   (h:∀U' wi' wk' wl' wx',WdV U' c (uR c d p).2 wi' wk' wl' wx'->Fr tw U U'->K (rQ (uR c d p).1) U')
noncomputable abbrev v4B(n p t:Nat)(r:List Nat):List Nat:=69::0::0::n::0::1::0::p::64::t::0::0::10::0::0::1::10::0::0::4::r
noncomputable abbrev v6B(b:Nat):List Nat:=[96,0,0,0,0,8,58,64,254,254,254,254,254,254,254,254,254,254,254,254,254,254,254,254,253,253,253,253,253,253,253,253,253,253,253,253,253,253,253,253,b,0,0,0,0,0,0,0]
noncomputable def nD(b:Nat):Bool:=Nat.ble b 136||Nat.beq b 143
noncomputable def stB(b:Bool):Int:= @Bool.rec (λJ=>Int) 1 64 b
inductive sK:List V->V->St->Prop
 |Rp (m:Int) (D:St):sK [.int 0,.int m] (.Q1 [.bytes (v4B 28 9 17 [0,7,0,9,0,8,0,0]),.int 2048,.int 1]) D
 |short (m:Int) (D:St):sK [.int 1,.int m] (.Q1 [.bytes (v4B 22 0 17 [0,7]),.int 2048,.int 1]) D
 |v6 (b m:Nat) (h:130<=b) (h':b<152) (D:St):sK [.int 2,.int (Int.ofNat m)] (.Q1 [.bytes (v6B b),.int 34525,.int (stB (nD b))]) D
 |QE (b m:Nat) (h:b∈[9,10,0,12,3,30]) (D:St):sK [.int 3,.int (Int.ofNat m)] (.Q1 [.bytes (v4B 28 0 1 [b,0,0,0,0,0,0,0]),.int 2048,.int 1]) D
noncomputable def AB(vs:List V):Prop:=∃w m:Nat,w<4/\m<24/\vs=[.int (Int.ofNat w),.int (Int.ofNat m)]
inductive S95(vs:List V)(U:St)(K:V->St->Prop):Prop
 |mk (e:vs=[]) (h:∀md,K (.c U.fr) (U.new (.dict md)))
inductive PK:Int->List Nat->Int->Int->Int->Prop
 |Rp:PK 2048 (v4B 28 9 17 [0,7,0,9,0,8,0,0]) 17 (-1) 72
 |short:PK 2048 (v4B 22 0 17 [0,7]) 17 20 0
 |QE (b:Nat):PK 2048 (v4B 28 0 1 [b,0,0,0,0,0,0,0]) 1 20 0
 |v6 (b:Nat):PK 34525 (v6B b) 58 40 0
noncomputable abbrev pkX(ld:Loc)(x y:V)(kind l4 off pl:Int):List (Nat×V):=[(15,.c ld),(68,x),(14,.int kind),(11,.int l4),(12,.int off),(13,.int pl),(69,y)]
inductive S28(vs:List V)(U:St)(K:V->St->Prop):Prop
 |mk (l:Loc) (bs:List Nat) (l4 off pl:Int) (e:vs=[.c l]) (hp:PK 2048 bs l4 off pl) (G:y8 U) (hl:U.get l=some (.QA bs)) (h:∀o,K (.Q1 [.int l4,.int 20,.int pl,.bool false]) (U.new o))
 |nil (l:Loc) (e:vs=[.c l]) (hl:U.get l=some (.QA [])) (h:K .none U)
inductive S56(vs:List V)(U:St)(K:V->St->Prop):Prop
 |mk (l:Loc) (b:Nat) (e:vs=[.c l]) (hl:U.get l=some (.QA (v6B b))) (h:K (.Q1 [.int 58,.int 40,.int 0,.bool false]) U)
inductive MH(vs:List V)(U:St)(K:V->St->Prop):Prop
 |mk (bs:List Nat) (kind:Int) (e:vs=[.bytes bs,.int kind,.bytes []]) (hz:bs.length<1000) (G:y8 U) (h:∀D lp ld x y,Pk U D lp ld (pkX ld x y kind (-1) (-1) 0) bs->K (.c lp) D)
inductive LW(vs:List V)(U:St)(K:V->St->Prop):Prop
 |mk (U0:St) (lp ld:Loc) (x y:V) (kind:Int) (bs:List Nat) (l4 off pl:Int) (e:vs=[.c lp]) (hp:PK kind bs l4 off pl) (q:Pk U0 U lp ld (pkX ld x y kind (-1) (-1) 0) bs) (h:∀D,Pk U0 D lp ld (pkX ld x y kind l4 off pl) bs->K .none D)
inductive KD(vs:List V)(U:St)(K:V->St->Prop):Prop
 |mk (kind:Int) (bs:List Nat) (l4 off pl:Int) (r:List V) (e:vs= .bytes bs::r) (er:(r=[]/\kind=2048)\/r=[.int kind]) (hp:PK kind bs l4 off pl) (G:y8 U) (h:∀D lp ld x y,Pk U D lp ld (pkX ld x y kind l4 off pl) bs->K (.c lp) D)
inductive KH(vs:List V)(U:St)(K:V->St->Prop):Prop
 |mk (pk w:V) (now:Int) (e:vs=[pk,w,.int now]) (G:y8 U) (h:∀D l r,Nat.blt (r.length+7) 900=true->At U l D (.Qz 738 ((28,pk)::(29,.int now)::(54,.str 70)::(30,.none)::(31,.int 1)::(32,.int 0)::(21,.none)::r))->K (.c l) D)
inductive K5(vs:List V)(U:St)(K:V->St->Prop):Prop
 |mk (p:Nat) (now:Int) (e:vs=[.c ⟨1,0⟩,.c ⟨2,p⟩,.int now]) (G:y8 U) (h:∀D l pk r,Nat.blt (r.length+7) 900=true->At U l D (.Qz 738 (wQ pk now (.c ⟨2,p⟩) (.int 1) (.int 0) r))->K (.c l) D)
inductive PX:Int->List Nat->Int->Int->Int->Int->Prop
 |Rp:PX 2048 (v4B 28 9 17 [0,7,0,9,0,8,0,0]) 17 (-1) 72 1
 |short:PX 2048 (v4B 22 0 17 [0,7]) 17 20 0 1
 |QE (b:Nat) (h:b∈[9,10,0,12,3,30]):PX 2048 (v4B 28 0 1 [b,0,0,0,0,0,0,0]) 1 20 0 1
 |v6 (b:Nat) (h:130<=b) (h':b<152):PX 34525 (v6B b) 58 40 0 (stB (nD b))
noncomputable abbrev aM(fam pro s d:Int)(b:Nat):V:= .Q1 [.int fam,.int pro,.int s,.int 0,.int d,.int ((b:Int)*256+0)]
inductive Ew(vs:List V)(U:St)(K:V->St->Prop):Prop
 |RL (b:Nat) (e:vs=[.int 2,.int b]) (h:b∈[9,10,12,3,30]) (hK:K (.int (-1)) U)
 |zero (e:vs=[.int 2,.int 0]) (hK:K (.int 8) U)
 |RM (b:Nat) (e:vs=[.int 10,.int b]) (h:130<=b) (hK:K (.int (-1)) U)
inductive Ci(vs:List V)(U:St)(K:V->St->Prop):Prop
 |mk (lp ld:Loc) (x y:V) (kind l4 off pl fam:Int) (e:vs=[.c lp]) (hl:U.get lp=some (.Qz 112 (pkX ld x y kind l4 off pl))) (hf:(kind=2048/\fam=2)\/(kind=34525/\fam=10)) (hK:K (.int fam) U)
inductive H7(vs:List V)(U:St)(K:V->St->Prop):Prop
 |short (ld:Loc) (e:vs=[.c ld,.int 2,.int 17,.int 20]) (hd:U.get ld=some (.QA (v4B 22 0 17 [0,7]))) (hK:K .none U)
 |QE (ld:Loc) (b:Nat) (e:vs=[.c ld,.int 2,.int 1,.int 20]) (hb:b∈[9,10,0,12,3,30]) (G:y8 U) (hd:U.get ld=some (.QA (v4B 28 0 1 [b,0,0,0,0,0,0,0]))) (hK:∀D,Fr tn U D->K (.Q1 [.int 0,.int ((b:Int)*256+0)]) D)
 |v6 (ld:Loc) (b:Nat) (e:vs=[.c ld,.int 10,.int 58,.int 40]) (hb:130<=b) (hd:U.get ld=some (.QA (v6B b))) (hK:K (.Q1 [.int 0,.int ((b:Int)*256+0)]) U)
inductive K0(vs:List V)(U:St)(K:V->St->Prop):Prop
 |short (ld:Loc) (e:vs=[.c ld,.int 2,.int 17,.int 20]) (hd:U.get ld=some (.QA (v4B 22 0 17 [0,7]))) (hK:K .none U)
 |QE (ld:Loc) (b:Nat) (e:vs=[.c ld,.int 2,.int 1,.int 20]) (hb:b∈[9,10,0,12,3,30]) (G:y8 U) (hd:U.get ld=some (.QA (v4B 28 0 1 [b,0,0,0,0,0,0,0]))) (hK:∀D s d,Fr tn U D->K (aM 2 1 s d b) D)
 |v6 (ld:Loc) (b:Nat) (e:vs=[.c ld,.int 10,.int 58,.int 40]) (hb:130<=b) (G:y8 U) (hd:U.get ld=some (.QA (v6B b))) (hK:∀D s d,Fr tn U D->K (aM 10 58 s d b) D)
inductive GX(vs:List V)(U:St)(K:V->St->Prop):Prop
 |Rp (lp ld:Loc) (x y:V) (e:vs=[.c lp]) (hl:U.get lp=some (.Qz 112 (pkX ld x y 2048 17 (-1) 72))) (h:K .none U)
 |short (lp ld:Loc) (x y:V) (e:vs=[.c lp]) (hl:U.get lp=some (.Qz 112 (pkX ld x y 2048 17 20 0))) (hd:U.get ld=some (.QA (v4B 22 0 17 [0,7]))) (h:K .none U)
 |QE (lp ld:Loc) (x y:V) (b:Nat) (e:vs=[.c lp]) (hb:b∈[9,10,0,12,3,30]) (G:y8 U) (hl:U.get lp=some (.Qz 112 (pkX ld x y 2048 1 20 0))) (hd:U.get ld=some (.QA (v4B 28 0 1 [b,0,0,0,0,0,0,0]))) (h:∀D s d,Fr tn U D->K (aM 2 1 s d b) D)
 |v6 (lp ld:Loc) (x y:V) (b:Nat) (e:vs=[.c lp]) (hb:130<=b) (G:y8 U) (hl:U.get lp=some (.Qz 112 (pkX ld x y 34525 58 40 0))) (hd:U.get ld=some (.QA (v6B b))) (h:∀D s d,Fr tn U D->K (aM 10 58 s d b) D)
inductive HA(vs:List V)(U:St)(K:V->St->Prop):Prop
 |mk (U0:St) (l:Loc) (pk tk st rp tk' st' rp':V) (now:Int) (r:List (Nat×V)) (e:vs=[.c l,tk',st',rp']) (hr:Nat.blt (r.length+7) 900=true) (A:At U0 l U (.Qz 738 (wQ pk now tk st rp r))) (h:∀D,At U0 l D (.Qz 738 (wQ pk now tk' st' rp' r))->K .none D)
inductive KQ(vs:List V)(U:St)(K:V->St->Prop):Prop
 |mk (n a b z:V) (e:vs=[n,a,b,z]) (G:y8 U) (h:∀D l,At U l D (.Qz 218 [(20,n),(17,a),(16,b),(18,z),(26,.int 0),(27,.int 0),(2,.int 0),(25,.int 0),(31,.int 0),(50,.none),(24,.int 0)])->K (.c l) D)
inductive KM(vs:List V)(U:St)(K:V->St->Prop):Prop
 |mk (x:Ex) (e:vs=[jA x.p,t5V x.t,.int x.z,.int x.u]) (G:y8 U) (h:∀D l,At U l D (.Qz 420 (eS x))->K (.c l) D)
inductive HP(vs:List V)(U:St)(K:V->St->Prop):Prop
 |RL (b:Nat) (s d:Int) (e:vs=[aM 2 1 s d b]) (h:b∈[9,10,12,3,30]) (hK:K .none U)
 |zero (s d:Int) (e:vs=[aM 2 1 s d 0]) (hK:∀v,K (.Q1 v) U)
 |RM (b:Nat) (s d:Int) (e:vs=[aM 10 58 s d b]) (h:130<=b) (hK:K .none U)
inductive Mm(vs:List V)(U:St)(K:V->St->Prop):Prop
 |mk (l:Loc) (e:vs=[.c l,.int 2]) (hl:U.get l=some (.QA [])) (hK:K .none U)
inductive LJ(vs:List V)(U:St)(K:V->St->Prop):Prop
 |mk (lp ld:Loc) (x y z:V) (b:Nat) (now:Int) (e:vs=[.c ⟨1,0⟩,.c lp,z,.int now]) (G:y8 U) (hl:U.get lp=some (.Qz 112 (pkX ld x y 2048 1 20 0))) (hd:U.get ld=some (.QA (v4B 28 0 1 [b,0,0,0,0,0,0,0]))) (hK:∀D,Fr tn U D->K .none D)
noncomputable def GZ(b:Nat):Bool:=Nat.beq b 12||Nat.beq b 3
inductive H8(vs:List V)(U:St)(K:V->St->Prop):Prop
 |QE (lp ld:Loc) (x y:V) (b:Nat) (e:vs=[.c lp]) (hb:b∈[9,10,0,12,3,30]) (hl:U.get lp=some (.Qz 112 (pkX ld x y 2048 1 20 0))) (hd:U.get ld=some (.QA (v4B 28 0 1 [b,0,0,0,0,0,0,0]))) (hK:K (.bool (GZ b)) U)
 |v6 (lp ld:Loc) (x y:V) (b:Nat) (e:vs=[.c lp]) (hb:130<=b) (hl:U.get lp=some (.Qz 112 (pkX ld x y 34525 58 40 0))) (hd:U.get ld=some (.QA (v6B b))) (hK:K (.bool false) U)
inductive JL(vs:List V)(U:St)(K:V->St->Prop):Prop
 |err (U0:St) (l lp ld:Loc) (x y tk st rp:V) (b:Nat) (now z:Int) (r:List (Nat×V)) (e:vs=[.c ⟨1,0⟩,.c l,.int z]) (hr:Nat.blt (r.length+7) 900=true) (hb:b∈[9,10,0,12,3,30]) (he:GZ b=true) (A:At U0 l U (.Qz 738 (wQ (.c lp) now tk st rp r))) (hl:U.get lp=some (.Qz 112 (pkX ld x y 2048 1 20 0))) (hd:U.get ld=some (.QA (v4B 28 0 1 [b,0,0,0,0,0,0,0])))
   (h:∀D,At U0 l D (.Qz 738 (wQ (.c lp) now .none (.int 1) (.int 0) r))->K (.bool true) D)
 |RL (l lp ld:Loc) (x y tk st rp:V) (b:Nat) (now z:Int) (r:List (Nat×V)) (e:vs=[.c ⟨1,0⟩,.c l,.int z]) (hb:b∈[9,10,0,12,3,30]) (he:GZ b=false) (hs:U.get l=some (.Qz 738 (wQ (.c lp) now tk st rp r))) (hl:U.get lp=some (.Qz 112 (pkX ld x y 2048 1 20 0))) (hd:U.get ld=some (.QA (v4B 28 0 1 [b,0,0,0,0,0,0,0]))) (h:K (.bool false) U)
 |RM (l lp ld:Loc) (x y tk st rp:V) (b:Nat) (now z:Int) (r:List (Nat×V)) (e:vs=[.c ⟨1,0⟩,.c l,.int z]) (hb:130<=b) (hs:U.get l=some (.Qz 738 (wQ (.c lp) now tk st rp r))) (hl:U.get lp=some (.Qz 112 (pkX ld x y 34525 58 40 0))) (hd:U.get ld=some (.QA (v6B b))) (h:K (.bool false) U)
inductive Ni(vs:List V)(U:St)(K:V->St->Prop):Prop
 |mk (U0:St) (l lp ld:Loc) (x y tk st rp:V) (b:Nat) (now z:Int) (r:List (Nat×V)) (e:vs=[.c ⟨1,0⟩,.c l,.int z]) (hr:Nat.blt (r.length+7) 900=true) (hb:130<=b) (hb':b<152) (A:At U0 l U (.Qz 738 (wQ (.c lp) now tk st rp r))) (hl:U.get lp=some (.Qz 112 (pkX ld x y 34525 58 40 0))) (hd:U.get ld=some (.QA (v6B b)))
   (h1:nD b=true->∀D,At U0 l D (.Qz 738 (wQ (.c lp) now .none (.int 64) (.int 0) r))->K (.bool true) D) (h2:nD b=false->K (.bool false) U)
inductive KK(vs:List V)(U:St)(K:V->St->Prop):Prop
 |mk (c:Kc) (sc:List Int) (m pro:Int) (xl:Loc) (i:Nat) (e:vs=[.c ⟨1,0⟩,.int pro]) (hp:(pro=1/\i=5)\/(pro=58/\i=6)) (b0:U.get ⟨1,0⟩=some (.Qz 240 (qB xl m))) (S:StV U c sc) (hK:K (.c ⟨9,i⟩) U)
inductive Lg(vs:List V)(U:St)(K:V->St->Prop):Prop
 |mk (c:Kc) (keys:List Ref) (xl l:Loc) (m now z fam pro s d:Int) (b:Nat) (pk tk st rp:V) (r:List (Nat×V)) (e:vs=[.c l,.int z,aM fam pro s d b]) (hp:pro≠17) (hs:U.get l=some (.Qz 738 (wQ pk now tk st rp r))) (b0:U.get ⟨1,0⟩=some (.Qz 240 (qB xl m))) (b1:U.get ⟨1,1⟩=some (.dict (vV c keys))) (hK:K (.bool false) U)
inductive Np(vs:List V)(U:St)(K:V->St->Prop):Prop
 |mk (U0:St) (lt:Loc) (m bb z u pk:V) (s d now:Int) (e:vs=[.c ⟨1,0⟩,.c lt,pk,.int now]) (A:At U0 lt U (.Qz 218 [(20,m),(17,aM 2 1 s d 0),(16,bb),(18,z),(26,.int 0),(27,u),(2,.int 0),(25,.int 0),(31,.int 0),(50,.none),(24,.int 0)])) (h:∀D,Fr tn U0 D->K (.bool false) D)
inductive TO:V->Prop
 |RL (b:Nat) (s d:Int) (h:b∈[9,10,12,3,30]):TO (aM 2 1 s d b)
 |zero (s d:Int):TO (aM 2 1 s d 0)
 |RM (b:Nat) (s d:Int) (h:130<=b):TO (aM 10 58 s d b)
inductive SNo(vs:List V)(U:St)(K:V->St->Prop):Prop
 |mk (c:Kc) (sc:List Int) (d:Dt) (k:Nat) (U0:St) (l tr:Loc) (pk tk st rp e3 o:V) (z:Int) (r:List (Nat×V)) (e:vs=[.c l,.c tr,.int z,o]) (ho:TO o) (hr:Nat.blt (r.length+7) 900=true) (ht:U0.get tr=some (.dict [(.str 33,.obj 340),(.str 34,.obj 347),(.str 35,e3)])) (T:Tn U0 c sc d k) (A:At U0 l U (.Qz 738 (wQ pk d.now tk st rp r)))
   (h:∀U1 d' D,Tn U1 c sc d' k->At U1 l D (.Qz 738 (wQ pk d.now .none (.int 1) (.int 0) r))->K .none D)
inductive Os(vs:List V)(U:St)(K:V->St->Prop):Prop
 |mk (c:Kc) (sc:List Int) (d:Dt) (k:Nat) (U0:St) (l lp ld:Loc) (x y:V) (kind:Int) (bs:List Nat) (l4 off pl sI st z:Int) (p:Nat) (r:List (Nat×V)) (e:vs=[.c l,.int z]) (hr:Nat.blt (r.length+7) 900=true) (T:Tn U0 c sc d k) (A:At U0 l U (.Qz 738 (wQ (.c lp) d.now (.c ⟨2,p⟩) (.int st) (.int 1) r)))
   (hp:PX kind bs l4 off pl sI) (hl:U.get lp=some (.Qz 112 (pkX ld x y kind l4 off pl))) (hd:U.get ld=some (.QA bs)) (hn:lp≠l/\ld≠l) (hst:st=4\/st=64)
   (h:∀D d' tk' st' rp',(st=64/\tk'= .c ⟨2,p⟩/\st'=64/\rp'=1)\/(st=4/\tk'= .none/\st'=sI/\rp'=0)->D.get l=some (.Qz 738 (wQ (.c lp) d.now tk' (.int st') (.int rp') r))->Tn D c sc d' k->K .none D)
noncomputable def f0(p:Nat)(t:T5)(z:Int)(x:Ex):Bool:=decide (jA x.p=jA p)&&(decide (V.int x.z= .int z)&&decide (t5V x.t=t5V t))
noncomputable def tU(p:Nat)(now:Int)(xs:List (Loc×Loc×Ex)):Nat:=(xs.filter λq=>decide (jA q.2.2.p=jA p)&&decide (now<q.2.2.u)).length
noncomputable def o8(d:Dt)(p:Nat)(ms:Int):Bool:=((d.st p).1||(d.st p).2)||decide (ms<=(tU p d.now d.xs:Int))
noncomputable abbrev aW(c:Kc)(p w:Nat)(fv pr po:Int):T5:=(fv,pr,167772161+Int.fmod (dK c (p,1-w)) 3,167772164+Int.fdiv (dK c (p,1-w)) 3,po)
noncomputable abbrev O8:V:= .Q1 [.str 36,.str 37]
noncomputable abbrev Ch(pr po lf ms fm:Int):V:= .Q1 [.int pr,.int po,.int lf,.int ms,.int fm]
inductive FM:Int->Int->Prop
 |zero:FM 0 2
 |RB:FM 2 2
 |RX:FM 10 10
noncomputable abbrev Ex.Rw(x:Ex)(u:Int):Ex:=⟨x.p,x.t,x.z,u⟩
inductive Ob(vs:List V)(U:St)(K:V->St->Prop):Prop
 |mk (c:Kc) (d:Dt) (k:Nat) (xl l:Loc) (pk st:V) (r:List (Nat×V)) (p w:Nat) (pr po lf ms fm fv:Int) (e:vs=[.c l,Ch pr po lf ms fm]) (hf:FM fm fv) (hp:p<4) (hw:w<2) (hk:k<=400) (I:Inv c d k) (G:y8 U) (B:BkV U c d xl) (hs:U.get l=some (.Qz 738 (wQ pk d.now (.c ⟨2,p⟩) st (.int (Int.ofNat w)) r)))
   (hb:o8 d p ms=true->K O8 U)
   (hh:o8 d p ms=false->∀A q B,d.xs=A++q::B->(∀y∈A,f0 p (aW c p w fv pr po) (c.QF p) y.2.2=false)->f0 p (aW c p w fv pr po) (c.QF p) q.2.2=true->K .none (U.Q6 q.1 (.Qz 420 (eS (q.2.2.Rw (d.now+lf))))))
   (hn:o8 d p ms=false->(∀y∈d.xs,f0 p (aW c p w fv pr po) (c.QF p) y.2.2=false)->∀D l1,At U l1 D (.Qz 420 (eS ⟨p,aW c p w fv pr po,c.QF p,d.now+lf⟩))->K .none (D.Q6 xl (.list ((d.xs.map λq=> .c q.1)++[.c l1]))))
inductive Ib(vs:List V)(U:St)(K:V->St->Prop):Prop
 |mk (c:Kc) (sc:List Int) (d:Dt) (k:Nat) (wi wk wl wx:Loc) (p w:Nat) (pr po lf ms fm fv:Int) (e:vs=[.c ⟨3,0⟩,.c ⟨4,p⟩,.int (Int.ofNat w),Ch pr po lf ms fm]) (hf:FM fm fv) (hp:p<4) (hw:w<2) (hk:k<=400) (I:Inv c d k) (G:y8 U) (W:WdV U c d wi wk wl wx) (S:StV U c sc)
   (hb:o8 d p ms=true->∀D,Fr tn U D->K O8 D)
   (hh:o8 d p ms=false->∀A q B,d.xs=A++q::B->(∀y∈A,f0 p (aW c p w fv pr po) (c.QF p) y.2.2=false)->f0 p (aW c p w fv pr po) (c.QF p) q.2.2=true->∀D,Fr tn U D->K .none (D.Q6 q.2.1 (.list (aU (q.2.2.Rw (d.now+lf))))))
   (hn:o8 d p ms=false->(∀y∈d.xs,f0 p (aW c p w fv pr po) (c.QF p) y.2.2=false)->∀D l2,At U l2 D (.list (aU ⟨p,aW c p w fv pr po,c.QF p,d.now+lf⟩))->K .none (D.Q6 wx (.list ((d.xs.map λq=> .c q.2.1)++[.c l2]))))
inductive Ms(vs:List V)(U:St)(K:V->St->Prop):Prop
 |mk (c:Kc) (sc:List Int) (d:Dt) (k:Nat) (e:vs=[.c ⟨1,0⟩,.c ⟨9,1⟩,.c ⟨3,0⟩]) (T:Tn U c sc d k) (h:∀D,Fr tn U D->K (.bool true) D)
inductive NV(vs:List V)(U:St)(K:V->St->Prop):Prop
 |mk (F:List (Loc×zU)) (e:vs=[.int 9,.int 0]) (L:Lv U F) (h:∀D b0 b1 b2 b3 bx y,Lv D ((b0,.Qz 240 [(41,.int 9),(51,.int 0),(52,.int 128),(19,.c b1),(21,.c b2),(43,.int 0),(39,.c y),(23,.c bx),(22,.c b3),(53,.bool true)])::(b3,.dict [])::(bx,.list [])::(y,.dict [])::(b2,.dict [])::(b1,.dict [])::F)->K (.c b0) D)
noncomputable abbrev trk(a b:Nat):zU:= .dict [(.str 33,.obj a),(.str 34,.obj b)]
noncomputable abbrev lW(a b c:Nat):zU:= .dict [(.str 33,.obj a),(.str 34,.obj b),(.str 35,.obj c)]
inductive Ml(vs:List V)(U:St)(K:V->St->Prop):Prop
 |mk (F:List (Loc×zU)) (e:vs=[]) (L:Lv U F) (h:∀D t0 t4 t5 t6 t7 t8 o1 o2 o3 o4,Lv D ((o4,.dict [(.int (-1),.c t8)])::(t8,trk 326 354)::(o3,.dict [(.int 6,.c t7)])::(t7,trk 606 627)::(o2,.dict [(.int 1,.c t5),(.int 58,.c t6)])::(t6,lW 340 347 382)::(t5,lW 340 347 375)::(o1,.dict [(.int 17,.c t4)])::(t4,trk 326 333)::(t0,.dict [(.int 17,.c t4),(.int 1,.c t5),(.int 58,.c t6),(.int 6,.c t7),(.int (-1),.c t8)])::F)->K (.c t0) D)
inductive M5(vs:List V)(U:St)(K:V->St->Prop):Prop
 |mk (F:List (Loc×zU)) (e:vs=[.int 9]) (L:Lv U F) (h:∀D b0 b1 b2 b3 bx y t0 t4 t5 t6 t7 t8 o1 o2 o3 o4,Lv D ((o4,.dict [(.int (-1),.c t8)])::(t8,trk 326 354)::(o3,.dict [(.int 6,.c t7)])::(t7,trk 606 627)::(o2,.dict [(.int 1,.c t5),(.int 58,.c t6)])::(t6,lW 340 347 382)::(t5,lW 340 347 375)::(o1,.dict [(.int 17,.c t4)])::(t4,trk 326 333)::(t0,.dict [(.int 17,.c t4),(.int 1,.c t5),(.int 58,.c t6),(.int 6,.c t7),(.int (-1),.c t8)])::
   (b0,.Qz 240 [(41,.int 9),(51,.int 0),(52,.int 128),(19,.c b1),(21,.c b2),(43,.int 0),(39,.c t0),(23,.c bx),(22,.c b3),(53,.bool true)])::(b3,.dict [])::(bx,.list [])::(y,.dict [])::(b2,.dict [])::(b1,.dict [])::F)->K (.c b0) D)
structure Tk where
 z:Nat
 a:Nat
 b:Nat
 u:Int
noncomputable abbrev tkD(p:Nat)(t:Tk)(e:Loc):zU:= .dict [(.str 20,.int (Int.ofNat p+1)),(.str 18,.int (Int.ofNat t.z)),(.str 46,.c e),(.str 26,.int t.u),(.str 25,.int 0)]
noncomputable abbrev tkE(t:Tk):zU:= .list [yO (Int.ofNat t.a),yO (Int.ofNat t.b)]
noncomputable abbrev tkL(p:Nat)(t:Tk)(k e g:Loc)(y:Int)(F:List (Loc×zU)):List (Loc×zU):=(k,tkD p t e)::(e,tkE t)::(g,.list [.int y])::F
inductive KG(vs:List V)(U:St)(K:V->St->Prop):Prop
 |mk (F:List (Loc×zU)) (q:Loc) (i:Nat) (n0 n1 n2 n3:Int) (e:vs=[.c q]) (hq:F[i]?=some (q,.list [.int n0,.int n1,.int n2,.int n3])) (L:Lv U F)
   (h:∀D w0 wi wk wl wx tl s0 s1 s2 s3 k0 e0 g0 y0 k1 e1 g1 y1 k2 e2 g2 y2 k3 e3 g3 y3,Lv D ((w0,.dict [(.str 29,.int 1000),(.str 21,.c tl),(.str 47,.c wi),(.str 48,.c wk),(.str 22,.c wl),(.str 23,.c wx)])::(wx,.list [])::(wl,.list [])::(wk,.list [])::(wi,.list [])::tkL 3 s3 k3 e3 g3 y3 (tkL 2 s2 k2 e2 g2 y2 (tkL 1 s1 k1 e1 g1 y1 (tkL 0 s0 k0 e0 g0 y0 ((tl,.list [.c k0,.c k1,.c k2,.c k3])::F)))))->K (.c w0) D)
noncomputable def OO:List (Nat×(Nat×(List V->St->Cp V))):=[(21,(0,S21)),(307,(0,KP)),(312,(1,H2)),(319,(2,Ia)),(770,(0,Jv)),(775,(1,Kb)),(782,(2,KC)),(663,(2,MN)),(799,(0,CS AB sK)),(95,(0,S95)),(28,(1,S28)),(56,(3,S56)),(112,(1,MH)),(123,(4,LW)),(131,(5,KD)),(738,(0,KH)),(806,(6,K5)),(265,(0,Ew)),(138,(0,Ci)),(272,(1,H7)),(279,(2,K0)),(286,(4,GX)),(677,(0,HA)),(218,(0,KQ)),(420,(0,KM)),(300,(2,HP)),(293,(2,Mm)),(361,(3,LJ)),(368,(2,H8)),(375,(4,JL)),(382,(5,Ni)),(641,(0,KK)),(684,(3,Lg)),(340,(0,Np)),(698,(4,SNo)),(705,(5,SNo)),(431,(1,Ob)),(792,(0,Ib)),(713,(8,Os)),(751,(0,lU)),(720,(3,Nw)),(787,(3,M2)),(820,(3,aT Ir)),(832,(3,aT IB)),(827,(7,aT Iy)),(813,(9,aT Iz)),(842,(0,Ms)),(240,(0,NV)),(648,(1,Ml)),(656,(2,M5)),(765,(1,KG)),(837,(10,MU))]
noncomputable def P:Ce:=⟨⟨0,1⟩,OU,JZ,inL OO⟩
end
section
open PySem (Operator CmpOp BoolOp)
theorem cP{α:Type}{l:List α}{f:α->V×V}{k:V}(hk:yZ k=true)(h:∀x∈l,jR (f x).1=jR k):yD (l.map f) k=true:=by
 unfold yD
 rw[hk,Bool.true_and,List.all_map]
 exact List.all_eq_true.mpr λx hx=>beq_iff_eq.mpr (h x hx)
theorem qQ{c:Kc}{keys:List Ref}{l:List V}(hk:yZ (.Q1 l)=true):yD (vV c keys) (.Q1 l)=true:=cP hk λJ J=>rfl
theorem qP{QI:List Nat}{i:Int}:yD (eR QI) (.int i)=true:=cP rfl λJ J=>rfl
theorem o0{fl:List (V×Ref)}(h:∀x∈fl,∃z t,x.1=qS z t){l:List V}(hk:yZ (.Q1 l)=true):yD (flE fl) (.Q1 l)=true:=cP hk λx hx=>by
 refine xEE (h x hx) λz t e=> ?_
 show jR x.1=_
 rw[e];rfl
theorem bq(a b:V):V.beq a b=true↔a=b:=V.QM a b
theorem C8{c:Kc}{keys:List Ref}{k:V}:yY ((yA (vV c keys) k).getD .none)=true:=by
 cases h:yA (vV c keys) k with
 |none=>rfl
 |some v=>
  refine xEA (fS h) λa he J=> ?_
  refine xEA (List.mem_map.mp he) λs hs e=> ?_
  exact(Prod.mk.inj e).2▸rfl
theorem Cm{o:Option V}{l:List V}(h:o.getD .none= .Q1 l):o=some (.Q1 l):=by
 cases o with
 |none=>exact nomatch h
 |some v=>exact alQ some h
theorem qU{p q:Nat}(h:jA p=jA q):p=q:=by have h:(p:Int)+1=(q:Int)+1:=V.int.inj h;omega
theorem C2{r s:Ref}(h:u7 r=u7 s):r=s:=by
 have h:=V.Q1.inj h
 injection h with h1 h2
 injection h2 with h2
 exact Prod.ext (qU h1) (Int.ofNat.inj (V.int.inj h2))
theorem mN{α:Type}{l:List α}{x:α}(h:x∉l)[DecidableEq α]:l.filter (λs=>decide (s≠x))=l:=yR λy hy=>alG λq=>h (q▸hy)
theorem n4{c:Kc}{keys:List Ref}(hn:(keys.map (jE c)).Nodup)(r:Ref):
  (yA (vV c keys) (jE c r)=some (u7 r)->Hc (vV c keys) (jE c r)=vV c (keys.filter λs=>decide (s≠r)))/\(yA (vV c keys) (jE c r)≠some (u7 r)->vV c keys=vV c (keys.filter λs=>decide (s≠r))):=by
 by_cases hr:r∈keys
 ·refine yW (uV hn hr) λA B e_2 hA hB=> ?_
  subst e_2
  have e:=vZ (q:=V.beq) bq (f:=jE c) (g:=u7) (x:=r) (A:=A) (B:=B) hA
  refine⟨λJ=> ?_,λh=>absurd e h⟩
  rw[eL (q:=λs=>decide (s≠r)) (decide_eq_false λq=>q rfl) (λy hy=>alG λq=>hA y hy (q▸rfl)) λy hy=>alG λq=>hB y hy (q▸rfl)]
  exact bH bq hA
 ·rw[mN hr]
  refine⟨λh=> ?_,λJ=>rfl⟩
  refine xEA (fS h) λa he J=> ?_
  refine xEA (List.mem_map.mp he) λs hs e=> ?_
  exact absurd (C2 (Prod.mk.inj e).2▸hs) hr
theorem lt2:∀{w:Nat},w<2->w=0\/w=1
 |0,_=> .inl rfl
 |1,_=> .inr rfl
 |w+2,h=>absurd h (Nat.not_lt.mpr (Nat.le_add_left 2 w))
theorem C3{keys:List Ref}{p:Nat}(h:∀r∈keys,r.1<4/\r.2<2):(keys.filter λs=>decide (s≠(p,0))).filter (λs=>decide (s≠(p,1)))=keys.filter λr=>nb p r.1:=by
 rw[List.filter_filter]
 refine List.filter_congr λr hr=> ?_
 obtain⟨a,w⟩:=r
 have hw:w<2:=(h _ hr).2
 rw[Bool.eq_iff_iff,Bool.and_eq_true,decide_eq_true_eq,decide_eq_true_eq]
 refine⟨λq=>Fw λe=> ?_,λq=>⟨λe=>Gv q (Prod.mk.inj e).1,λe=>Gv q (Prod.mk.inj e).1⟩⟩
 have e:a=p:=e
 subst e
 rcases lt2 hw with rfl|rfl
 ·exact q.2 rfl
 ·exact q.1 rfl
noncomputable abbrev oU:List IS:=[(.Q0 (.v 3) (.Q1 [(.Qy (.v 1) 18),(.call (.l (.obj 307)) [(.v 1),(.v 2)])])),(.QC (.Q4 (.Rs (.Qy (.v 0) 19) 1 [(.v 3)]) [.Eq] [(.Q1 [(.Qy (.v 1) 20),(.v 2)])]) [(.RW (.Qy (.v 0) 19) (.v 3))] [])]
noncomputable abbrev pL:List IS:=[(.QC (.Q4 (.sub (.sub (.Qy (.v 0) 22) (.v 3)) (.l (.int 0))) [.Eq] [(.Qy (.v 1) 20)]) [(.RW (.Qy (.v 0) 22) (.v 3))] [])]
noncomputable abbrev kC(p:Nat)(v2 v3:Option V):Env:=[some (.c ⟨1,0⟩),some (.c ⟨2,p⟩),v2,v3,none,none,none,none,none,none,none,none]
section
variable{U:St}{c:Kc}{p n:Nat}{q lm:Loc}{ln:Int}{st:Bool×Bool}
theorem HY{vs:List V}{K:V->St->Prop}(h:KP vs U K):z9 P.j (orc P n) LF vs U K:=by
 obtain⟨c,p,d,st,rfl,hd,hr,h⟩:=h
 rcases lt2 hd with rfl|rfl<;>exact zE (ga hr rfl) h
theorem dir{keys:List Ref}{d:Nat}(hd:d<2){v3:Option V}{K:KF}(hb:U.get ⟨1,0⟩=some (.Qz 240 (qB q ln)))(ht:U.get ⟨1,1⟩=some (.dict (vV c keys)))(hr:U.get ⟨2,p⟩=some (.Qz 218 (yX c p st)))(hn:(keys.map (jE c)).Nodup)(hz:keys.length<1000)
  (h:K .next (kC p (some (.int (Int.ofNat d))) (some (jE c (p,d)))) (U.Q6 ⟨1,1⟩ (.dict (vV c (keys.filter λs=>decide (s≠(p,d))))))):
  exs (ex P.j (orc P (n+1)) 63) oU (kC p (some (.int (Int.ofNat d))) v3) U K:=by
 have hz:(vV c keys).length<1000:=(alF _).symm▸hz
 refine zE (ga hr rfl) (KP.mk c p d st rfl hd hr (zE (ga hb rfl) (zE (moD ht) (zE (cmD ht (qQ rfl) rfl) (zE (ga hr rfl) (zE (eqP C8 rfl) (ask (λe=> ?_) λe=> ?_)))))))
 ·have e:=Cm (alH e)
  refine zE (ga hb rfl) (zE (deD ht (qQ rfl) e hz) ?_)
  exact(alQ (λl=>K .next _ (U.Q6 ⟨1,1⟩ (.dict l))) ((n4 hn (p,d)).1 e)).mpr h
 ·have e:=(n4 hn (p,d)).2 λq=>of_decide_eq_false e (alQ (λo:Option V=>o.getD .none) q)
  rw[<-e,bO ht] at h
  exact h
theorem PN{keys:List Ref}{K:KF}(hb:U.get ⟨1,0⟩=some (.Qz 240 (qB q ln)))(ht:U.get ⟨1,1⟩=some (.dict (vV c keys)))(hr:U.get ⟨2,p⟩=some (.Qz 218 (yX c p st)))(hn:(keys.map (jE c)).Nodup)(hp:∀r∈keys,r.1<4/\r.2<2)(hz:keys.length<1000)
  (h:K .next (kC p (some (.int 1)) (some (jE c (p,1)))) (U.Q6 ⟨1,1⟩ (.dict (vV c (keys.filter λr=>nb p r.1))))):
  aE (exs (ex P.j (orc P (n+1)) 63) oU) (jI U none) [2] false [.int 0,.int 1] (kC p none none) U K:=by
 refine zR rfl (dir (d:=0) (by decide) hb ht hr hn hz (zY rfl (zR rfl (dir (d:=1) (by decide) hb zP hr (jB hn) (alI (List.length_filter_le _ _) hz) (zY rfl ?_)))))
 rw[mH,C3 hp]
 exact h
theorem Pr{QI:List Nat}{K:KF}{Y:Env}(h0:kP Y 0=some (.c ⟨1,0⟩))(h1:kP Y 1=some (.c ⟨2,p⟩))(hb:U.get ⟨1,0⟩=some (.Qz 240 (qB q ln)))(ht:U.get ⟨1,2⟩=some (.dict (eR QI)))(hr:U.get ⟨2,p⟩=some (.Qz 218 (yX c p st)))(hn:QI.Nodup)(hz:QI.length<1000)
  (h:K .next Y (U.Q6 ⟨1,2⟩ (.dict (eR (QI.filter (nb p)))))):
  ex P.j (orc P (n+1)) 64 (.QC (.Q4 (.Qy (.v 1) 20) [.In] [(.Qy (.v 0) 21)]) [(.RW (.Qy (.v 0) 21) (.Qy (.v 1) 20))] []) Y U K:=by
 have hz:(eR QI).length<1000:=(alF _).symm▸hz
 refine zE h1 (zE (ga hr rfl) (zE h0 (zE (ga hb rfl) (zE (inD ht qP) (ask (λe=> ?_) λe=> ?_)))))
 ·refine xEA (List.any_eq_true.mp e) λx hx e=> ?_
  refine xEA (List.mem_map.mp hx) λp' hp' e_2=> ?_
  subst e_2
  have e:p'=p:=qU (alH e)
  subst e
  refine yW (uV (f:=jA) (hn.map jA λx y hne h=>hne (qU h)) hp') λA B e_2 hA hB=> ?_
  subst e_2
  refine zE h0 (zE (ga hb rfl) (zE h1 (zE (ga hr rfl) (zE (deD ht qP (vZ bq hA) hz) ?_))))
  rw[eL (KZ rfl) (λy hy=>Fw λq=>hA y hy (q▸rfl)) λy hy=>Fw λq=>hB y hy (q▸rfl)] at h
  exact(alQ (λl=>K .next Y (U.Q6 ⟨1,2⟩ (.dict l))) (bH bq hA)).mpr h
 ·rw[yR λy hy=>Fw λq=>List.any_eq_false.mp e _ (List.mem_map.mpr ⟨y,hy,rfl⟩) (alG (alQ jA q)),bO ht] at h
  exact h
theorem M8{K:KF}{rest:List (V×Ref)}:∀{done:List (V×Ref)} {v2 v3:Option V},U.get ⟨1,0⟩=some (.Qz 240 (qB q ln))->U.get ⟨2,p⟩=some (.Qz 218 (yX c p st))->
   ((done++rest).map (·.1)).Nodup->(∀x∈done++rest,∃z t,x.1=qS z t)->(done++rest).length<1000->lm≠⟨1,3⟩->
   (∀v3,K .next (kC p v2 v3) (U.Q6 ⟨1,3⟩ (.dict (flE ((done++rest).filter λx=>nb p x.2.1)))))->
   aE (exs (ex P.j (orc P (n+1)) 63) pL) (jI U (some lm)) [3] false (rest.map (·.1)) (kC p v2 v3) (U.Q6 ⟨1,3⟩ (.dict (flE (done.filter (λx=>nb p x.2.1)++rest)))) K:=by
 induction rest with
 |nil=>
  intro done v2 v3 hb hr hn hk hz hm h
  have h:=h v3
  rw[List.append_nil] at h ⊢
  exact h
 |cons x rest ih=>
  intro done v2 v3 hb hr hn hk hz hm h
  obtain⟨k,w⟩:=x
  have hA:∀y∈done.filter (λx=>nb p x.2.1),y.1≠k:=λy hy e=>by
   rw[List.map_append,List.nodup_append] at hn
   exact hn.2.2 _ (List.mem_map.mpr ⟨y,(alL hy).1,rfl⟩) _ (.head _) e
  have hd:Hc (flE (done.filter (λx=>nb p x.2.1)++(k,w)::rest)) k=flE (done.filter (λx=>nb p x.2.1)++rest):=bH (f:=λx:V×Ref=>x.1) (g:=λx=>u7 x.2) (x:=(k,w)) bq hA
  have hlen:(flE (done.filter (λx=>nb p x.2.1)++(k,w)::rest)).length<1000:=by
   rw[alF,List.length_append]
   exact alI (Nat.add_le_add_right (List.length_filter_le _ _) _) (List.length_append▸hz)
  have hal:yD (flE (done.filter (λx=>nb p x.2.1)++(k,w)::rest)) k=true:=by
   refine xEE (hk (k,w) (List.mem_append_right _ (.head _))) λz t e=> ?_
   have e:k=qS z t:=e
   subst e
   exact o0 (fl:=done.filter (λx=>nb p x.2.1)++(qS z t,w)::rest) (l:=[.int z,yO t]) (λx hx=>hk x ((List.mem_append.mp hx).elim (λh=>List.mem_append_left _ (alL h).1) (List.mem_append_right _))) (rfl:yZ (qS z t)=true)
  have e1:done++(k,w)::rest=(done++[(k,w)])++rest:=by rw[List.append_assoc];rfl
  refine zR rfl (zE (ga hb rfl) (zE (giD zP hal (vZ bq hA)) (zE (ga hr rfl) (ask (λe=> ?_) λe=> ?_))))
  ·have e:w.1=p:=qU (alH e)
   refine zE (ga hb rfl) (zE (deD zP hal (vZ bq hA) hlen) (zY (alG ((zH hm).trans (zH hm))) ?_))
   refine(alQ (λl=>aE _ _ _ _ _ _ ((U.Q6 _ _).Q6 _ (.dict l)) K) hd).mpr ?_
   rw[mH]
   have e2:(done++[(k,w)]).filter (λx=>nb p x.2.1)=done.filter (λx=>nb p x.2.1):=by rw[List.filter_append,List.filter_cons_of_neg (p:=λx:V×Ref=>nb p x.2.1) (a:=(k,w)) (by rw[KZ e];exact Bool.false_ne_true),List.filter_nil,List.append_nil]
   rw[<-e2]
   exact ih hb hr (e1▸hn) (e1▸hk) (e1▸hz) hm (e1▸h)
  ·have e:w.1≠p:=λq=>of_decide_eq_false e (q▸rfl)
   have e2:(done++[(k,w)]).filter (λx=>nb p x.2.1)++rest=done.filter (λx=>nb p x.2.1)++(k,w)::rest:=by rw[List.filter_append,List.filter_cons_of_pos (p:=λx:V×Ref=>nb p x.2.1) (a:=(k,w)) (Fw e),List.filter_nil,List.append_assoc];rfl
   rw[<-e2]
   exact zY (alG (zH hm)) (ih hb hr (e1▸hn) (e1▸hk) (e1▸hz) hm (e1▸h))
theorem Pv{a p:Nat}:(!decide (jA a=jA p))=nb p a:=by
 by_cases e:a=p
 ·rw[KZ e,alG (alQ jA e)];rfl
 ·rw[Fw e,decide_eq_false λq=>e (qU q)];rfl
theorem J8(s:Bool×Bool):PySem.Builtin.bitOr (stI s) 512=stI (s.1,true):=by obtain⟨a,b⟩:=s;cases a<;>cases b<;>rfl
noncomputable def t12(k:Nat):Bool:=Nat.beq k 1||Nat.beq k 2
theorem H5{k:Nat}(h:t12 k=true):tb k=true:=by
 unfold t12 at h;unfold tb
 cases e:Nat.beq k 1 with
 |true=>rfl
 |false=>rw[e] at h;rw[show Nat.beq k 2=true from h];rfl
theorem HE{c:Kc}{p:Nat}(s:Bool×Bool):zU.Qz 218 (tI (yX c p s) 25 (.int (PySem.Builtin.bitOr (stI s) 512)))= .Qz 218 (yX c p (s.1,true)):=
 alQ (λi=>zU.Qz 218 [(20,jA p),(17,yO (c.a p)),(16,yO (c.b p)),(18,.int (c.QF p)),(26,.int (c.R2 p)),(27,.int 0),(2,.int 0),(25,.int i),(31,.int 0),(50,.none),(24,.int 0)]) (J8 s)
end
section
variable{U:St}{n:Nat}
theorem tC{a p:Nat}{b:Bool}{K:Option V->St->Prop}{v:V}(e:(!decide (jA a=jA p))=b)(h:K (@Bool.rec (λJ=>Option V) none (some v) (nb p a)) U):K (@Bool.rec (λJ=>Option V) none (some v) b) U:=e▸Pv (a:=a) (p:=p)▸h
theorem GI{c:Kc}{p:Nat}{l:Loc}{x:Ex}{v2 v3:Option V}{st:Bool×Bool}{K:Option V->St->Prop}(h1:U.get l=some (.Qz 420 (eS x)))(h2:U.get ⟨2,p⟩=some (.Qz 218 (yX c p st)))(h:K (@Bool.rec (λJ=>Option V) none (some (.c l)) (nb p x.p)) U):
  yV (ev P.j (orc P (n+1)) 62) [4] false [.Q4 (.Qy (.v 4) 24) [.NotEq] [.Qy (.v 1) 20]] (.v 4) (kC p v2 v3) (.c l) U K:=
 zE (ga h1 rfl) (zE (ga h2 rfl) (ask (λe=>tC e h) λe=>tC e h))
theorem Kn{vs:List V}{K:V->St->Prop}(h:H2 vs U K):z9 P.j (orc P (n+1)) Le vs U K:=by
 obtain⟨c,d,k,xl,p,rfl,hp,hk,I,G,B,h⟩:=h
 have z1:d.keys.length<1000:=by have:=I.R8;omega
 have z2:d.QI.length<1000:=by have:=I.RC;omega
 have z3:d.bf.length<1000:=by have:=I.RH;omega
 have z4:d.xs.length<1000:=by have:=I.R4;omega
 refine z8 (Y:=kC p none none) rfl (zC (wK (λJ h=>h) (PN B.b0 B.b1 (B.r p hp) I.Rh I.Ro z1 (zI (zC (Pr rfl rfl B.b0 B.b2 (B.r p hp) I.Ra z2 (zI (zC (uO ?_)))))))))
 have F2:Fr t12 U ((U.Q6 ⟨1,1⟩ (.dict (vV c (d.keys.filter λr=>nb p r.1)))).Q6 ⟨1,2⟩ (.dict (eR (d.QI.filter (nb p))))):=((Fr.refl G).Q6 B.b1 rfl).Q6 (show St.get (U.Q6 ⟨1,1⟩ _) _=_ from B.b2) rfl
 generalize hσ2:(U.Q6 ⟨1,1⟩ (.dict (vV c (d.keys.filter λr=>nb p r.1)))).Q6 ⟨1,2⟩ (.dict (eR (d.QI.filter (nb p))))=U2 at F2
 have c0:U2.get ⟨1,0⟩=some (.Qz 240 (qB xl d.last)):=hσ2▸B.b0
 have c1:U2.get ⟨1,1⟩=some (.dict (vV c (d.keys.filter λr=>nb p r.1))):=hσ2▸rfl
 have c2:U2.get ⟨1,2⟩=some (.dict (eR (d.QI.filter (nb p)))):=hσ2▸rfl
 have c3:U2.get ⟨1,3⟩=some (.dict (flE d.bf)):=hσ2▸B.b3
 have cr:∀q,q<4->U2.get ⟨2,q⟩=some (.Qz 218 (yX c q (d.st q))):=hσ2▸B.r
 have cx:U2.get xl=some (.list (d.xs.map λq=> .c q.1)):=hσ2▸(zH B.kx.2.2.2.1).trans ((zH B.kx.2.2.1).trans B.bx)
 have hkeys:(flE d.bf).map (·.1)=d.bf.map (·.1):=by rw[List.map_map];rfl
 refine zE (ga c0 rfl) (zE (keD c3 ((alF _).symm▸z3) hkeys) (q8 (itL zJ) ?_))
 have F3:=F2.new (o:= .list (d.bf.map (·.1)))
 have e3:(U2.new (.list (d.bf.map (·.1)))).Q6 ⟨1,3⟩ (.dict (flE (([]:List (V×Ref)).filter (λx=>nb p x.2.1)++d.bf)))=U2.new (.list (d.bf.map (·.1))):=bO (F2.Q3.nk c3)
 refine(alQ (λs=>aE (exs (ex P.j (orc P (n+1)) 63) pL) (jI (U2.new (.list (d.bf.map (·.1)))) (some U2.fr)) [3] false (d.bf.map (·.1)) (kC p (some (.int 1)) (some (jE c (p,1)))) s _) e3).mp (M8 (done:=[]) (U:=U2.new (.list (d.bf.map (·.1)))) (F2.Q3.nk c0) (F2.Q3.nk (cr p hp)) I.RI I.RE z3 (λe=>nomatch (F2.Q3.d _ (Nat.le_refl _)).symm.trans ((alQ U2.get e).trans c3)) λv3=>zI (zC ?_))
 have F5:=F3.Q6 (l:=⟨1,3⟩) (o':= .dict (flE ((([]:List (V×Ref))++d.bf).filter λx=>nb p x.2.1))) (F2.Q3.nk c3) rfl
 generalize hσ5:(U2.new (.list (d.bf.map (·.1)))).Q6 ⟨1,3⟩ (.dict (flE ((([]:List (V×Ref))++d.bf).filter λx=>nb p x.2.1)))=U5 at F5 ⊢
 have d0:U5.get ⟨1,0⟩=some (.Qz 240 (qB xl d.last)):=hσ5▸F2.Q3.nk c0
 have d1:U5.get ⟨1,1⟩=some (.dict (vV c (d.keys.filter λr=>nb p r.1))):=hσ5▸F2.Q3.nk c1
 have d2:U5.get ⟨1,2⟩=some (.dict (eR (d.QI.filter (nb p)))):=hσ5▸F2.Q3.nk c2
 have d3:U5.get ⟨1,3⟩=some (.dict (flE (d.bf.filter λx=>nb p x.2.1))):=hσ5▸rfl
 have dr:∀q,q<4->U5.get ⟨2,q⟩=some (.Qz 218 (yX c q (d.st q))):=hσ5▸λq hq=>F2.Q3.nk (cr q hq)
 have dx:U5.get xl=some (.list (d.xs.map λq=> .c q.1)):=hσ5▸(zH B.kx.2.2.2.2.1).trans ((vC (F2.Q3.ne cx)).trans cx)
 have k6:∀{q},q∈d.xs->t12 q.1.k=false:=λhq=>BA (P:=λk=>t12 k=false) rfl rfl (B.x _ hq).2
 have dX:∀q∈d.xs,U5.get q.1=some (.Qz 420 (eS q.2.2)):=λq hq=>F5.get _ _ (k6 hq) (B.x q hq).1
 refine zE (ga d0 rfl) (yC (wU rfl (itL dx) ((alF _).symm▸z4)) (dW (g:=λq:Loc×Loc×Ex=> .c q.1) (pd:=λq=>nb p q.2.2.p) (λq hq K' h'=>GI (dX q hq) (dr p hp) h') q9 ?_))
 refine zE (j2 ((alF _).symm▸alI (List.length_filter_le _ _) z4)) (zE (sa (C:=240) (fs:=qB xl d.last) (F5.Q3.nk d0) rfl) (zE (ga (x:=⟨2,p⟩) (fs:=yX c p (d.st p)) (F5.Q3.nk (dr p hp)) rfl) (zE (sa (x:=⟨2,p⟩) (C:=218) (fs:=yX c p (d.st p)) (F5.Q3.nk (dr p hp)) rfl) ?_)))
 have F7:=((F5.new (o:= .list ((d.xs.filter λq=>nb p q.2.2.p).map λq=> .c q.1))).Q6 (l:=⟨1,0⟩) (o':= .Qz 240 (qB U5.fr d.last)) (F5.Q3.nk d0) rfl).Q6 (l:=⟨2,p⟩) (o':= .Qz 218 (yX c p ((d.st p).1,true))) (F5.Q3.nk (dr p hp)) rfl
 have kf:=kxF (l:=U5.fr) F5.Q3.o
 have h7:=(λB=>h _ U5.fr B (F7.to λJ=>H5)) ⟨rfl,F5.Q3.nk d1,F5.Q3.nk d2,F5.Q3.nk d3,(zH λe=>kf.2.2.2.2.2 (alQ Loc.k e)).trans ((zH kf.2.1).trans zJ),kf,λq hq=>⟨F7.get _ _ (k6 (alL hq).1) (B.x q (alL hq).1).1,(B.x q (alL hq).1).2⟩,λq hq=> ?_,(B.fl.fr F5 rfl).new F5.Q3,B.fl.fr F7 rfl⟩
 ·rw[<-HE] at h7
  exact h7
 ·by_cases e:q=p
  ·subst e
   rw[zP]
   show _=some (zU.Qz 218 (yX c q (@Bool.rec (λJ=>Bool×Bool) _ _ (Nat.beq q q))))
   rw[Nat.beq_refl]
  ·rw[zH λq=>e (alQ Loc.i q)]
   show _=some (zU.Qz 218 (yX c q (@Bool.rec (λJ=>Bool×Bool) _ _ (Nat.beq q p))))
   rw[alO λh=>e (alP h)]
   exact F5.Q3.nk (dr q hq)
end
section
variable{U:St}{n:Nat}
theorem vH{c:Kc}{keys:List Ref}{key:V}:(∃r,keys.find? (λr=>decide (jE c r=key))=some r/\r∈keys/\jE c r=key)\/(keys.find? (λr=>decide (jE c r=key))=none/\∀r∈keys,jE c r≠key):=by
 cases h:keys.find? λr=>decide (jE c r=key) with
 |none=>exact .inr ⟨rfl,λr hr e=>List.find?_eq_none.mp h r hr (alG e)⟩
 |some r=>exact .inl ⟨r,rfl,List.mem_of_find?_eq_some h,alH (List.find?_some (p:=λr=>decide (jE c r=key)) h)⟩
theorem iL{c:Kc}{keys:List Ref}(hn:(keys.map (jE c)).Nodup){key:V}{o:Option Ref}(h:keys.find? (λr=>decide (jE c r=key))=o):yA (vV c keys) key=o.map u7:=by
 subst h
 rcases vH (c:=c) (keys:=keys) (key:=key) with⟨r,e,hr,rfl⟩|⟨e,h⟩
 ·rw[e]
  refine yW (uV hn hr) λA B e_2 hA hB=> ?_
  subst e_2
  exact vZ bq hA
 ·rw[e];exact mL bq h
theorem kB{QI:List Nat}(hn:QI.Nodup){p:Nat}(h:p∈QI):yA (eR QI) (jA p)=some (.c ⟨2,p⟩):=by
 refine yW (uV (f:=jA) (hn.map jA λx y hne h=>hne (qU h)) h) λA B e_2 hA hB=> ?_
 subst e_2
 exact vZ bq hA
theorem Iw{vs:List V}{K:V->St->Prop}(h:Ia vs U K):z9 P.j (orc P (n+2)) Oj vs U K:=by
 cases h with
 |miss c keys xl m z now t e hk b0 b1 hn h=>
  subst e
  exact zE (ga b0 rfl) (zE (moD b1) (zE (cmD b1 (qQ hk) (mL bq hn)) h))
 |mk c d k xl z t e hk hk4 I G B h=>
 subst e
 unfold jJ at h
 rcases vH (c:=c) (keys:=d.keys) (key:= .Q1 [.int z,t]) with⟨r,e,hr,he⟩|⟨e,_⟩
 ·rw[e] at h
  have hp:=(I.Ro r hr).1
  refine zE (ga B.b0 rfl) (zE (moD B.b1) (zE (cmD B.b1 (qQ hk) (iL I.Rh e)) (zE (ga B.b0 rfl) (zE (giD B.b2 qP (kB I.Ra (I.Rz r hr))) (zE (ga (B.r _ hp) rfl) (ask (λq=> ?_) λq=> ?_))))))
  ·have q:¬d.now<c.R2 r.1:=by have:=alH q;omega
   simp only[if_neg q] at h
   exact H2.mk c d k xl r.1 rfl hp hk4 I G B h
  ·have q:d.now<c.R2 r.1:=by have:=of_decide_eq_false q;omega
   simp only[if_pos q] at h
   exact h U xl B (Fr.refl G)
 ·rw[e] at h
  refine zE (ga B.b0 rfl) (zE (moD B.b1) (zE (cmD B.b1 (qQ hk) (iL I.Rh e)) ?_))
  exact h U xl B (Fr.refl G)
end
section
variable{U:St}{n m:Nat}
structure Ws(U U':St)(A:List V)(es:List (V×V)):Prop where
 o:∀l o,l≠⟨3,0⟩->U.get l=some o->U'.get l=some o
 a:U'.get U.fr=some (.list A)
 w:U'.get ⟨3,0⟩=some (.dict es)
 f:Fr tw U U'
theorem k0s{l:Loc}(h:okd l.k=true):sw l.k=true/\l≠⟨3,0⟩/\l.k≠4:=by
 obtain⟨k,i⟩:=l
 have h:k=0:=FZ h
 subst h
 exact⟨rfl,nofun,nofun⟩
theorem x4{l:Loc}(h:ex7 l.k=true):l≠⟨3,0⟩/\l.k≠4:=by
 obtain⟨k,i⟩:=l
 have h:ex7 k=true:=h
 exact Bk (P:=λk=>Loc.mk k i≠⟨3,0⟩/\k≠4) ⟨nofun,nofun⟩ ⟨nofun,nofun⟩ h
theorem FY{Φ:Orc}{A:List V}{es es':List (V×V)}{i j:Nat}{Y:Env}{K:KF}(hr:kP Y i=some (.c ⟨3,0⟩))(G:y8 U)(h0:U.get ⟨3,0⟩=some (.dict es))(ha:yD es (.str j)=true)(hz:Nat.blt es.length 1000=true)(he:uG es (.str j) (.c U.fr)=es')
  (h:∀U',Ws U U' A es'->K .next Y U'):E9 (Q0 P.j Φ (m+2) (.sub (.v i) (.l (.str j)))) Y K (.c U.fr) (U.new (.list A)):=by
 have h1:(U.new (.list A)).get ⟨3,0⟩=some (.dict es):=G.nk h0
 refine zE hr (zE (seD h1 ha (alE hz)) ?_)
 refine(alQ (λl=>Dd K Y ((U.new (.list A)).Q6 ⟨3,0⟩ (.dict l))) he).mpr (h _ ⟨λl o hl e=>(zH hl).trans ((vC (G.ne e)).trans e),(zH (k0s (l:=U.fr) G.o).2.1).trans zJ,zP,((Fr.refl G).new).Q6 h1 rfl⟩)
noncomputable abbrev Ez(l:Loc)(p:Nat)(pl:Int):Env:=[some (.c l),some (jA p),some (.int pl),none,none,none,none,none,none,none,none]
theorem GV{l:Loc}{p q:Nat}{pl:Int}{v:V}{K:Option V->St->Prop}(h1:getItem v (.int pl) U=some (jA q))(h:K (@Bool.rec (λJ=>Option V) none (some v) (nb p q)) U):
  yV (ev P.j (orc P n) 62) [3] false [.Q4 (.sub (.v 3) (.v 2)) [.NotEq] [.v 1]] (.v 3) (Ez l p pl) v U K:=
 zE h1 (ask (λe=>tC e h) λe=>tC e h)
theorem Hq{vs:List V}{K:V->St->Prop}(h:Jv vs U K):z9 P.j (orc P n) NX vs U K:=by
 obtain⟨α,l,p,pl,xs,f,num,rfl,h1,hz,h2,h⟩:=h
 exact z8 (Y:=Ez l p pl) rfl (zC (yC (wU rfl (itL h1) ((alF _).symm▸hz)) (dW (g:=f) (pd:=λx=>nb p (num x)) (λx hx K' h'=>GV (h2 x hx) h') q9 (zE (j2 ((alF _).symm▸alI (List.length_filter_le _ _) hz)) h))))
noncomputable abbrev Eh(p:Nat)(v2:Option V):Env:=[some (.c ⟨3,0⟩),some (.c ⟨4,p⟩),v2,none,none,none,none,none,none,none,none]
theorem Ge{p q:Nat}{K:Option V->St->Prop}(h:K (@Bool.rec (λJ=>Option V) none (some (jA q)) (nb p q)) U):
  yV (ev P.j (orc P n) 62) [3] false [.Q4 (.v 3) [.NotEq] [.v 2]] (.v 3) (Eh p (some (jA p))) (jA q) U K:=
 ask (λe=>tC e h) λe=>tC e h
theorem Kl(s:Bool×Bool):Int.fmod (stI s) 512+512=stI (s.1,true):=by obtain⟨a,b⟩:=s;cases a<;>cases b<;>rfl
theorem p4{U:St}{l:Loc}{p:Nat}{o:Option zU}{o':zU}(h:okd l.k=true)(e:U.get l=o):(U.Q6 ⟨4,p⟩ o').get l=o:=(zH λq=>(k0s h).2.2 (alQ Loc.k q)).trans e
theorem HB{c:Kc}{p:Nat}(s:Bool×Bool):uG (wH c p s) (.str 25) (.int (Int.fmod (stI s) 512+512))=wH c p (s.1,true):=
 alQ (λi=>([(.str 20,jA p),(.str 18,.int (c.QF p)),(.str 46,.c ⟨5,p⟩),(.str 26,.int (c.R2 p)),(.str 25,.int i)]:List (V×V))) (Kl s)
theorem Ko{vs:List V}{K:V->St->Prop}(h:Kb vs U K):z9 P.j (orc P (n+1)) LE vs U K:=by
 obtain⟨c,d,k,wi,wk,wl,wx,p,rfl,hp,hk,I,G,B,h⟩:=h
 have z1:d.keys.length<1000:=by have:=I.R8;omega
 have z2:d.QI.length<1000:=by have:=I.RC;omega
 have z3:d.wf.length<1000:=by have:=I.RG;omega
 have z4:d.xs.length<1000:=by have:=I.R4;omega
 refine z8 (Y:=Eh p none) rfl (zC (zE (giD (B.k p hp) rfl rfl) (zE (giD B.w0 rfl rfl) (yC (wU rfl (itL B.i) ((alF _).symm▸z2)) (dW (g:=jA) (pd:=nb p) (λq hq K' h'=>Ge h') q9 ?_)))))
 refine zE (j2 ((alF _).symm▸alI (List.length_filter_le _ _) z2)) (FY (es':=qJ d.now U.fr wk wl wx) rfl G B.w0 rfl rfl rfl λU1 W1=>zI (zC ?_))
 refine zE (giD W1.w rfl rfl) (Jv.mk _ _ _ _ d.keys _ (λr=>r.1) rfl (W1.o _ _ (B.ks wk (.tail _ (.head _))).2.1 B.ky) z1 (λx J=>rfl) (FY (es':=qJ d.now U.fr U1.fr wl wx) rfl W1.f.Q3 W1.w rfl rfl rfl λU2 W2=>zI (zC ?_)))
 have o2:=λl o e h=>W2.o l o e (W1.o l o e h)
 refine zE (giD W2.w rfl rfl) (Jv.mk _ _ _ _ d.wf _ (λr=>r.2.1) rfl (o2 _ _ (B.ks wl (.tail _ (.tail _ (.head _)))).2.1 B.fl) z3 (λx J=>rfl) (FY (es':=qJ d.now U.fr U1.fr U2.fr wx) rfl W2.f.Q3 W2.w rfl rfl rfl λU3 W3=>zI (zC ?_)))
 have o3:=λl o e h=>W3.o l o e (o2 l o e h)
 refine zE (giD W3.w rfl rfl) (Jv.mk _ _ _ _ d.xs _ (λq:Loc×Loc×Ex=>q.2.2.p) rfl (o3 _ _ (B.ks wx (.tail _ (.tail _ (.tail _ (.head _))))).2.1 B.ex) z4 (λx h=>giL (k:=0) (o3 _ _ (x4 (B.x x h).2).1 (B.x x h).1) (by decide) rfl) (FY (es':=qJ d.now U.fr U1.fr U2.fr U3.fr) rfl W3.f.Q3 W3.w rfl rfl rfl λU4 W4=>zI (zC ?_)))
 have o4:=λl o e h=>W4.o l o e (o3 l o e h)
 have hT:=o4 ⟨4,p⟩ _ nofun (B.k p hp)
 refine zE (giD hT rfl rfl) (zE (seD hT rfl (alE rfl)) ?_)
 have F5:=(((W1.f.trans W2.f).trans W3.f).trans W4.f).Q6 (l:=⟨4,p⟩) (o':= .dict (wH c p ((d.st p).1,true))) hT rfl
 have o5:∀l o,l≠⟨3,0⟩->l.k≠4->U.get l=some o->(U4.Q6 ⟨4,p⟩ (.dict (wH c p ((d.st p).1,true)))).get l=some o:=λl o e e4 h=>(zH λq=>e4 (alQ Loc.k q)).trans (o4 l o e h)
 have h5:=(λB=>h _ U.fr U1.fr U2.fr U3.fr B o5 F5) ⟨W4.w,p4 G.o ?_,p4 W1.f.Q3.o ?_,p4 W2.f.Q3.o ?_,p4 W3.f.Q3.o W4.a,?_,?_,?_,⟨(W3.f.Q3.ne (W3.o _ _ (k0s G.o).2.1 (W2.o _ _ (k0s G.o).2.1 W1.a))).symm,(W3.f.Q3.ne (W3.o _ _ (k0s W1.f.Q3.o).2.1 W2.a)).symm,(W3.f.Q3.ne W3.a).symm⟩,?_,B.lv.fr F5 rfl⟩
 ·exact(alQ (λl=>K .none (U4.Q6 ⟨4,p⟩ (.dict l))) (HB (c:=c) (p:=p) (d.st p))).mpr h5
 ·exact W4.o _ _ (k0s G.o).2.1 (W3.o _ _ (k0s G.o).2.1 (W2.o _ _ (k0s G.o).2.1 W1.a))
 ·exact W4.o _ _ (k0s W1.f.Q3.o).2.1 (W3.o _ _ (k0s W1.f.Q3.o).2.1 W2.a)
 ·exact W4.o _ _ (k0s W2.f.Q3.o).2.1 W3.a
 ·intro l hl
  rcases alC hl with rfl|hl
  ·exact k0s G.o
  rcases alC hl with rfl|hl
  ·exact k0s W1.f.Q3.o
  rcases alC hl with rfl|hl
  ·exact k0s W2.f.Q3.o
  exact alK hl▸k0s W3.f.Q3.o
 ·intro q hq
  have hq:=(alL hq).1
  exact⟨o5 _ _ (x4 (B.x q hq).2).1 (x4 (B.x q hq).2).2 (B.x q hq).1,(B.x q hq).2⟩
 ·intro q hq
  by_cases e:q=p
  ·subst e
   rw[zP]
   show _=some (zU.dict (wH c q (@Bool.rec (λJ=>Bool×Bool) _ _ (Nat.beq q q))))
   rw[Nat.beq_refl]
  ·rw[zH λq=>e (alQ Loc.i q)]
   show _=some (zU.dict (wH c q (@Bool.rec (λJ=>Bool×Bool) _ _ (Nat.beq q p))))
   rw[alO λh=>e (alP h)]
   exact o4 ⟨4,q⟩ _ nofun (B.k q hq)
 ·intro l hl
  have L1:=B.lv.fr W1.f rfl
  have L2:=L1.fr W2.f rfl
  have L3:=L2.fr W3.f rfl
  rcases alC hl with rfl|hl
  ·exact B.lv.new G
  rcases alC hl with rfl|hl
  ·exact L1.new W1.f.Q3
  rcases alC hl with rfl|hl
  ·exact L2.new W2.f.Q3
  exact alK hl▸L3.new W3.f.Q3
end
section
variable{U:St}{n:Nat}
theorem tW{P:Nat->Prop}(h0:P 0)(h1:P 1)(h2:P 2)(h3:P 3):∀{p:Nat},p<4->P p
 |0,_=>h0
 |1,_=>h1
 |2,_=>h2
 |3,_=>h3
 |p+4,h=>absurd h (Nat.not_lt.mpr (Nat.le_add_left 4 p))
theorem giN{x:Loc}{vs:List V}{k:Nat}{i:Int}{w:V}(h:U.get x=some (.list vs))(hk:k<1000)(hl:vs[k]?=some w)(e:i=Int.ofNat k):getItem (.c x) (.int i) U=some w:=e▸giL h hk hl
noncomputable abbrev rF:List IS:=[(.QC (.Q4 (.sub (.v 2) (.l (.int 0))) [.Eq] [(.v 1)]) [(.Q0 (.v 3) (.sub (.sub (.v 0) (.l (.str 21))) (.QB .Sub (.sub (.v 2) (.l (.int 1))) (.l (.int 1))))),(.QC (.Q4 (.sub (.v 3) (.l (.str 26))) [.Gt] [(.sub (.v 0) (.l (.str 29)))]) [(.ret (.Q1 [(.sub (.v 2) (.l (.int 1))),(.sub (.v 2) (.l (.int 2)))]))] []),(.expr (.call (.l (.obj 775)) [(.v 0),(.v 3)]))] [])]
noncomputable abbrev BU(k:V)(v2 v3:Option V):Env:=[some (.c ⟨3,0⟩),some k,v2,v3,none,none,none,none,none,none,none,none]
theorem f7{Φ:Orc}{c:Kc}{z t:Int}{U0:St}{lo:Option Loc}{v3:Option V}{K:KF}{R:List Ref}(hc:jI U0 lo U=true):∀{A:List Ref} {v2:Option V},(∀r∈A,jE c r≠qS z t)->(∀v2,aE (exs (ex P.j Φ 63) rF) (jI U0 lo) [2] false (R.map λr=>oF (jE c r) r) (BU (qS z t) v2 v3) U K)->
  aE (exs (ex P.j Φ 63) rF) (jI U0 lo) [2] false ((A++R).map λr=>oF (jE c r) r) (BU (qS z t) v2 v3) U K
 |[],_,_,h=>h _
 |a::A,_,hA,h=>zR rfl (rV (b:=decide (jE c a=qS z t)) (decide_eq_false (hA a (.head _))) (zY hc (f7 hc (A:=A) (λr hr=>hA r (.tail _ hr)) h)))
theorem JB{vs:List V}{K:V->St->Prop}(h:KC vs U K):z9 P.j (orc P (n+2)) MZ vs U K:=by
 obtain⟨c,d,k,wi,wk,wl,wx,z,t,rfl,hk,I,G,B,tl,h⟩:=h
 refine z8 (Y:=BU (qS z t) none none) rfl (zC (uO (zE (giD B.w0 rfl rfl) (q8 (itL B.ky) ?_))))
 unfold jJ at h
 rcases vH (c:=c) (keys:=d.keys) (key:=qS z t) with⟨r,e,hr,he⟩|⟨e,hn⟩
 ·rw[e] at h
  have hp:=(I.Ro r hr).1
  refine yW (uV I.Rh hr) λA R e2 hA hR=> ?_
  rw[e2]
  refine f7 q9 (λy hy=>he▸hA y hy) λv2=>zR rfl (lS (b:=decide (jE c r=qS z t)) (alG he) (zE (giD B.w0 rfl rfl) (zE (giN (k:=r.1) tl (Nat.lt_trans hp (by decide)) ?_ ?_) (zE (giD (B.k r.1 hp) rfl rfl) (zE (giD B.w0 rfl rfl) (ask (λq=> ?_) λq=> ?_))))))
  ·exact tW (P:=λp=>[V.c ⟨4,0⟩,.c ⟨4,1⟩,.c ⟨4,2⟩,.c ⟨4,3⟩][p]?=some (.c ⟨4,p⟩)) rfl rfl rfl rfl hp
  ·exact Int.add_sub_cancel _ 1
  ·simp only[if_pos (alH q)] at h
   exact h U wi wk wl wx B (Fr.refl G)
  ·simp only[if_neg (of_decide_eq_false q)] at h
   refine Kb.mk c d k wi wk wl wx r.1 rfl hp hk I G B λU' wi' wk' wl' wx' B' o' F'=> ?_
   have hc:jI U (some wk) U'=true:=alG ((o' wk _ (B.ks wk (.tail _ (.head _))).2.1 (B.ks wk (.tail _ (.head _))).2.2 B.ky).trans B.ky.symm)
   have:=f7 (A:=R) (R:=[]) (c:=c) (z:=z) (t:=t) (U:=U') (U0:=U) (lo:=some wk) (v2:=some (oF (jE c r) r)) (v3:=some (.c ⟨4,r.1⟩)) (Φ:=orc P (n+2)) (K:=sG (exs (ex P.j (orc P (n+2)) 64) [.ret (.l .none)]) (Be K)) hc (λy hy=>he▸hR y hy) λv2=> ?_
   ·rw[List.append_nil] at this
    exact lS hc this
   ·exact h U' wi' wk' wl' wx' B' F'
 ·rw[e] at h
  have:=f7 (A:=d.keys) (R:=[]) (c:=c) (z:=z) (t:=t) (U:=U) (U0:=U) (lo:=some wk) (v2:=none) (v3:=none) (Φ:=orc P (n+2)) (K:=sG (exs (ex P.j (orc P (n+2)) 64) [.ret (.l .none)]) (Be K)) q9 hn λv2=> ?_
  ·rw[List.append_nil] at this
   exact this
  ·exact h U wi wk wl wx B (Fr.refl G)
end
section
variable{U:St}{n:Nat}
theorem Pm{x:Loc}{u v:V}(h:U.get x=some (.list [u])):setItem (.c x) (.int 0) v U=some (U.Q6 x (.list [v])):=by
 show jV (U.get x) _ _ _=_
 rw[h];rfl
theorem JY{vs:List V}{K:V->St->Prop}(h:lU vs U K):z9 P.j (orc P n) O0 vs U K:=by
 obtain⟨b,x,m,rfl,hm,hb,h⟩:=h
 have hm:=alA hm
 have h0:0<m:=alE hm.1
 have h1:m<1000:=alE hm.2
 have z0:((m:Int))≠0:=by omega
 have hp:(Int.fmod x m).toNat<m/\Int.fmod x m=Int.ofNat (Int.fmod x m).toNat:=by
  have a:=Int.fmod_nonneg_of_pos x (b:=(m:Int)) (by omega)
  have b:=Int.fmod_lt_of_pos x (b:=(m:Int)) (by omega)
  exact⟨by omega,by simp only[Int.ofNat_eq_natCast];omega⟩
 have e1:tN .Mod (.int x) (.int (Int.ofNat m)) U=some (.int (Int.ofNat (Int.fmod x m).toNat),U):=(if_neg z0).trans (alQ (λi=>some (V.int i,U)) hp.2)
 have e2:tN .FloorDiv (.int x) (.int (Int.ofNat m)) U=some (.int (Int.fdiv x m),U):=(if_neg z0).trans (if_pos (show(m:Int).natAbs<2 ^ 29 from Nat.lt_of_lt_of_le h1 (by decide)))
 exact zE (giL (k:=0) hb (by decide) rfl) (zE e1 (zE (giL (k:=0) hb (by decide) rfl) (zE e2 (zE (Pm hb) (h _ _ hp.1)))))
end
section
variable{U:St}{n:Nat}
theorem pO{c:Kc}{d:Dt}{key:V}{k:Nat}(I:Inv c d k):jJ c d key=(none,d)\/(∃r,r.1<4/\jJ c d key=(some r,d))\/∃p,jJ c d key=(none,u4 p d):=by
 unfold jJ
 rcases vH (c:=c) (keys:=d.keys) (key:=key) with⟨r,e,hr,he⟩|⟨e,h⟩
 ·rw[e]
  by_cases q:d.now<c.R2 r.1
  ·exact .inr (.inl ⟨r,(I.Ro r hr).1,if_pos q⟩)
  ·exact .inr (.inr ⟨r.1,if_neg q⟩)
 ·rw[e];exact .inl rfl
theorem yF{c:Kc}{d:Dt}{key:V}{k:Nat}(I:Inv c d k):(jJ c d key).2.now=d.now/\Inv c (jJ c d key).2 k/\∀r,(jJ c d key).1=some r->r.1<4:=by
 rcases pO (key:=key) I with e|⟨r,hr,e⟩|⟨p,e⟩<;>rw[e]
 ·exact⟨rfl,I,nofun⟩
 ·exact⟨rfl,I,λs e=>alS e▸hr⟩
 ·exact⟨rfl,I.drop _,nofun⟩
theorem isL{x:Loc}{o:zU}(h:U.get x=some o):cG .Is (.c x) (.c x) U=some true:=by
 show(if((U.get x).isSome&&(U.get x).isSome)=true then some (decide (x=x)) else none)=some true
 rw[h];exact alQ some (alG rfl)
theorem iG{b:Bool}{K:V->St->Prop}(e:b=true)(h:K (.bool true) U):K (.bool b) U:=e▸h
theorem O5{p:Nat}:((p:Int)+1)-1=Int.ofNat p:=Int.add_sub_cancel _ 1
theorem ET{p:Nat}(hp:p<4):[V.c ⟨2,0⟩,.c ⟨2,1⟩,.c ⟨2,2⟩,.c ⟨2,3⟩][p]?=some (.c ⟨2,p⟩):=tW (P:=λp=>[V.c ⟨2,0⟩,.c ⟨2,1⟩,.c ⟨2,2⟩,.c ⟨2,3⟩][p]?=some (.c ⟨2,p⟩)) rfl rfl rfl rfl hp
theorem MT{p:Nat}(hp:p<4):[V.c ⟨4,0⟩,.c ⟨4,1⟩,.c ⟨4,2⟩,.c ⟨4,3⟩][p]?=some (.c ⟨4,p⟩):=tW (P:=λp=>[V.c ⟨4,0⟩,.c ⟨4,1⟩,.c ⟨4,2⟩,.c ⟨4,3⟩][p]?=some (.c ⟨4,p⟩)) rfl rfl rfl rfl hp
theorem iU{p:Nat}(h:p<4):p<1000:=Nat.lt_trans h (by decide)
theorem ID{vs:List V}{K:V->St->Prop}(h:aT Ir vs U K):z9 P.j (orc P (n+3)) Lr vs U K:=by
 obtain⟨c,sc,d,k,b,x,p,U0,rfl,hp,hk,T,F,h0,hb,h⟩:=h
 refine lU.mk b x 2 rfl rfl hb λz y hz=>lU.mk b y 6 rfl rfl zP λt y' ht=> ?_
 have F1:=(F.own (o':= .list [.int y]) h0 hb).own (o':= .list [.int y']) h0 zP
 generalize (U.Q6 b (.list [.int y])).Q6 b (.list [.int y'])=U1 at F1 ⊢
 have T1:=T.fr F1
 refine qI T1.open λxl wi wk wl wx B W=> ?_
 have L:=yF (key:=qS (Int.ofNat z) (Int.ofNat t)) T.I
 refine KC.mk (c.of [xl]) d k wi wk wl wx (Int.ofNat z) (Int.ofNat t) rfl T.hk T.I.of T1.G W T1.S.tl λU2 wi2 wk2 wl2 wx2 W2 F2=> ?_
 have W2:WdV U2 (c.of [xl]) (jJ c d (qS (Int.ofNat z) (Int.ofNat t))).2 wi2 wk2 wl2 wx2:=W2
 have w0:=W2.w0
 rw[L.1] at w0
 have e1:KI (jJ (c.of [xl]) d (qS (Int.ofNat z) (Int.ofNat t))).1=KI (jJ c d (qS (Int.ofNat z) (Int.ofNat t))).1:=rfl
 rw[e1]
 refine zE (giD w0 rfl rfl) (Ia.mk (c.of [wi2,wk2,wl2,wx2]) d k xl (Int.ofNat z) (yO (Int.ofNat t)) rfl rfl T.hk T.I.of F2.Q3 (W2.RT (B.fr (λJ=>lK) F2)) λU3 xl3 B3 F3=> ?_)
 have W3:=W2.fr (λJ=>hW) F3
 have S3:=(T1.S.fr rfl rfl F2).fr rfl rfl F3
 have B3:BkV U3 (c.of [wi2,wk2,wl2,wx2]) (jJ c d (qS (Int.ofNat z) (Int.ofNat t))).2 xl3:=B3
 have e:KJ (jJ (c.of [wi2,wk2,wl2,wx2]) d (.Q1 [.int (Int.ofNat z),yO (Int.ofNat t)])).1=KJ (jJ c d (qS (Int.ofNat z) (Int.ofNat t))).1:=rfl
 rw[e]
 generalize jJ c d (qS (Int.ofNat z) (Int.ofNat t))=q at L W3 B3 ⊢
 obtain⟨o,d2⟩:=q
 have h2:=h U3 d2 ⟨⟨xl3,wi2,wk2,wl2,wx2,B3.un T.fw,W3.un T.fw,B3.out λl hl=>(W3.ks l hl).1⟩,S3,F3.Q3,L.2.1.Ri,hk,T.fw⟩
 cases o with
 |none=>exact h2
 |some r=>
  have hr:=L.2.2 r rfl
  exact zE (giN (k:=r.1) S3.rl (iU hr) (ET hr) O5) (zE (isL (B3.r r.1 hr)) (iG (alG rfl) h2))
end
section
variable{n:Nat}
noncomputable abbrev DP:List IS:=[(.QC (.Q4 (.Qy (.sub (.Qy (.v 0) 21) (.v 3)) 26) [.LtE] [(.v 1)]) [(.expr (.call (.l (.obj 312)) [(.v 0),(.sub (.Qy (.v 0) 21) (.v 3))])),(.Q0 (.v 2) (.QB .Add (.v 2) (.l (.int 1))))] [])]
noncomputable abbrev xR(now m:Int)(v3:Option V):Env:=[some (.c ⟨1,0⟩),some (.int now),some (.int m),v3,none,none,none,none,none,none,none,none]
theorem mK{c:Kc}{now:Int}{k:Nat}{L:Loc}{X:List V}{σL:St}{K:KF}(hk:k<=400)(hX:σL.get L=some (.list X))(kL:okd L.k=true):∀{rest:List Nat} {U:St} {d:Dt} {xl:Loc} {m:Int} {v3:Option V},
  (∀p∈rest,p∈d.QI)->rest.Nodup->d.now=now->Inv c d k->y8 U->BkV U c d xl->U.get L=some (.list X)->
  (∀U' xl' v3,BkV U' c (Rf (sP c now rest) d) xl'->Fr tb U U'->K .next (xR now (m+((sP c now rest).length:Int)) v3) U')->
  aE (exs (ex P.j (orc P (n+2)) 63) DP) (jI σL (some L)) [3] false (rest.map jA) (xR now m v3) U K
 |[],U,d,xl,m,v3,_,_,_,_,G,B,_,h=>by
  have h:=h U xl v3 B (Fr.refl G)
  rw[show m+(((sP c now []).length:Nat):Int)=m from Int.add_zero m] at h
  exact h
 |p::r,U,d,xl,m,v3,hs,hn,hd,I,G,B,hL,h=>by
  have hc:∀{U':St},U'.get L=some (.list X)->jI σL (some L) U'=true:=λe=>alG (e.trans hX.symm)
  have hn:=List.nodup_cons.mp hn
  have hp:=hs p (.head _)
  have hp4:=I.Rn p hp
  refine zR rfl (zE (ga B.b0 rfl) (zE (giD B.b2 qP (kB I.Ra hp)) (zE (ga (B.r _ hp4) rfl) (ask (λq=> ?_) λq=> ?_))))
  ·have e:sP c now (p::r)=p::sP c now r:=List.filter_cons_of_pos (p:=λp=>decide (c.R2 p<=now)) q
   rw[e] at h
   refine zE (ga B.b0 rfl) (zE (giD B.b2 qP (kB I.Ra hp)) (H2.mk c d k xl p rfl hp4 hk I G B λU' xl' B' F'=> ?_))
   have hL':=F'.get L _ (BB kL) hL
   refine lS (hc hL') (mK (d:=u4 p d) hk hX kL (λq hq=>List.mem_filter.mpr ⟨hs q (.tail _ hq),Fw λe:q=p=>hn.1 (e▸hq)⟩) hn.2 hd (I.drop p) F'.Q3 B' hL' λU'' xl'' v3' B'' F''=> ?_)
   have h:=h U'' xl'' v3' B'' (F'.trans F'')
   rw[show m+(((p::sP c now r).length:Nat):Int)=m+1+((sP c now r).length:Int) by rw[List.length_cons,Int.natCast_succ,Int.add_assoc,Int.add_comm 1]] at h
   exact h
  ·have e:sP c now (p::r)=sP c now r:=List.filter_cons_of_neg (p:=λp=>decide (c.R2 p<=now)) (by rw[q];exact Bool.false_ne_true)
   rw[e] at h
   exact lS (hc hL) (mK hk hX kL (λq hq=>hs q (.tail _ hq)) hn.2 hd I G B hL h)
theorem Jo{U:St}{vs:List V}{K:V->St->Prop}(h:MN vs U K):z9 P.j (orc P (n+2)) MQ vs U K:=by
 obtain⟨c,d,k,xl,rfl,hk,I,G,B,h⟩:=h
 have z2:d.QI.length<1000:=by have:=I.RC;omega
 have hks:(eR d.QI).map (·.1)=d.QI.map jA:=by rw[List.map_map];rfl
 refine z8 (Y:=[some (.c ⟨1,0⟩),some (.int d.now),none,none,none,none,none,none,none,none,none,none]) rfl (zC (zI (Y:=xR d.now 0 none) (zC (uO (zE (ga B.b0 rfl) (zE (keD B.b2 ((alF _).symm▸z2) hks) (q8 (itL zJ) ?_)))))))
 have F:=(Fr.refl (T:=tb) G).new (o:= .list (d.QI.map jA))
 have F0:=(Fr.refl (T:=tn) G).new (o:= .list (d.QI.map jA))
 exact mK hk zJ G.o (λp hp=>hp) I.Ra rfl I F.Q3 (B.fr (λJ J=>rfl) F0) zJ λU' xl' v3 B' F'=>h U' xl' B' (F.trans F')
end
noncomputable abbrev Dj(t:Int)(d:Dt):Dt:=⟨t,d.last,d.st,d.QI,d.keys,d.bf,d.wf,d.xs⟩
section
variable{n:Nat}
noncomputable def HR(p:Nat)(s:Nat->Bool×Bool)(r:Nat):Bool×Bool:= @Bool.rec (λJ=>Bool×Bool) (s r) ((s r).1,true) (Nat.beq r p)
theorem tF{p q:Nat}{d:Dt}:u4 p (u4 q d)=u4 q (u4 p d):=by
 have e:∀{α:Type} (f:α->Nat) (l:List α),(l.filter λx=>nb q (f x)).filter (λx=>nb p (f x))=(l.filter λx=>nb p (f x)).filter λx=>nb q (f x):=λf l=>by
  rw[List.filter_filter,List.filter_filter];exact List.filter_congr λx J=>Bool.and_comm _ _
 unfold u4
 rw[Dt.mk.injEq]
 refine⟨rfl,rfl,funext λr=> ?_,e id _,e Prod.fst _,e (λx:V×Ref=>x.2.1) _,e (λx:V×Ref=>x.2.1) _,e (λx:Loc×Loc×Ex=>x.2.2.p) _⟩
 show HR p (HR q d.st) r=HR q (HR p d.st) r
 unfold HR
 cases Nat.beq r p<;>cases Nat.beq r q<;>rfl
theorem iN:∀{l:List Nat} {d:Dt},(Rf l d).now=d.now
 |[],_=>rfl
 |p::l,d=>iN (l:=l) (d:=u4 p d)
theorem Inv.Rf{c:Kc}{k:Nat}:∀{l:List Nat} {d:Dt},Inv c d k->Inv c (Rf l d) k
 |[],_,I=>I
 |p::l,d,I=>Inv.Rf (l:=l) (I.drop p)
theorem PE{U:St}{x:Loc}{QI:List Nat}{p:Nat}(h:U.get x=some (.list (QI.map jA))):cG .In (jA p) (.c x) U=some (decide (p∈QI)):=by
 show jV (U.get x) _ _ _=_
 rw[h]
 refine(if_pos ?_).trans (alQ some ?_)
 ·rw[List.all_map];exact alB ⟨List.all_eq_true.mpr λJ J=>rfl,rfl⟩
 ·rw[List.any_map,Bool.eq_iff_iff,List.any_eq_true,decide_eq_true_eq]
  exact⟨λ⟨q,hq,e⟩=>qU (alH e)▸hq,λh=>⟨p,h,alG rfl⟩⟩
theorem giT{U:St}{l:List V}{p:Nat}{v:V}(hp:p<1000)(h:l[p]?=some v):getItem (.Q1 l) (.int (Int.ofNat p)) U=some v:=(AT (f:=λk=>l[k]?) hp).trans h
theorem GF{U:St}{x:Loc}{vs:List V}(h:U.get x=some (.list vs))(hz:vs.length<1000):iQ (.bi "len") [.c x] U=some (.int (vs.length:Int),U):=by
 show jV (U.get x) _ _ _=_
 rw[h];exact if_pos hz
noncomputable abbrev iO(b:Loc)(v3 v4:Option V):Env:=[some (.c ⟨1,0⟩),some (.c ⟨3,0⟩),some (.c b),v3,v4,none,none,none,none,none,none,none,none]
theorem Fd{U:St}{c:Kc}{d:Dt}{wi wk wl wx b:Loc}{p:Nat}{K:Option V->St->Prop}(W:WdV U c d wi wk wl wx)(hp:p<4)(h:K (@Bool.rec (λJ=>Option V) none (some (.c ⟨4,p⟩)) (decide (p∈d.QI)&&decide (c.R2 p<=d.now))) U):
  yV (ev P.j (orc P n) 62) [5] false [.QT .And [.Q4 (.sub (.v 5) (.l (.str 20))) [.In] [.sub (.v 1) (.l (.str 47))],.Q4 (.sub (.v 5) (.l (.str 26))) [.LtE] [.sub (.v 1) (.l (.str 29))]]] (.v 5) (iO b none none) (.c ⟨4,p⟩) U K:=by
 refine zE (giD (W.k p hp) rfl rfl) (zE (giD W.w0 rfl rfl) (zE (PE W.i) ?_))
 by_cases q:p∈d.QI
 ·rw[alG q] at h ⊢
  refine zE (giD (W.k p hp) rfl rfl) (zE (giD W.w0 rfl rfl) (ask (λq=> ?_) λq=> ?_))<;>(rw[q] at h;exact h)
 ·rw[decide_eq_false q] at h ⊢
  exact h
theorem Bo{c:Kc}{k:Nat}{b L:Loc}{X:List V}{σL:St}{K:KF}(hk:k<=400)(hX:σL.get L=some (.list X))(kL:okd L.k=true){v4:Option V}:∀{ps:List Nat} {U:St} {d:Dt} {wi wk wl wx:Loc} {v3:Option V},
  (∀p∈ps,p<4)->Inv c d k->y8 U->WdV U c d wi wk wl wx->U.get L=some (.list X)->
  (∀U' wi' wk' wl' wx' v3,WdV U' c (Rf ps d) wi' wk' wl' wx'->Fr tw U U'->K .next (iO b v3 v4) U')->
  aE (exs (ex P.j (orc P (n+2)) 63) [.expr (.call (.l (.obj 775)) [.v 1,.v 3])]) (jI σL (some L)) [3] false (ps.map λp=> .c ⟨4,p⟩) (iO b v3 v4) U K
 |[],U,d,wi,wk,wl,wx,v3,_,_,G,W,_,h=>h U wi wk wl wx v3 W (Fr.refl G)
 |p::r,U,d,wi,wk,wl,wx,v3,hs,I,G,W,hL,h=>by
  refine zR rfl (Kb.mk c d k wi wk wl wx p rfl (hs p (.head _)) hk I G W λU' wi' wk' wl' wx' W' o' F'=> ?_)
  have hL':=F'.get L _ (Ev kL) hL
  exact lS (alG (hL'.trans hX.symm)) (Bo (d:=u4 p d) hk hX kL (λq hq=>hs q (.tail _ hq)) (I.drop p) F'.Q3 W' hL' λU'' a1 a2 a3 a4 v3' W'' F''=>h U'' a1 a2 a3 a4 v3' W'' (F'.trans F''))
theorem Dz{c:Kc}{d:Dt}{k:Nat}(I:Inv c d k)(t:Int):([0,1,2,3].filter λp=>decide (p∈d.QI)&&decide (c.R2 p<=t)).Perm (sP c t d.QI):=by
 refine(List.perm_ext_iff_of_nodup (List.Pairwise.filter _ (by decide)) (I.Ra.filter _)).mpr λp=> ?_
 rw[List.mem_filter,List.mem_filter,Bool.and_eq_true_iff,decide_eq_true_eq]
 exact⟨λh=>h.2,λh=>⟨tW (P:=λp=>p∈[0,1,2,3]) (.head _) (.tail _ (.head _)) (.tail _ (.tail _ (.head _))) (.tail _ (.tail _ (.tail _ (.head _)))) (I.Rn p h.1),h⟩⟩
theorem KS{p:Nat}(h:p∈[0,1,2,3]):p<4:=by
 rcases alC h with rfl|h
 ·decide
 rcases alC h with rfl|h
 ·decide
 rcases alC h with rfl|h
 ·decide
 exact alK h▸(by decide)
theorem Inv.now{c:Kc}{d:Dt}{k:Nat}{t:Int}(I:Inv c d k):Inv c (Dj t d) k:=⟨I.Rh,I.Ro,I.Rz,I.Ra,I.Rn,I.Rv,I.RI,I.RK,I.RE,I.RJ,I.R8,I.RC,I.RH,I.RG,I.R4,I.xn,I.wn⟩
theorem BkV.now{U:St}{c:Kc}{d:Dt}{xl:Loc}{t:Int}(B:BkV U c d xl):BkV U c (Dj t d) xl:=⟨B.b0,B.b1,B.b2,B.b3,B.bx,B.kx,B.x,B.r,B.fz,B.fl⟩
theorem WdV.Rb{U:St}{c:Kc}{d:Dt}{wi wk wl wx:Loc}{o:zU}{t:Int}(W:WdV U c d wi wk wl wx)(e:o= .dict (qJ t wi wk wl wx)):WdV (U.Q6 ⟨3,0⟩ o) c (Dj t d) wi wk wl wx where
 w0:=e▸zP
 i:=(zH (W.ks wi (.head _)).2.1).trans W.i
 ky:=(zH (W.ks wk (.tail _ (.head _))).2.1).trans W.ky
 fl:=(zH (W.ks wl (.tail _ (.tail _ (.head _)))).2.1).trans W.fl
 ex:=(zH (W.ks wx (.tail _ (.tail _ (.tail _ (.head _))))).2.1).trans W.ex
 ks:=W.ks
 x q hq:=⟨(zH (x4 (W.x q hq).2).1).trans (W.x q hq).1,(W.x q hq).2⟩
 k p hp:=(zH (nofun:Loc.mk 4 p≠⟨3,0⟩)).trans (W.k p hp)
 dx:=W.dx
 fz:=W.fz
 lv l hl:=⟨(W.lv l hl).1,by
  by_cases q:l=⟨3,0⟩
  ·have:=(W.lv l hl).1;rw[q] at this;exact nomatch this
  ·rw[zH q];exact(W.lv l hl).2⟩
theorem Qp{U:St}{x:Loc}{es es':List (V×V)}{k v:V}{F:St->Prop}{N:Prop}(h0:U.get x=some (.dict es))(ha:yD es k=true)(hz:Nat.blt es.length 1000=true)(he:uG es k v=es')(h:F (U.Q6 x (.dict es'))): @Option.rec St (λJ=>Prop) N F (setItem (.c x) k v U):=
 zE (seD h0 ha (alE hz)) ((alQ (λl=>F (U.Q6 x (.dict l))) he).mpr h)
theorem c6{W:jY}{Φ:Orc}{n i:Nat}{tg:List Nat}{b:Bool}{body:List IS}{Y:Env}{U:St}{v:V}{K:KF}(e:kP Y i=some v)(h:BR (exs (ex W Φ (n+1)) body) tg b Y K v U):ex W Φ (n+2) (.QL tg b (.v i) body) Y U K:=zE e h
theorem jC{W:jY}{Φ:Orc}{n i:Nat}{Y Y':Env}{U:St}{v:V}{g:BdF}{K:KF}(hb:Nat.blt i Y.length=true)(e:Y.set i (some v)=Y')(h:g Y' U K):E9 (Q0 W Φ (n+1) (.v i)) Y (sG g K) v U:=lS hb (e▸h)
theorem jZ{g:BdF}{K:KF}{Y:Env}{U:St}(h:g Y U K):Dd (sG g K) Y U:=h
theorem Hh{U:St}{vs:List V}{K:V->St->Prop}(h:aT IB vs U K):z9 P.j (orc P (n+3)) Lf vs U K:=by
 obtain⟨c,sc,d,k,b,x,p,U0,rfl,hp,hk,T,F,h0,hb,h⟩:=h
 refine nI ((T.fr F).W) λwi wk wl wx W=> ?_
 refine z8 (Y:=iO b none none) rfl (zC (zE (giD W.w0 rfl rfl) (lU.mk b x 4 rfl rfl hb λi y hi=> ?_)))
 have F1:=F.own (o':= .list [.int y]) h0 hb
 generalize U.Q6 b (.list [.int y])=U1 at F1 ⊢
 have T1:=T.fr F1
 refine qI T1.open λxl wi wk wl wx B W=> ?_
 obtain⟨dt,hdt⟩:∃dt,[V.int 0,.int 1,.int 699,.int 90000][i]?=some (.int dt):=tW (P:=λi=>∃dt,[V.int 0,.int 1,.int 699,.int 90000][i]?=some (.int dt)) ⟨_,rfl⟩ ⟨_,rfl⟩ ⟨_,rfl⟩ ⟨_,rfl⟩ hi
 refine zE (giT (iU hi) hdt) (Qp (es':=qJ (d.now+dt) wi wk wl wx) W.w0 rfl rfl rfl (jZ (zC ?_)))
 have F2:=(Fr.refl (T:=tw) T1.G).Q6 (o':= .dict (qJ (d.now+dt) wi wk wl wx)) W.w0 rfl
 have W2:WdV (U1.Q6 ⟨3,0⟩ (.dict (qJ (d.now+dt) wi wk wl wx))) (c.of [xl]) (Dj (d.now+dt) d) wi wk wl wx:=W.Rb rfl
 generalize U1.Q6 ⟨3,0⟩ (.dict (qJ (d.now+dt) wi wk wl wx))=U2 at F2 W2 ⊢
 have I2:Inv c (Dj (d.now+dt) d) k:=T.I.now
 have S2:=T1.S.fr rfl rfl F2
 refine zE (giD W2.w0 rfl rfl) (yC (wU rfl (itL S2.tl) (alE rfl)) (dW (f:=λp=> .c ⟨4,p⟩) (g:=λp=> .c ⟨4,p⟩) (xs:=[0,1,2,3]) (pd:=λp=>decide (p∈d.QI)&&decide (c.R2 p<=d.now+dt)) (λp hp K' h'=>Fd W2 (KS hp) h') q9 ?_))
 have pm:=Dz T.I (d.now+dt)
 have m4:∀p∈[0,1,2,3].filter (λp=>decide (p∈d.QI)&&decide (c.R2 p<=d.now+dt)),p<4:=λp hp=>KS (alL hp).1
 have l4:([0,1,2,3].filter (λp=>decide (p∈d.QI)&&decide (c.R2 p<=d.now+dt))).length<1000:=alI (List.length_filter_le _ _) (by decide)
 generalize ([0,1,2,3].filter λp=>decide (p∈d.QI)&&decide (c.R2 p<=d.now+dt))=ps at pm m4 l4 ⊢
 refine zE (j2 ((alF _).symm▸l4)) (jC (Y':=iO b none (some (.c U2.fr))) rfl rfl (zC ?_))
 refine c6 (v:= .c U2.fr) rfl (q8 (itL zJ) ?_)
 have F3:=(Fr.refl (T:=tn) F2.Q3).new (o:= .list (ps.map λp=> .c ⟨4,p⟩))
 refine Bo T.hk zJ F2.Q3.o m4 I2.of F3.Q3 (W2.fr (λJ J=>rfl) F3) zJ λU4 wi4 wk4 wl4 wx4 v3 W4 F4=>zI (zC ?_)
 have w0:=W4.w0
 rw[iN] at w0
 have L4:=F4.get _ _ (Ev (k:=U2.kd) F2.Q3.o) (zJ (U:=U2) (o:= .list (ps.map λp=> .c ⟨4,p⟩)))
 have B4:=((B.now (t:=d.now+dt)).fr (λJ=>lK) F2).fr (λJ J=>rfl) F3 |>.fr (λJ=>lK) F4
 refine zE (giD w0 rfl rfl) (MN.mk (c.of [wi4,wk4,wl4,wx4]) (Dj (d.now+dt) d) k xl rfl T.hk I2.of F4.Q3 (W4.RT B4) λU5 xl5 B5 F5=>zE (GF (F5.get _ _ (BB (k:=U2.kd) F2.Q3.o) L4) ((alF _).symm▸l4)) (iG ?_ ?_))
 ·exact dI (by rw[Int.zero_add,alF,pm.length_eq])
 ·have e:Rf (sP c (d.now+dt) d.QI) (Dj (d.now+dt) d)=Rf ps (Dj (d.now+dt) d):=(pm.foldl_eq' (λx J y J z=>tF) _).symm
  refine h U5 (Rf ps (Dj (d.now+dt) d)) ⟨⟨xl5,wi4,wk4,wl4,wx4,e▸B5.un T.fw,(W4.fr (λJ=>hW) F5).un T.fw,B5.out λl hl=>(W4.ks l hl).1⟩,((S2.fr rfl rfl F3).fr rfl rfl F4).fr rfl rfl F5,F5.Q3,I2.Rf.Ri,hk,T.fw⟩
end
section
variable{U:St}{n:Nat}
theorem OB(s:Bool×Bool):(!decide (V.int (PySem.Builtin.bitAnd (stI s) 8)=V.int 0))=s.1:=by obtain⟨a,b⟩:=s;cases a<;>cases b<;>rfl
theorem fd8(s:Bool×Bool):decide (V.int (Int.fmod (Int.fdiv (stI s) 8) 2)=V.int 1)=s.1:=by obtain⟨a,b⟩:=s;cases a<;>cases b<;>rfl
theorem or8{s:Bool×Bool}(h:s.1=false):PySem.Builtin.bitOr (stI s) 8=stI (true,s.2):=by obtain⟨a,b⟩:=s;cases h;cases b<;>rfl
theorem Qa{s:Bool×Bool}(h:s.1=false):stI s+8=stI (true,s.2):=by obtain⟨a,b⟩:=s;cases h;cases b<;>rfl
theorem kZ{c:Kc}{d:Dt}{key:V}{k:Nat}(I:Inv c d k)(h:(jJ c d key).1=none):∀r∈(jJ c d key).2.keys,jE c r≠key:=by
 unfold jJ at h ⊢
 rcases vH (c:=c) (keys:=d.keys) (key:=key) with⟨r,e,hr,he⟩|⟨e,hn⟩
 ·rw[e] at h ⊢
  by_cases q:d.now<c.R2 r.1
  ·simp only[if_pos q] at h;exact nomatch h
  ·simp only[if_neg q]
   intro s hs e2
   obtain⟨A,B,e3,hA,hB⟩:=uV I.Rh hr
   have hs:=alL hs
   have:s=r:=by
    have hs1:=hs.1
    rw[e3] at hs1
    rcases List.mem_append.mp hs1 with h1|h1
    ·exact absurd (e2.trans he.symm) (hA s h1)
    ·rcases alC h1 with h1|h1
     ·exact h1
     ·exact absurd (e2.trans he.symm) (hB s h1)
   exact Gv hs.2 (this▸rfl)
 ·rw[e];exact hn
theorem vD{c:Kc}{d:Dt}{key:V}{k:Nat}(I:Inv c d k):(∀r∈(jJ c d key).2.keys,r∈d.keys)/\∀p,((jJ c d key).2.st p).1=(d.st p).1:=by
 rcases pO (key:=key) I with e|⟨r,hr,e⟩|⟨p,e⟩<;>rw[e]
 ·exact⟨λr h=>h,λJ=>rfl⟩
 ·exact⟨λr h=>h,λJ=>rfl⟩
 ·refine⟨λr h=>(alL h).1,λq=> ?_⟩
  show(@Bool.rec (λJ=>Bool×Bool) (d.st q) ((d.st q).1,true) (Nat.beq q p)).1=_
  cases Nat.beq q p<;>rfl
theorem nS{c:Kc}{keys:List Ref}{r:Ref}(h:∀s∈keys,jE c s≠jE c r):bS c keys r=keys++[r]:=alQ (· ++[r]) (yR λy hy=>alG (h y hy))
theorem BO{c:Kc}{keys:List Ref}{r:Ref}(h:∀s∈keys,jE c s≠jE c r):uG (vV c keys) (jE c r) (u7 r)=vV c (bS c keys r):=by
 rw[nS h,show vV c (keys++[r])=vV c keys++[(jE c r,u7 r)] from List.map_append]
 exact lX bq h
theorem CN{c:Kc}{keys:List Ref}{s r:Ref}(hs:∀x∈keys,jE c x≠jE c r):uG (vV c (keys++[s])) (jE c r) (u7 r)=vV c (bS c (keys++[s]) r):=by
 by_cases e:jE c s=jE c r
 ·have e1:bS c (keys++[s]) r=keys++[r]:=by
   unfold bS
   rw[List.filter_append,yR λy hy=>alG (hs y hy),List.filter_cons_of_neg (by rw[decide_eq_false λq=>q e];exact Bool.false_ne_true),List.filter_nil,List.append_nil]
  have e2:=oW (q:=V.beq) bq (f:=jE c) (g:=u7) (x:=s) (w:=u7 r) (A:=keys) (B:=[]) λy hy=>e▸hs y hy
  rw[e1,show vV c (keys++[r])=vV c keys++[(jE c r,u7 r)] from List.map_append,<-e]
  exact e2
 ·exact BO λx hx=>(List.mem_append.mp hx).elim (hs x) λh=>alK h▸e
end
section
variable{U:St}{n:Nat}
theorem Ha{x:Loc}{es es':List (V×V)}{k v:V}{F:St->Prop}{N:Prop}(h0:U.get x=some (.dict es))(ha:yD es k=true)(hz:es.length<1000)(he:uG es k v=es')(h:F (U.Q6 x (.dict es'))): @Option.rec St (λJ=>Prop) N F (setItem (.c x) k v U):=
 zE (seD h0 ha hz) ((alQ (λl=>F (U.Q6 x (.dict l))) he).mpr h)
noncomputable abbrev oS(l:Loc)(p:Nat)(v3:Option V):Env:=[some (.c l),some (.c ⟨1,0⟩),some (.c ⟨2,p⟩),v3,none,none,none,none,none,none,none,none]
noncomputable abbrev DH:List IS:=[(.QC (.Q4 (.call (.l (.obj 319)) [(.v 1),(.Qy (.v 2) 18),(.v 3),(.Qy (.v 0) 29)]) [.IsNot] [(.l .none)]) [(.ret (.Q1 [(.l (.str 42)),(.l (.str 37))]))] [])]
theorem A0{c:Kc}{d:Dt}{k p:Nat}{xl l:Loc}{pk st rp:V}{r:List (Nat×V)}{w:Nat}{K:KF}(hl:U.get l=some (.Qz 738 (wQ pk d.now (.c ⟨2,p⟩) st rp r)))(hp:p<4)(hk:k<=400)(I:Inv c d k)(G:y8 U)(B:BkV U c d xl)
  (h:∀U' xl',BkV U' c (jJ c d (jE c (p,w))).2 xl'->Fr tb U U'->@Option.rec Ref (λJ=>Prop) (K .next (oS l p (some (yO (dK c (p,w))))) U') (λJ=>K (.ret (.Q1 [.str 42,.str 37])) (oS l p (some (yO (dK c (p,w))))) U') (jJ c d (jE c (p,w))).1):
  exs (ex P.j (orc P (n+3)) 63) DH (oS l p (some (yO (dK c (p,w))))) U K:=by
 refine zE (ga (B.r p hp) rfl) (zE (ga hl rfl) (Ia.mk c d k xl (c.QF p) (yO (dK c (p,w))) rfl rfl hk I G B λU1 xl1 B1 F1=> ?_))
 have h:=h U1 xl1 B1 F1
 show Jy _ _ (KJ (jJ c d (jE c (p,w))).1) U1
 generalize (jJ c d (jE c (p,w))).1=o at h ⊢
 cases o with
 |none=>exact h
 |some s=>exact h
theorem zT{F:IS->BdF}{Y:Env}{K:KF}(h:K .next Y U):exs F [] Y U K:=h
theorem yT{body:BdF}{chk:St->Bool}{tg:List Nat}{b:Bool}{Y:Env}{K:KF}(h:K .next Y U):aE body chk tg b [] Y U K:=h
theorem Kd{c:Kc}{p:Nat}{s:Bool×Bool}(h:s.1=false):zU.Qz 218 (tI (yX c p s) 25 (.int (PySem.Builtin.bitOr (stI s) 8)))= .Qz 218 (yX c p (true,s.2)):=
 alQ (λi=>zU.Qz 218 [(20,jA p),(17,yO (c.a p)),(16,yO (c.b p)),(18,.int (c.QF p)),(26,.int (c.R2 p)),(27,.int 0),(2,.int 0),(25,.int i),(31,.int 0),(50,.none),(24,.int 0)]) (or8 h)
theorem J5{vs:List V}{K:V->St->Prop}(h:Nw vs U K):z9 P.j (orc P (n+3)) LX vs U K:=by
 obtain⟨c,d,k,xl,l,p,pk,st,rp,r,rfl,hl,kl,hp,hk,I,G,B,h⟩:=h
 have hk':=Nat.le_of_lt hk
 refine zE (ga hl rfl) (zE (ga hl rfl) (zE (ga (B.r p hp) rfl) (ask (λq=> ?_) λq=> ?_)))
 ·have e:(d.st p).1=true:=(OB _).symm.trans q
  unfold uR at h
  rw[e] at h
  exact h U xl B (Fr.refl G)
 have e:(d.st p).1=false:=(OB _).symm.trans q
 unfold uR at h
 rw[e] at h
 refine zT (zI (Y:=oS l p none) (zC (wK (vs:=[yO (c.a p),yO (c.b p)]) (λK' h'=>zE (ga (B.r p hp) rfl) (zE (ga (B.r p hp) rfl) h')) (zR rfl (A0 (w:=0) hl hp hk' I G B λU1 xl1 B1 F1=> ?_)))))
 have L1:=yF (key:=jE c (p,0)) I
 have jD1:=kZ (key:=jE c (p,0)) I
 have jU1:=vD (key:=jE c (p,0)) I
 generalize jJ c d (jE c (p,0))=q1 at*
 obtain⟨o1,d1⟩:=q1
 cases o1 with
 |some s=>exact h U1 xl1 B1 F1
 |none=>
 have hl1:=F1.get l _ (BB kl) hl
 rw[<-L1.1] at hl1
 refine zY rfl (zR rfl (A0 (w:=1) hl1 hp hk' L1.2.1 F1.Q3 B1 λU2 xl2 B2 F2=> ?_))
 have L2:=yF (key:=jE c (p,1)) L1.2.1
 have jD2:=kZ (key:=jE c (p,1)) L1.2.1
 have jU2:=vD (key:=jE c (p,1)) L1.2.1
 generalize jJ c d1 (jE c (p,1))=q2 at*
 obtain⟨o2,d2⟩:=q2
 cases o2 with
 |some s=>exact h U2 xl2 B2 (F1.trans F2)
 |none=>
 have I2:Inv c d2 k:=L2.2.1
 have e2:(d2.st p).1=false:=(jU2.2 p).trans ((jU1.2 p).trans e)
 have h0:∀s∈d2.keys,jE c s≠jE c (p,0):=λs hs=>jD1 rfl s (jU2.1 s hs)
 have h1:∀s∈d2.keys,jE c s≠jE c (p,1):=jD2 rfl
 have hni:∀q∈d2.QI,jA q≠jA p:=λq hq e=>Bool.noConfusion (e2.symm.trans (qU e▸I2.Rv q hq))
 have z1:(vV c d2.keys).length<1000:=by have:=I2.R8;rw[alF];omega
 have z1':(vV c (bS c d2.keys (p,0))).length<1000:=by have:=I2.R8;rw[nS h0,alF,List.length_append];show _+1<_;omega
 have z2:(eR d2.QI).length<1000:=by have:=I2.RC;rw[alF];omega
 refine zY rfl (yT (zI (zC (zE (ga (B2.r p hp) rfl) (zE (ga B2.b0 rfl) (zE (ga (B2.r p hp) rfl) (zE (ga (B2.r p hp) rfl) (Ha (es':=vV c (bS c d2.keys (p,0))) B2.b1 (qQ rfl) z1 (BO h0) ?_))))))))
 refine zE (ga (B2.r p hp) rfl) (zE (ga B2.b0 rfl) (zE (ga (B2.r p hp) rfl) (zE (ga (B2.r p hp) rfl) (Ha (es':=vV c (bS c (bS c d2.keys (p,0)) (p,1))) zP (qQ rfl) z1' (by rw[nS h0];exact CN h1) ?_))))
 refine zE (ga B2.b0 rfl) (zE (ga (B2.r p hp) rfl) (Ha (es':=eR (d2.QI++[p])) B2.b2 qP z2 (by rw[show eR (d2.QI++[p])=eR d2.QI++[(jA p,.c ⟨2,p⟩)] from List.map_append];exact lX bq hni) ?_))
 refine zE (ga (B2.r p hp) rfl) (zE (sa (x:=⟨2,p⟩) (C:=218) (fs:=yX c p (d2.st p)) (B2.r p hp) rfl) ?_)
 have F3:=(((F2.Q6 (l:=⟨1,1⟩) (o':= .dict (vV c (bS c d2.keys (p,0)))) B2.b1 rfl).Q6 (l:=⟨1,1⟩) (o':= .dict (vV c (bS c (bS c d2.keys (p,0)) (p,1)))) zP rfl).Q6 (l:=⟨1,2⟩) (o':= .dict (eR (d2.QI++[p]))) B2.b2 rfl).Q6 (l:=⟨2,p⟩) (o':= .Qz 218 (yX c p (true,(d2.st p).2))) (B2.r p hp) rfl
 have h6:=(λB=>h _ xl2 B (F1.trans F3)) ⟨B2.b0,rfl,rfl,B2.b3,?_,B2.kx,λq hq=>⟨?_,(B2.x q hq).2⟩,λa hq=> ?_,B2.fz,B1.fl.fr F3 rfl⟩
 ·rw[<-Kd e2] at h6
  exact h6
 ·exact(zH λe=>B2.kx.2.2.2.2.2 (alQ Loc.k e)).trans ((zH B2.kx.2.2.2.1).trans ((zH B2.kx.2.2.1).trans ((zH B2.kx.2.2.1).trans B2.bx)))
 ·have hq':=(B2.x q hq).1
  obtain⟨⟨k,i⟩,l2,e⟩:=q
  have:=(B2.x _ hq).2
  exact BA (P:=λk=>U2.get ⟨k,i⟩=_->St.get (((((U2.Q6 ⟨1,1⟩ _).Q6 ⟨1,1⟩ _).Q6 ⟨1,2⟩ _).Q6 ⟨2,p⟩ _)) ⟨k,i⟩=_) id id this hq'
 ·by_cases e:a=p
  ·subst e
   rw[zP]
   show _=some (zU.Qz 218 (yX c a (@Bool.rec (λJ=>Bool×Bool) _ _ (Nat.beq a a))))
   rw[Nat.beq_refl]
  ·rw[zH λq=>e (alQ Loc.i q)]
   show _=some (zU.Qz 218 (yX c a (@Bool.rec (λJ=>Bool×Bool) _ _ (Nat.beq a p))))
   rw[alO λh=>e (alP h)]
   exact B2.r a hq
end
section
variable{U:St}{n:Nat}
theorem K7{x y:Loc}{u v:List V}(h1:U.get x=some (.list u))(h2:U.get y=some (.list v))(hz:u.length+v.length<1000):tN .Add (.c x) (.c y) U=some (.c U.fr,U.new (.list (u++v))):=by
 show(pur (gL U x) λu=>pur (gL U y) λv=>aA (u.length+v.length) (mkL (u++v) U))=_
 rw[iM h1,iM h2];exact if_pos hz
noncomputable abbrev bT(p:Nat)(v2 v3 v4:Option V):Env:=[some (.c ⟨3,0⟩),some (.c ⟨4,p⟩),v2,v3,v4,none,none,none,none,none,none,none,none]
noncomputable abbrev GK:List IS:=[(.Q0 (.v 4) (.Q1 [(.sub (.v 1) (.l (.str 18))),(.sub (.sub (.v 1) (.l (.str 46))) (.v 3))])),(.Q0 (.sub (.v 0) (.l (.str 48))) (.QB .Add (.comp (.v 5) [5] false (.sub (.v 0) (.l (.str 48))) [(.Q4 (.sub (.v 5) (.l (.int 0))) [.NotEq] [(.v 4)])]) (.QN [(.Q1 [(.v 4),(.sub (.v 1) (.l (.str 20))),(.v 3)])])))]
theorem iE{jjD b:Bool}{K:Option V->St->Prop}{v:V}(e:jjD=b)(h:K (@Bool.rec (λJ=>Option V) none (some v) jjD) U):K (@Bool.rec (λJ=>Option V) none (some v) b) U:=e▸h
theorem FJ{c:Kc}{s r:Ref}{p:Nat}{v2 v3:Option V}{K:Option V->St->Prop}(h:K (@Bool.rec (λJ=>Option V) none (some (oF (jE c s) s)) (decide (jE c s≠jE c r))) U):
  yV (ev P.j (orc P n) 60) [5] false [.Q4 (.sub (.v 5) (.l (.int 0))) [.NotEq] [.v 4]] (.v 5) (bT p v2 v3 (some (jE c r))) (oF (jE c s) s) U K:=
 ask (b:= !decide (jE c s=jE c r)) (λe=>iE (decide_not.trans e) h) λe=>iE (decide_not.trans e) h
noncomputable abbrev K8(c:Kc)(r:Ref):V:=oF (jE c r) r
structure Wk(U U':St)(c:Kc)(now:Int)(wi wk wl wx:Loc)(keys:List Ref):Prop where
 o:∀l o,l≠⟨3,0⟩->U.get l=some o->U'.get l=some o
 w:U'.get ⟨3,0⟩=some (.dict (qJ now wi wk wl wx))
 k:U'.get wk=some (.list (keys.map (K8 c)))
 kk:okd wk.k=true
 f:Fr tw U U'
 z:U.get wk=none
theorem DU{c:Kc}{p w:Nat}{st:Bool×Bool}{now:Int}{wi wk wl wx:Loc}{keys:List Ref}{v2 v4:Option V}{K:KF}(hw:w<2)(w0:U.get ⟨3,0⟩=some (.dict (qJ now wi wk wl wx)))(ky:U.get wk=some (.list (keys.map (K8 c))))(hT:U.get ⟨4,p⟩=some (.dict (wH c p st)))
  (he:U.get ⟨5,p⟩=some (.list [yO (c.a p),yO (c.b p)]))(G:y8 U)(hz:keys.length<900)(h:∀U' wk',Wk U U' c now wi wk' wl wx (bS c keys (p,w))->K .next (bT p v2 (some (.int (Int.ofNat w))) (some (jE c (p,w)))) U'):
  exs (ex P.j (orc P n) 63) GK (bT p v2 (some (.int (Int.ofNat w))) v4) U K:=by
 have hl:[yO (c.a p),yO (c.b p)][w]?=some (yO (dK c (p,w))):=by rcases lt2 hw with rfl|rfl<;>rfl
 have hf:(keys.filter λs=>decide (jE c s≠jE c (p,w))).length<900:=alI (List.length_filter_le _ _) hz
 refine zC (zE (giD hT rfl rfl) (zE (giD hT rfl rfl) (zE (giL he (Nat.lt_trans hw (by decide)) hl) ?_)))
 refine zE (giD w0 rfl rfl) (yC (wU rfl (itL ky) ((alF _).symm▸Nat.lt_trans hz (by decide))) (dW (f:=K8 c) (g:=K8 c) (pd:=λs=>decide (jE c s≠jE c (p,w))) (λs hs K' h'=>FJ h') q9 ?_))
 refine zE (j2 ((alF _).symm▸Nat.lt_trans hf (by decide))) (zE (giD (G.nk hT) rfl rfl) (zE (K7 (G.new.nk zJ) zJ ?_) (FY (es':=qJ now wi (St.fr _) wl wx) rfl G.new.new (G.new.nk (G.nk w0)) rfl rfl rfl λU' W=> ?_)))
 ·rw[alF];exact Nat.succ_lt_succ (Nat.lt_trans hf (by decide))
 ·refine h U' _ ⟨λl o hl e=>W.o l o hl (G.new.nk (G.nk e)),W.w,?_,G.o,(((Fr.refl G).new).new).trans W.f,G.d _ (Nat.le_add_right _ 2)⟩
  refine W.a.trans (alQ (λl=>some (zU.list l)) ?_)
  unfold bS
  rw[List.map_append];rfl
end
section
variable{U:St}{n:Nat}
noncomputable abbrev DO:List IS:=[(.QC (.Q4 (.call (.l (.obj 782)) [(.v 0),(.Q1 [(.sub (.v 1) (.l (.str 18))),(.v 2)])]) [.IsNot] [(.l .none)]) [(.ret (.Q1 [(.l (.str 42)),(.l (.str 37))]))] [])]
theorem xY{c:Kc}{d:Dt}{k p w:Nat}{wi wk wl wx:Loc}{K:KF}(hp:p<4)(hk:k<=400)(I:Inv c d k)(G:y8 U)(B:WdV U c d wi wk wl wx)(tl:U.get ⟨9,2⟩=some (.list [.c ⟨4,0⟩,.c ⟨4,1⟩,.c ⟨4,2⟩,.c ⟨4,3⟩]))
  (h:∀U' wi' wk' wl' wx',WdV U' c (jJ c d (jE c (p,w))).2 wi' wk' wl' wx'->Fr tw U U'->@Option.rec Ref (λJ=>Prop) (K .next (bT p (some (yO (dK c (p,w)))) none none) U') (λJ=>K (.ret (.Q1 [.str 42,.str 37])) (bT p (some (yO (dK c (p,w)))) none none) U') (jJ c d (jE c (p,w))).1):
  exs (ex P.j (orc P (n+3)) 63) DO (bT p (some (yO (dK c (p,w)))) none none) U K:=by
 refine zE (giD (B.k p hp) rfl rfl) (KC.mk c d k wi wk wl wx (c.QF p) (dK c (p,w)) rfl hk I G B tl λU1 a1 a2 a3 a4 B1 F1=> ?_)
 have h:=h U1 a1 a2 a3 a4 B1 F1
 show Jy _ _ (KI (jJ c d (jE c (p,w))).1) U1
 generalize (jJ c d (jE c (p,w))).1=o at h ⊢
 cases o with
 |none=>exact h
 |some s=>exact h
theorem G8{c:Kc}{p:Nat}{s:Bool×Bool}(h:s.1=false):uG (wH c p s) (.str 25) (.int (stI s+8))=wH c p (true,s.2):=
 alQ (λi=>([(.str 20,jA p),(.str 18,.int (c.QF p)),(.str 46,.c ⟨5,p⟩),(.str 26,.int (c.R2 p)),(.str 25,.int i)]:List (V×V))) (Qa h)
theorem IT{vs:List V}{K:V->St->Prop}(h:M2 vs U K):z9 P.j (orc P (n+3)) Lm vs U K:=by
 obtain⟨c,d,k,wi,wk,wl,wx,p,rfl,hp,hk,I,G,B,sc,S,h⟩:=h
 have hk':=Nat.le_of_lt hk
 refine zE (giD (B.k p hp) rfl rfl) (ask (b:=decide (V.int (Int.fmod (Int.fdiv (stI (d.st p)) 8) 2)=V.int 1)) (λq=> ?_) λq=> ?_)
 ·have e:(d.st p).1=true:=(fd8 _).symm.trans q
  unfold uR at h
  rw[e] at h
  exact h U wi wk wl wx B (Fr.refl G)
 have e:(d.st p).1=false:=(fd8 _).symm.trans q
 unfold uR at h
 rw[e] at h
 refine zT (zI (Y:=bT p none none none) (zC (uO (zE (giD (B.k p hp) rfl rfl) (q8 (itL (S.e p hp)) (zR rfl (xY (w:=0) hp hk' I G B S.tl λU1 a1 a2 a3 a4 B1 F1=> ?_)))))))
 have L1:=yF (key:=jE c (p,0)) I
 have jD1:=kZ (key:=jE c (p,0)) I
 have jU1:=vD (key:=jE c (p,0)) I
 generalize jJ c d (jE c (p,0))=q1 at*
 obtain⟨o1,d1⟩:=q1
 cases o1 with
 |some s=>exact h U1 a1 a2 a3 a4 B1 F1
 |none=>
 refine zY (alG ((F1.get _ _ rfl (S.e p hp)).trans (S.e p hp).symm)) (zR rfl (xY (w:=1) hp hk' L1.2.1 F1.Q3 B1 (F1.get _ _ rfl S.tl) λU2 b1 b2 b3 b4 B2 F2=> ?_))
 have L2:=yF (key:=jE c (p,1)) L1.2.1
 have jU2:=vD (key:=jE c (p,1)) L1.2.1
 generalize jJ c d1 (jE c (p,1))=q2 at*
 obtain⟨o2,d2⟩:=q2
 have F12:=F1.trans F2
 cases o2 with
 |some s=>exact h U2 b1 b2 b3 b4 B2 F12
 |none=>
 have I2:Inv c d2 k:=L2.2.1
 have e2:(d2.st p).1=false:=(jU2.2 p).trans ((jU1.2 p).trans e)
 have z1:d2.keys.length<900:=by have:=I2.R8;omega
 have z1':(bS c d2.keys (p,0)).length<900:=by
  have:=I2.R8
  have:=List.length_filter_le (λs=>decide (jE c s≠jE c (p,0))) d2.keys
  unfold bS;rw[List.length_append];show _+1<_;omega
 have z2:d2.QI.length<900:=by have:=I2.RC;omega
 refine zY (alG ((F12.get _ _ rfl (S.e p hp)).trans (S.e p hp).symm)) (yT (zI (zC (wK (vs:=[.int 0,.int 1]) (λK' h'=>h') (zR rfl (DU (w:=0) (by decide) B2.w0 B2.ky (B2.k p hp) (F12.get _ _ rfl (S.e p hp)) F2.Q3 z1 λU3 k3 W3=> ?_))))))
 have hT3:=W3.o ⟨4,p⟩ _ nofun (B2.k p hp)
 have he3:=W3.o ⟨5,p⟩ _ nofun (F12.get _ _ rfl (S.e p hp))
 refine zY rfl (zR rfl (DU (w:=1) (by decide) W3.w W3.k hT3 he3 W3.f.Q3 z1' λU4 k4 W4=>zY rfl (yT (zI (zC ?_)))))
 have G4:=W4.f.Q3
 have hT4:=W4.o ⟨4,p⟩ _ nofun hT3
 have o4:=λl o e h=>W4.o l o e (W3.o l o e h)
 have ki:=B2.ks b1 (.head _)
 have kl:=B2.ks b3 (.tail _ (.tail _ (.head _)))
 have kx:=B2.ks b4 (.tail _ (.tail _ (.tail _ (.head _))))
 refine zE (giD W4.w rfl rfl) (zE (giD hT4 rfl rfl) (zE (K7 (G4.nk (o4 _ _ ki.2.1 B2.i)) zJ (by rw[alF];exact Nat.succ_lt_succ (Nat.lt_trans z2 (by decide)))) (FY (es':=qJ d2.now (St.fr _) k4 b3 b4) rfl G4.new (G4.nk W4.w) rfl rfl rfl λU5 W5=>zI (zC ?_))))
 have o5:=λl o e h=>W5.o l o e (G4.nk (o4 l o e h))
 have hT5:=o5 ⟨4,p⟩ _ nofun (B2.k p hp)
 refine zE (giD hT5 rfl rfl) (Ha (es':=wH c p (true,(d2.st p).2)) hT5 rfl (alE rfl) (G8 e2) ?_)
 have F6:=((((F12.trans W3.f).trans W4.f).new).trans W5.f).Q6 (l:=⟨4,p⟩) (o':= .dict (wH c p (true,(d2.st p).2))) hT5 rfl
 refine h _ _ k4 b3 b4 ⟨W5.w,p4 (l:=St.fr _) (y8.o (U:=U4) G4) (W5.a.trans (alQ (λl=>some (zU.list l)) (List.map_append (f:=jA) (l₁:=d2.QI) (l₂:=[p])).symm)),p4 W4.kk (W5.o _ _ (k0s W4.kk).2.1 (G4.nk W4.k)),(zH λq=>kl.2.2 (alQ Loc.k q)).trans (o5 _ _ kl.2.1 B2.fl),(zH λq=>kx.2.2 (alQ Loc.k q)).trans (o5 _ _ kx.2.1 B2.ex),λl hl=> ?_,λq hq=> ?_,λa ha=> ?_,⟨?_,?_,B2.dx.2.2⟩,λl hl=> ?_,B.lv.fr F6 rfl⟩ F6
 ·rcases alC hl with rfl|hl
  ·exact k0s (y8.o (U:=U4) G4)
  rcases alC hl with rfl|hl
  ·exact k0s W4.kk
  rcases alC hl with rfl|hl
  ·exact kl
  exact alK hl▸kx
 ·exact⟨(zH λe=>(x4 (B2.x q hq).2).2 (alQ Loc.k e)).trans (o5 _ _ (x4 (B2.x q hq).2).1 (B2.x q hq).1),(B2.x q hq).2⟩
 ·by_cases e:a=p
  ·subst e
   rw[zP]
   show _=some (zU.dict (wH c a (@Bool.rec (λJ=>Bool×Bool) _ _ (Nat.beq a a))))
   rw[Nat.beq_refl]
  ·rw[zH λq=>e (alQ Loc.i q)]
   show _=some (zU.dict (wH c a (@Bool.rec (λJ=>Bool×Bool) _ _ (Nat.beq a p))))
   rw[alO λh=>e (alP h)]
   exact o5 ⟨4,a⟩ _ nofun (B2.k a ha)
 ·exact G4.new.ne (G4.nk (o4 _ _ kx.2.1 B2.ex))
 ·exactλe=>nomatch W4.z.symm.trans ((alQ U3.get e.symm).trans (W3.o _ _ kx.2.1 B2.ex))
 ·rcases alC hl with rfl|hl
  ·exact(B.lv.fr (((F12.trans W3.f).trans W4.f).new) rfl).new G4.new
  rcases alC hl with rfl|hl
  ·exact alO λq=>(B.lv.fr (F12.trans W3.f) rfl _ q).2 W4.z
  rcases alC hl with rfl|hl
  ·exact B2.fz _ (.tail _ (.tail _ (.head _)))
  exact alK hl▸B2.fz _ (.tail _ (.tail _ (.tail _ (.head _))))
end
section
variable{c:Kc}
theorem aZ{keys:List Ref}{r s:Ref}(h:s∈bS c keys r):s∈keys\/s=r:=(List.mem_append.mp h).imp (λh=>(alL h).1) alK
theorem x9{keys:List Ref}{r:Ref}(h:(keys.map (jE c)).Nodup):((bS c keys r).map (jE c)).Nodup:=by
 unfold bS
 rw[List.map_append,List.nodup_append]
 refine⟨jB h,List.nodup_cons.mpr ⟨nofun,List.nodup_nil⟩,λa ha b hb=> ?_⟩
 obtain⟨s,hs,rfl⟩:=List.mem_map.mp ha
 exact alK hb▸alH (alL hs).2
theorem oZ{keys:List Ref}{r:Ref}:(bS c keys r).length<=keys.length+1:=by
 unfold bS;rw[List.length_append];exact Nat.succ_le_succ (List.length_filter_le _ _)
theorem Inv.add{d:Dt}{k p:Nat}(I:Inv c d k)(hp:p<4)(hs:(d.st p).1=false):Inv c (NG c p d) (k+1) where
 Rh:=x9 (x9 I.Rh)
 Ro r hr:=(aZ hr).elim (λhr=>(aZ hr).elim (I.Ro r) λe=>e▸⟨hp,by show 0<2;decide⟩) λe=>e▸⟨hp,by show 1<2;decide⟩
 Rz r hr:=(aZ hr).elim (λhr=>(aZ hr).elim (λhr=>List.mem_append_left _ (I.Rz r hr)) λe=>e▸List.mem_append_right _ (.head _)) λe=>e▸List.mem_append_right _ (.head _)
 Ra:=List.nodup_append.mpr ⟨I.Ra,List.nodup_cons.mpr ⟨nofun,List.nodup_nil⟩,λa ha b hb e=>Bool.noConfusion (hs.symm.trans (I.Rv p (alK hb▸e▸ha)))⟩
 Rn q hq:=(List.mem_append.mp hq).elim (I.Rn q) λh=>alK h▸hp
 Rv q hq:=by
  show(@Bool.rec (λJ=>Bool×Bool) (d.st q) (true,(d.st q).2) (Nat.beq q p)).1=true
  cases e:Nat.beq q p with
  |true=>rfl
  |false=>exact(List.mem_append.mp hq).elim (I.Rv q) λh=>Bool.noConfusion (e.symm.trans (by rw[alK h,Nat.beq_refl]))
 RI:=I.RI
 RK:=I.RK
 RE:=I.RE
 RJ:=I.RJ
 R8:=alJ oZ (Nat.succ_le_succ (alJ oZ (Nat.succ_le_succ I.R8)))
 RC:=by show(d.QI++[p]).length<=_;rw[List.length_append];exact Nat.succ_le_succ I.RC
 RH:=Nat.le_succ_of_le I.RH
 RG:=Nat.le_succ_of_le I.RG
 R4:=Nat.le_succ_of_le I.R4
 xn:=I.xn
 wn:=I.wn
theorem BM{d:Dt}{k p:Nat}(I:Inv c d k)(hp:p<4):Inv c (uR c d p).2 (k+1):=by
 unfold uR
 cases e:(d.st p).1 with
 |true=>exact I.Ri
 |false=>
 have L1:=yF (key:=jE c (p,0)) I
 have jU1:=vD (key:=jE c (p,0)) I
 generalize jJ c d (jE c (p,0))=q1 at*
 obtain⟨o1,d1⟩:=q1
 cases o1 with
 |some s=>exact L1.2.1.Ri
 |none=>
 have L2:=yF (key:=jE c (p,1)) L1.2.1
 have jU2:=vD (key:=jE c (p,1)) L1.2.1
 show Inv c (@Option.rec Ref (λJ=>Bool×Dt) (false,NG c p (jJ c d1 (jE c (p,1))).2) (λJ=>(true,(jJ c d1 (jE c (p,1))).2)) (jJ c d1 (jE c (p,1))).1).2 (k+1)
 generalize jJ c d1 (jE c (p,1))=q2 at*
 obtain⟨o2,d2⟩:=q2
 cases o2 with
 |some s=>exact L2.2.1.Ri
 |none=>exact L2.2.1.add hp ((jU2.2 p).trans ((jU1.2 p).trans e))
end
section
variable{n:Nat}{K:V->St->Prop}
noncomputable def OI(P:Nat->Prop):Nat->Prop
 |0=>True
 |n+1=>OI P n/\P n
theorem Pi{P:Nat->Prop}(n:Nat)(h:OI P n)(m:Nat)(hm:m<n):P m:=by
 induction n with
 |zero=>exact(Nat.not_lt_zero _ hm).elim
 |succ n ih=>exact(Nat.lt_succ_iff_lt_or_eq.mp hm).elim (ih h.1) λe=>e▸h.2
theorem PG{m:Nat}(hm:m<24):(∀v D,sK [.int 2,.int (Int.ofNat m)] v D->K v D)->z9 P.j (orc P n) Gd [.int 2,.int (Int.ofNat m)] .Rg K:=
 Pi 24 (P:=λm=>(∀v D,sK [.int 2,.int (Int.ofNat m)] v D->K v D)->z9 P.j (orc P n) Gd [.int 2,.int (Int.ofNat m)] .Rg K) ⟨⟨⟨⟨⟨⟨⟨⟨⟨⟨⟨⟨⟨⟨⟨⟨⟨⟨⟨⟨⟨⟨⟨⟨trivial,
 λh=>h _ _ (.v6 130 0 (by decide) (by decide) _)⟩,
 λh=>h _ _ (.v6 131 1 (by decide) (by decide) _)⟩,
 λh=>h _ _ (.v6 132 2 (by decide) (by decide) _)⟩,
 λh=>h _ _ (.v6 133 3 (by decide) (by decide) _)⟩,
 λh=>h _ _ (.v6 134 4 (by decide) (by decide) _)⟩,
 λh=>h _ _ (.v6 135 5 (by decide) (by decide) _)⟩,
 λh=>h _ _ (.v6 136 6 (by decide) (by decide) _)⟩,
 λh=>h _ _ (.v6 137 7 (by decide) (by decide) _)⟩,
 λh=>h _ _ (.v6 138 8 (by decide) (by decide) _)⟩,
 λh=>h _ _ (.v6 139 9 (by decide) (by decide) _)⟩,
 λh=>h _ _ (.v6 140 10 (by decide) (by decide) _)⟩,
 λh=>h _ _ (.v6 141 11 (by decide) (by decide) _)⟩,
 λh=>h _ _ (.v6 142 12 (by decide) (by decide) _)⟩,
 λh=>h _ _ (.v6 143 13 (by decide) (by decide) _)⟩,
 λh=>h _ _ (.v6 144 14 (by decide) (by decide) _)⟩,
 λh=>h _ _ (.v6 145 15 (by decide) (by decide) _)⟩,
 λh=>h _ _ (.v6 146 16 (by decide) (by decide) _)⟩,
 λh=>h _ _ (.v6 147 17 (by decide) (by decide) _)⟩,
 λh=>h _ _ (.v6 148 18 (by decide) (by decide) _)⟩,
 λh=>h _ _ (.v6 149 19 (by decide) (by decide) _)⟩,
 λh=>h _ _ (.v6 150 20 (by decide) (by decide) _)⟩,
 λh=>h _ _ (.v6 151 21 (by decide) (by decide) _)⟩,
 λh=>h _ _ (.v6 130 22 (by decide) (by decide) _)⟩,
 λh=>h _ _ (.v6 131 23 (by decide) (by decide) _)⟩ m hm
theorem Qh{m:Nat}(hm:m<24):(∀v D,sK [.int 3,.int (Int.ofNat m)] v D->K v D)->z9 P.j (orc P n) Gd [.int 3,.int (Int.ofNat m)] .Rg K:=
 Pi 24 (P:=λm=>(∀v D,sK [.int 3,.int (Int.ofNat m)] v D->K v D)->z9 P.j (orc P n) Gd [.int 3,.int (Int.ofNat m)] .Rg K) ⟨⟨⟨⟨⟨⟨⟨⟨⟨⟨⟨⟨⟨⟨⟨⟨⟨⟨⟨⟨⟨⟨⟨⟨trivial,
 λh=>h _ _ (.QE 9 0 (by decide) _)⟩,
 λh=>h _ _ (.QE 10 1 (by decide) _)⟩,
 λh=>h _ _ (.QE 0 2 (by decide) _)⟩,
 λh=>h _ _ (.QE 12 3 (by decide) _)⟩,
 λh=>h _ _ (.QE 3 4 (by decide) _)⟩,
 λh=>h _ _ (.QE 30 5 (by decide) _)⟩,
 λh=>h _ _ (.QE 9 6 (by decide) _)⟩,
 λh=>h _ _ (.QE 10 7 (by decide) _)⟩,
 λh=>h _ _ (.QE 0 8 (by decide) _)⟩,
 λh=>h _ _ (.QE 12 9 (by decide) _)⟩,
 λh=>h _ _ (.QE 3 10 (by decide) _)⟩,
 λh=>h _ _ (.QE 30 11 (by decide) _)⟩,
 λh=>h _ _ (.QE 9 12 (by decide) _)⟩,
 λh=>h _ _ (.QE 10 13 (by decide) _)⟩,
 λh=>h _ _ (.QE 0 14 (by decide) _)⟩,
 λh=>h _ _ (.QE 12 15 (by decide) _)⟩,
 λh=>h _ _ (.QE 3 16 (by decide) _)⟩,
 λh=>h _ _ (.QE 30 17 (by decide) _)⟩,
 λh=>h _ _ (.QE 9 18 (by decide) _)⟩,
 λh=>h _ _ (.QE 10 19 (by decide) _)⟩,
 λh=>h _ _ (.QE 0 20 (by decide) _)⟩,
 λh=>h _ _ (.QE 12 21 (by decide) _)⟩,
 λh=>h _ _ (.QE 3 22 (by decide) _)⟩,
 λh=>h _ _ (.QE 30 23 (by decide) _)⟩ m hm
theorem HD{vs:List V}(h:AB vs)(hK:∀v D,sK vs v D->K v D):z9 P.j (orc P n) Gd vs .Rg K:=by
 refine yW h λw m hw hm e_4=> ?_
 subst e_4
 revert hK
 refine tW (P:=λw=>(∀v D,sK [.int (Int.ofNat w),.int (Int.ofNat m)] v D->K v D)->z9 P.j (orc P n) Gd [.int (Int.ofNat w),.int (Int.ofNat m)] .Rg K) ?_ ?_ ?_ ?_ hw
 ·exactλh=>h _ _ (.Rp _ _)
 ·exactλh=>h _ _ (.short _ _)
 ·exact PG hm
 ·exact Qh hm
end
section
variable{U:St}{n:Nat}
theorem H9{a b:zU}:(U.new a).Q6 U.fr b=U.new b:=pG rfl rfl λx=>by
 show @Bool.rec (λJ=>Option zU) (@Bool.rec (λJ=>Option zU) (U.get x) (some a) (x.R3 U.fr)) (some b) (x.R3 U.fr)= @Bool.rec (λJ=>Option zU) (U.get x) (some b) (x.R3 U.fr)
 cases x.R3 U.fr<;>rfl
theorem jD6{es es':List (V×V)}{k v:V}{F:St->Prop}{N:Prop}(ha:yD es k=true)(hz:Nat.blt es.length 1000=true)(he:uG es k v=es')(h:F (U.new (.dict es'))): @Option.rec St (λJ=>Prop) N F (setItem (.c U.fr) k v (U.new (.dict es))):=
 Ha zJ ha (alE hz) he (H9.symm▸h)
theorem ND{vs:List V}{K:V->St->Prop}(h:S95 vs U K):z9 P.j (orc P n) f95 vs U K:=by
 obtain⟨rfl,h⟩:=h
 refine jD6 (U:=U) rfl rfl rfl (jD6 rfl rfl rfl (jD6 rfl rfl rfl (jD6 rfl rfl rfl (jD6 rfl rfl rfl (jD6 rfl rfl rfl (jD6 rfl rfl rfl (jD6 rfl rfl rfl (jD6 rfl rfl rfl (h _)))))))))
variable{x:Loc}{bs:List Nat}
theorem lV(h:U.get x=some (.QA bs))(hz:Nat.blt bs.length 1000=true):iQ (.bi "len") [.c x] U=some (.int (bs.length:Int),U):=by
 show jV (U.get x) _ _ _=_
 rw[h];exact if_pos (alE hz)
theorem giB{k b:Nat}(h:U.get x=some (.QA bs))(hk:Nat.blt k 1000=true)(hl:bs[k]?=some b):getItem (.c x) (.int k) U=some (.int b):=by
 show jV (U.get x) _ _ _=_
 rw[h]
 exact(AT (f:=λk=>(bs[k]?).map wT) (alE hk)).trans (alQ (Option.map wT) hl)
theorem slB{lo hi:V}{r:V×St}(h:U.get x=some (.QA bs))(e:xD bs.length lo hi (λp q=>some (.c U.fr,U.new (.QA (cut bs p q))))=some r):cN (.c x) lo hi U=some r:=by
 show jV (U.get x) _ _ _=_
 rw[h];exact e
theorem DY{b:List Nat}(h:U.get x=some (.QA b))(e:(Nat.ble b.length 16&&b.all λb=>Nat.ble b 255)=true):ON [.c x] U=some b:=by
 show pur (jV (U.get x) no no some) _=_
 rw[h]
 show @Bool.rec (λJ=>Option (List Nat)) none (some b) _=_
 rw[e]
end
section
variable{U:St}{n:Nat}
theorem N1{vs:List V}{K:V->St->Prop}(h:S28 vs U K):z9 P.j (orc P (n+1)) f28 vs U K:=by
 cases h with
 |nil l e hl h=>subst e;exact zE (lV hl rfl) h
 |mk l bs l4 off pl e hp G hl h=>
  subst e
  cases hp with
  |Rp=>exact zE (lV hl rfl) (zE (giB hl rfl rfl) (zE (giB hl rfl rfl) (zE (lV hl rfl) (zE (slB hl rfl) (zE (DY zJ rfl) (zE (giB (G.nk hl) rfl rfl) (h _)))))))
  |short=>exact zE (lV hl rfl) (zE (giB hl rfl rfl) (zE (giB hl rfl rfl) (zE (lV hl rfl) (zE (slB hl rfl) (zE (DY zJ rfl) (zE (giB (G.nk hl) rfl rfl) (h _)))))))
  |QE b=>exact zE (lV hl rfl) (zE (giB hl rfl rfl) (zE (giB hl rfl rfl) (zE (lV hl rfl) (zE (slB (r:=(.c U.fr,U.new (.QA [0,0]))) hl rfl) (zE (DY zJ rfl) (zE (giB (G.nk hl) rfl rfl) (h _)))))))
theorem Mp{vs:List V}{K:V->St->Prop}(h:S56 vs U K):z9 P.j (orc P (n+3)) f56 vs U K:=by
 obtain⟨l,b,rfl,hl,h⟩:=h
 exact zE (lV hl rfl) (zE (giB hl rfl rfl) (zE (giB hl rfl rfl) (zE (lV hl rfl) h)))
end
section
variable{n:Nat}{U:St}
theorem j6{W:jY}{Φ:Orc}{n:Nat}{Y:Env}{e:IR}{t:Tg}{K:KF}(h:ev W Φ n Y e U (E9 (Q0 W Φ n t) Y K)):ex W Φ (n+1) (.Q0 t e) Y U K:=h
theorem qF{W:jY}{Φ:Orc}{n i a:Nat}{Y:Env}{v o:V}{K:KF}(hr:kP Y i=some o)(h: @Option.rec St (λJ=>Prop) False (Dd K Y) (setAttr o a v U)):E9 (Q0 W Φ (n+2) (.Qy (.v i) a)) Y K v U:=zE hr h
section
variable{Q:List (Nat×V)->St->Prop}{l:Loc}{C a i m:Nat}{W:jY}{Φ:Orc}{Y:Env}{e:IR}{D:St}{fs:List (Nat×V)}{r:List IS}{K:KF}(H:GY l C Q)(q:Q fs D)(hr:kP Y i=some (.c l))(hz:Nat.blt fs.length 900=true)
include H q hr hz
theorem stL{v:V}(he:∀K':V->St->Prop,K' v D->ev W Φ (m+2) Y e D K')(h:∀D',Q (tI fs a v) D'->exs (ex W Φ (m+3)) r Y D' K):exs (ex W Φ (m+3)) (.Q0 (.Qy (.v i) a) e::r) Y D K:=
 zC (j6 (he _ (qF hr (zE (sa (H.at_ q) hz) (jZ (h _ (H.set q)))))))
theorem stN(he:∀K':V->St->Prop,(∀v D',Q fs D'->K' v D')->ev W Φ (m+2) Y e D K')(h:∀v D',Q (tI fs a v) D'->exs (ex W Φ (m+3)) r Y D' K):exs (ex W Φ (m+3)) (.Q0 (.Qy (.v i) a) e::r) Y D K:=
 zC (j6 (he _ λv D' q'=>qF hr (zE (sa (H.at_ q') hz) (jZ (h v _ (H.set q'))))))
end
noncomputable abbrev JF(l:Loc)(bs:List Nat)(kind:Int):Env:=[some (.c l),some (.bytes bs),some (.int kind),some (.bytes []),none,none,none,none,none,none,none,none]
theorem Jn{vs:List V}{K:V->St->Prop}(h:MH vs U K):wL P (orc P (n+1)) 112 vs U K:=by
 obtain⟨bs,kind,rfl,hz,G,h⟩:=h
 show z9 P.j (orc P (n+1)) O3 [.c U.fr,.bytes bs,.int kind,.bytes []] (U.new (.Qz 112 [])) (tB U.fr K)
 have A:At U U.fr (U.new (.Qz 112 [])) (.Qz 112 []):=At.start G
 have ne:(U.new (.Qz 112 [])).fr≠U.fr:=λq=>Nat.succ_ne_self _ (alQ Loc.i q)
 have B:Pk U (((U.new (.Qz 112 [])).new (.QA bs)).Q6 U.fr (.Qz 112 [(15,.c (U.new (.Qz 112 [])).fr)])) U.fr (U.new (.Qz 112 [])).fr [(15,.c (U.new (.Qz 112 [])).fr)] bs:=
  ⟨A.new.set,⟨A.new.set.f,G.d _ (Nat.le_succ _),(zH ne).trans zJ,G.o⟩,ne⟩
 refine z8 (Y:=JF U.fr bs kind) rfl (zC (j6 (zE (if_pos hz) (qF rfl (zE (sa A.new.g rfl) (jZ ?_))))))
 exact stN Pk.Q9 B rfl rfl (λJ h=>h _ _ (Pk.new B)) λx J q=>stL Pk.Q9 q rfl rfl (λJ h=>h) λJ q=>stL Pk.Q9 q rfl rfl (λJ h=>h) λJ q=>stL Pk.Q9 q rfl rfl (λJ h=>h) λJ q=>
  stL Pk.Q9 q rfl rfl (λJ h=>h) λJ q=>stN Pk.Q9 q rfl rfl (λJ h=>S95.mk rfl λmd=>h _ _ (Pk.new q)) λy J q=>h _ _ _ _ _ q
noncomputable abbrev oH(l:Loc)(v:Option V):Env:=[some (.c l),v,none,none,none,none,none,none,none,none]
theorem free{F:IS->BdF}{s:IS}{r:List IS}{Y:Env}{U:St}{K:KF}(h:∀K':KF,K' .next Y U->F s Y U K')(k:exs F r Y U K):exs F (s::r) Y U K:=zC (h _ (zI k))
theorem dP{W:jY}{Φ:Orc}{m:Nat}{c:IR}{a b:List IS}{Y:Env}{U U':St}{K:KF}(h:∀K':V->St->Prop,K' (.bool true) U'->ev W Φ m Y c U K')(k:exs (ex W Φ m) a Y U' K):ex W Φ (m+1) (.QC c a b) Y U K:=h _ k
theorem sW{W:jY}{Φ:Orc}{m:Nat}{c:IR}{a b:List IS}{Y:Env}{U U':St}{K:KF}(h:∀K':V->St->Prop,K' (.bool false) U'->ev W Φ m Y c U K')(k:exs (ex W Φ m) b Y U' K):ex W Φ (m+1) (.QC c a b) Y U K:=h _ k
theorem xM{U0:St}{lp ld:Loc}{x y:V}{kind l4 hd pl:Int}{bs:List Nat}{D:St}{K:KF}(hz:Nat.blt bs.length 1000=true)(hb:(decide (pl=0)&&decide (hd<=(bs.length:Int)))=true)(q:Pk U0 D lp ld (pkX ld x y kind (-1) (-1) 0) bs)
  (h:∀D,Pk U0 D lp ld (pkX ld x y kind l4 hd pl) bs->K .next (oH lp (some (.Q1 [.int l4,.int hd,.int pl,.bool false]))) D):exs (ex P.j (orc P n) 64) (Ht.drop 5) (oH lp (some (.Q1 [.int l4,.int hd,.int pl,.bool false]))) D K:=by
 refine xA (alA hb) λhb1 hb2=> ?_
 have e:=alH hb1
 subst e
 exact free (λJ h=>h) (stL Pk.Q9 q rfl rfl (λJ h=>h) λJ q=>stL Pk.Q9 q rfl rfl (λJ h=>h) λJ q=>zC (dP (λJ h=>zE (ga q.p.g rfl) (zE (lV q.d.g hz) (iG hb2 h))) (stL Pk.Q9 q rfl rfl (λJ h=>h) λJ q=>h _ q)))
theorem Hp{vs:List V}{K:V->St->Prop}(h:LW vs U K):z9 P.j (orc P (n+4)) Nh vs U K:=by
 obtain⟨U0,lp,ld,x,y,kind,bs,l4,off,pl,rfl,hp,q,h⟩:=h
 refine z8 (Y:=oH lp none) rfl (stL Pk.Q9 q rfl rfl (λJ h=>h) λJ q=>stL Pk.Q9 q rfl rfl (λJ h=>h) λJ q=>stL Pk.Q9 q rfl rfl (λJ h=>h) λD q=>zC (j6 (jC (Y':=oH lp (some .none)) rfl rfl (zC ?_))))
 cases hp with
 |Rp=>exact zE (ga q.p.g rfl) (zE (ga q.p.g rfl) (S28.mk ld _ _ _ _ rfl .Rp q.p.f.Q3 q.d.g λo=>jC rfl rfl (zT (zI (free (λJ h=>h)
   (stL Pk.Q9 (Pk.new q) rfl rfl (λJ h=>h) λJ q=>stL Pk.Q9 q rfl rfl (λJ h=>h) λJ q=>free (λJ h=>h) (zT (h _ q))))))))
 |short=>exact zE (ga q.p.g rfl) (zE (ga q.p.g rfl) (S28.mk ld _ _ _ _ rfl .short q.p.f.Q3 q.d.g λo=>jC rfl rfl (zT (zI (xM rfl rfl (Pk.new q) h)))))
 |QE b=>exact zE (ga q.p.g rfl) (zE (ga q.p.g rfl) (S28.mk ld _ _ _ _ rfl (.QE b) q.p.f.Q3 q.d.g λo=>jC rfl rfl (zT (zI (xM rfl rfl (Pk.new q) h)))))
 |v6 b=>exact zE (ga q.p.g rfl) (zE (ga q.p.g rfl) (zE (ga q.p.g rfl) (S56.mk ld b rfl q.d.g (jC rfl rfl (zT (zI (zT (zI (xM rfl rfl q h)))))))))
noncomputable abbrev HL(bs:List Nat)(kind:Int):Env:=[some (.bytes bs),some (.int kind),some (.bytes []),none,none,none,none,none,none,none,none,none]
theorem J3{vs:List V}{K:V->St->Prop}(h:KD vs U K):z9 P.j (orc P (n+5)) MJ vs U K:=by
 obtain⟨kind,bs,l4,off,pl,r,rfl,er,hp,G,h⟩:=h
 have hz:bs.length<1000:=by cases hp<;>exact alE rfl
 have main:exs (ex P.j (orc P (n+5)) 64) JM (HL bs kind) U (Be K):=
  zC (MH.mk bs kind rfl hz G λD lp ld x y q=>LW.mk U lp ld x y kind bs l4 off pl rfl hp q λD q=>h _ _ _ _ _ q)
 rcases er with⟨rfl,rfl⟩|rfl
 ·exact z8 rfl main
 ·exact z8 rfl main
noncomputable abbrev IY(l:Loc)(pk w:V)(now:Int):Env:=[some (.c l),some pk,some w,some (.int now),some (.str 70),none,none,none,none,none,none,none,none]
set_option maxHeartbeats 1000000 in
theorem Ji{vs:List V}{K:V->St->Prop}(h:KH vs U K):wL P (orc P n) 738 vs U K:=by
 obtain⟨pk,w,now,rfl,G,h⟩:=h
 show z9 P.j (orc P n) OD [.c U.fr,pk,w,.int now] (U.new (.Qz 738 [])) (tB U.fr K)
 have A:At U U.fr (U.new (.Qz 738 [])) (.Qz 738 []):=At.start G
 have N:∀{fs D} {K':V->St->Prop} {o:zU},At U U.fr D (.Qz 738 fs)->(∀v D',At U U.fr D' (.Qz 738 fs)->K' v D')->K' (.c D.fr) (D.new o):=λq h=>h _ _ q.new
 refine z8 (Y:=IY U.fr pk w now) rfl ?_
 refine stL At.Q9 A rfl rfl (λJ h=>h) λD (q:At U U.fr D (.Qz 738 [(28,pk)]))=>stL At.Q9 q rfl rfl (λJ h=>h) λD q=>stL At.Q9 q rfl rfl (λJ h=>h) λD q=> ?_
 refine stL At.Q9 q rfl rfl (λJ h=>h) λD (q:At U U.fr D (.Qz 738 [(28,pk),(29,.int now),(54,.str 70),(30,.none)]))=>stL At.Q9 q rfl rfl (λJ h=>h) λD q=>stL At.Q9 q rfl rfl (λJ h=>h) λD q=> ?_
 refine stL At.Q9 q rfl rfl (λJ h=>h) λD (q:At U U.fr D (.Qz 738 [(28,pk),(29,.int now),(54,.str 70),(30,.none),(31,.int 1),(32,.int 0),(21,.none)]))=>stN At.Q9 q rfl rfl (λJ h=>N q h) λa1 D q=>stN At.Q9 q rfl rfl (λJ h=>N q h) λa2 D q=> ?_
 refine stL At.Q9 q rfl rfl (λJ h=>h) λD (q:At U U.fr D (.Qz 738 [(28,pk),(29,.int now),(54,.str 70),(30,.none),(31,.int 1),(32,.int 0),(21,.none),(55,a1),(56,a2),(57,w)]))=>stN At.Q9 q rfl rfl (λJ h=>N q h) λa3 D q=>stN At.Q9 q rfl rfl (λJ h=>N q h) λa4 D q=> ?_
 refine stN At.Q9 q rfl rfl (λJ h=>N q h) λa5 D (q:At U U.fr D (.Qz 738 [(28,pk),(29,.int now),(54,.str 70),(30,.none),(31,.int 1),(32,.int 0),(21,.none),(55,a1),(56,a2),(57,w),(58,a3),(59,a4),(60,a5)]))=>stN At.Q9 q rfl rfl (λJ h=>N q h) λa6 D q=>stL At.Q9 q rfl rfl (λJ h=>h) λD q=> ?_
 refine stN At.Q9 q rfl rfl (λJ h=>N q h) λa7 D (q:At U U.fr D (.Qz 738 [(28,pk),(29,.int now),(54,.str 70),(30,.none),(31,.int 1),(32,.int 0),(21,.none),(55,a1),(56,a2),(57,w),(58,a3),(59,a4),(60,a5),(61,a6),(62,.str 63),(64,a7)]))=>stN At.Q9 q rfl rfl (λJ h=>N q h) λa8 D q=>stL At.Q9 q rfl rfl (λJ h=>h) λD q=> ?_
 refine stN At.Q9 q rfl rfl (λJ h=>N q h) λa9 D (q:At U U.fr D (.Qz 738 [(28,pk),(29,.int now),(54,.str 70),(30,.none),(31,.int 1),(32,.int 0),(21,.none),(55,a1),(56,a2),(57,w),(58,a3),(59,a4),(60,a5),(61,a6),(62,.str 63),(64,a7),(65,a8),(66,.none),(67,a9)]))=> ?_
 exact h _ _ [(55,a1),(56,a2),(57,w),(58,a3),(59,a4),(60,a5),(61,a6),(62,.str 63),(64,a7),(65,a8),(66,.none),(67,a9)] rfl q
theorem Bs{D:St}(G:y8 U)(hd:∀n,D.next<=n->D.get ⟨10,n⟩=none):Fr tn U (EL U D):=by
 refine⟨rfl,Nat.le_add_right _ _,λl o J e=> ?_,λn hn=> ?_,G.o⟩
 ·show @Bool.rec (λJ=>Option zU) (U.get l) _ (Nat.beq l.k U.kd&&Nat.ble U.next l.i)=_
  cases q:Nat.beq l.k U.kd&&Nat.ble U.next l.i with
  |false=>exact e
  |true=>
   have q:=alA q
   have z:l=⟨U.kd,l.i⟩:=alQ (Loc.mk · l.i) (alP q.1)
   exact nomatch (G.d l.i (alE q.2)).symm.trans ((alQ U.get z).symm.trans e)
 ·show @Bool.rec (λJ=>Option zU) (U.get ⟨U.kd,n⟩) ((D.get ⟨10,n-U.next⟩).map _) (Nat.beq U.kd U.kd&&Nat.ble U.next n)=_
  rw[hd _ (Nat.le_sub_of_add_le (Nat.add_comm _ _▸hn)),G.d n (alJ (Nat.le_add_right _ _) hn)]
  cases Nat.beq U.kd U.kd&&Nat.ble U.next n<;>rfl
theorem FO{f:EvF}{i:IR}{K:V->St->Prop}{k:Nat}{l:List V}{v:V}(hi:∀K':V->St->Prop,K' (.int (Int.ofNat k)) U->f i U K')(hk:Nat.blt k 1000=true)(hl:l[k]?=some v)(h:K v U):OJ f i K (.Q1 l) U:=hi _ (zE (giT (alE hk) hl) h)
noncomputable abbrev xB(p:Nat)(now:Int)(v3 v4:Option V):Env:=[some (.c ⟨1,0⟩),some (.c ⟨2,p⟩),some (.int now),v3,v4,none,none,none,none,none,none,none,none]
theorem JR{vs:List V}{K:V->St->Prop}(h:K5 vs U K):z9 P.j (orc P (n+6)) Nf vs U K:=by
 obtain⟨p,now,rfl,G,h⟩:=h
 refine z8 (Y:=xB p now none none) rfl (zC (CS.mk G.o ⟨1,0,by decide,by decide,rfl⟩ λv D r hd=> ?_))
 have F:=Bs G hd
 generalize EL U D=U1 at F ⊢
 cases r
 refine FO (k:=0) (l:=[.bytes (v4B 22 0 17 [0,7]),.int 2048,.int 1]) (v:= .bytes (v4B 22 0 17 [0,7])) (λJ h=>h) rfl rfl (jC (Y':=xB p now (some (.bytes (v4B 22 0 17 [0,7]))) none) rfl rfl (zC (KD.mk 2048 _ 17 20 0 [] rfl (.inl ⟨rfl,rfl⟩) .short F.Q3 λD1 lp ld x y q=> ?_)))
 refine KH.mk (.c lp) (.c D1.fr) now rfl q.p.f.Q3.new λD2 l r hr A=> ?_
 have A:=A.base (F.trans q.p.f).new
 exact jC (Y':=xB p now (some (.bytes (v4B 22 0 17 [0,7]))) (some (.c l))) rfl rfl (stL At.Q9 A rfl hr (λJ h=>h) λD3 A=>stL At.Q9 A rfl hr (λJ h=>h) λD3 A=>h _ _ _ _ hr A)
end
section
variable{n:Nat}{U:St}
theorem OH{P:Nat->Prop}(h1:P 9)(h2:P 10)(h3:P 12)(h4:P 3)(h5:P 30){b:Nat}(h:b∈[9,10,12,3,30]):P b:=by
 rcases alC h with rfl|h
 ·exact h1
 rcases alC h with rfl|h
 ·exact h2
 rcases alC h with rfl|h
 ·exact h3
 rcases alC h with rfl|h
 ·exact h4
 rcases alC h with rfl|h
 ·exact h5
 exact nomatch h
theorem Ja{vs:List V}{K:V->St->Prop}(h:Ew vs U K):z9 P.j (orc P n) KA vs U K:=by
 cases h with
 |RL b e h hK=>subst e;exact OH (P:=λb=>z9 P.j (orc P n) KA [.int 2,.int b] U K) hK hK hK hK hK h
 |zero e hK=>subst e;exact hK
 |RM b e h hK=>
  subst e
  have e1:decide (V.int b=V.int 128)=false:=dnI λq=>by have:b=128:=Int.ofNat.inj q;omega
  have e2:decide (V.int b=V.int 129)=false:=dnI λq=>by have:b=129:=Int.ofNat.inj q;omega
  exact rV (b:=decide (V.int b=V.int 128)) e1 (rV (b:=decide (V.int b=V.int 129)) e2 hK)
noncomputable abbrev Hs(l:Loc)(a b c:V):Env:=[some (.c l),some a,some b,some c,none,none,none,none,none,none,none,none]
theorem JN{vs:List V}{K:V->St->Prop}(h:HA vs U K):z9 P.j (orc P n) Mq vs U K:=by
 obtain⟨U0,l,pk,tk,st,rp,tk',st',rp',now,r,rfl,hr,A,h⟩:=h
 exact z8 (Y:=Hs l tk' st' rp') rfl (stL At.Q9 A rfl hr (λJ h=>h) λJ A=>stL At.Q9 A rfl hr (λJ h=>h) λJ A=>stL At.Q9 A rfl hr (λJ h=>h) λJ A=>zT (h _ A))
noncomputable abbrev OY(l:Loc)(a b c d:V):Env:=[some (.c l),some a,some b,some c,some d,none,none,none,none,none,none,none,none]
theorem Ic{vs:List V}{K:V->St->Prop}(h:KQ vs U K):wL P (orc P n) 218 vs U K:=by
 obtain⟨m,a,b,z,rfl,G,h⟩:=h
 show z9 P.j (orc P n) OX [.c U.fr,m,a,b,z] (U.new (.Qz 218 [])) (tB U.fr K)
 have A:At U U.fr (U.new (.Qz 218 [])) (.Qz 218 []):=At.start G
 refine z8 (Y:=OY U.fr m a b z) rfl ?_
 refine stL At.Q9 A rfl rfl (λJ h=>h) λD A=>stL At.Q9 A rfl rfl (λJ h=>h) λD A=>stL At.Q9 A rfl rfl (λJ h=>h) λD A=>stL At.Q9 A rfl rfl (λJ h=>h) λD (A:At U U.fr D (.Qz 218 [(20,m),(17,a),(16,b),(18,z)]))=> ?_
 refine stL At.Q9 A rfl rfl (λJ h=>h) λD A=>stL At.Q9 A rfl rfl (λJ h=>h) λD A=>stL At.Q9 A rfl rfl (λJ h=>h) λD A=>stL At.Q9 A rfl rfl (λJ h=>h) λD (A:At U U.fr D (.Qz 218 [(20,m),(17,a),(16,b),(18,z),(26,.int 0),(27,.int 0),(2,.int 0),(25,.int 0)]))=> ?_
 exact stL At.Q9 A rfl rfl (λJ h=>h) λD A=>stL At.Q9 A rfl rfl (λJ h=>h) λD A=>stL At.Q9 A rfl rfl (λJ h=>h) λD A=>h D U.fr A
theorem HK{vs:List V}{K:V->St->Prop}(h:KM vs U K):wL P (orc P n) 420 vs U K:=by
 obtain⟨x,rfl,G,h⟩:=h
 show z9 P.j (orc P n) Pd [.c U.fr,jA x.p,t5V x.t,.int x.z,.int x.u] (U.new (.Qz 420 [])) (tB U.fr K)
 have A:At U U.fr (U.new (.Qz 420 [])) (.Qz 420 []):=At.start G
 exact z8 (Y:=OY U.fr (jA x.p) (t5V x.t) (.int x.z) (.int x.u)) rfl (stL At.Q9 A rfl rfl (λJ h=>h) λD A=>stL At.Q9 A rfl rfl (λJ h=>h) λD A=>stL At.Q9 A rfl rfl (λJ h=>h) λD A=>stL At.Q9 A rfl rfl (λJ h=>h) λD A=>h D U.fr A)
end
section
variable{n:Nat}{U:St}
theorem sh8(b:Nat):Int.fdiv ((b:Int)*256+0) (2 ^(8:Int).toNat)=b:=by
 show Int.fdiv ((b:Int)*256+0) 256=b
 rw[Int.fdiv_eq_ediv_of_nonneg _ (by decide),Int.add_zero,Int.mul_ediv_cancel _ (by decide)]
set_option maxHeartbeats 1000000 in
theorem HM{vs:List V}{K:V->St->Prop}(h:HP vs U K):z9 P.j (orc P (n+2)) NA vs U K:=by
 cases h with
 |RL b s d e h hK=>
  subst e
  refine Ew.RL b ?_ h hK
  exact alQ (λi=>[V.int 2,V.int i]) (sh8 b)
 |zero s d e hK=>subst e;exact Ew.zero rfl (hK _)
 |RM b s d e h hK=>
  subst e
  refine Ew.RM b ?_ h hK
  exact alQ (λi=>[V.int 10,V.int i]) (sh8 b)
theorem Gl{b:Nat}(h:b∈[9,10,0,12,3,30]):b=0\/b∈[9,10,12,3,30]:=by
 rcases alC h with rfl|h
 ·exact .inr (by decide)
 rcases alC h with rfl|h
 ·exact .inr (by decide)
 rcases alC h with rfl|h
 ·exact .inl rfl
 exact .inr (.tail _ (.tail _ h))
theorem Jw{vs:List V}{K:V->St->Prop}(h:Ci vs U K):z9 P.j (orc P n) LU vs U K:=by
 obtain⟨lp,ld,x,y,kind,l4,off,pl,fam,rfl,hl,hf,h⟩:=h
 rcases hf with⟨rfl,rfl⟩|⟨rfl,rfl⟩
 ·exact zE (ga hl rfl) h
 ·exact zE (ga hl rfl) (zE (ga hl rfl) h)
set_option maxHeartbeats 1000000 in
theorem IL{vs:List V}{K:V->St->Prop}(h:H7 vs U K):z9 P.j (orc P (n+1)) MY vs U K:=by
 cases h with
 |short ld e hd h=>subst e;exact zE (lV hd rfl) h
 |QE ld b e hb G hd h=>
  subst e
  refine zE (lV hd rfl) (zE (giB hd rfl rfl) ?_)
  rcases Gl hb with rfl|hb
  ·exact Ew.zero rfl (zE (slB (r:=(.c U.fr,U.new (.QA [0,0]))) hd rfl) (zE (DY zJ rfl) (zE (giB (G.nk hd) rfl rfl) (h _ ((Fr.refl G).new)))))
  ·exact Ew.RL b rfl hb (zE (giB hd rfl rfl) (h _ (Fr.refl G)))
 |v6 ld b e hb hd h=>
  subst e
  exact zE (lV hd rfl) (zE (giB hd rfl rfl) (Ew.RM b rfl hb (zE (giB hd rfl rfl) h)))
set_option maxHeartbeats 1000000 in
theorem JJ{vs:List V}{K:V->St->Prop}(h:K0 vs U K):z9 P.j (orc P (n+2)) LZ vs U K:=by
 cases h with
 |short ld e hd h=>subst e;exact H7.short ld rfl hd h
 |QE ld b e hb G hd h=>
  subst e
  refine H7.QE ld b rfl hb G hd λD F=> ?_
  have hd1:=F.get _ _ rfl hd
  have hd2:=F.Q3.nk (a:= .QA [10,0,0,1]) hd1
  exact zE (slB (r:=(.c D.fr,D.new (.QA [10,0,0,1]))) hd1 rfl) (zE (DY zJ rfl) (zE (slB (r:=(.c (D.new (.QA [10,0,0,1])).fr,(D.new (.QA [10,0,0,1])).new (.QA [10,0,0,4]))) hd2 rfl) (zE (DY zJ rfl) (h _ _ _ F.new.new))))
 |v6 ld b e hb G hd h=>
  subst e
  refine H7.v6 ld b rfl hb hd ?_
  have hd2:=G.nk (a:= .QA (List.replicate 16 254)) hd
  exact zE (slB (r:=(.c U.fr,U.new (.QA (List.replicate 16 254)))) hd rfl) (zE (DY zJ rfl) (zE (slB (r:=(.c (U.new (.QA (List.replicate 16 254))).fr,(U.new (.QA (List.replicate 16 254))).new (.QA (List.replicate 16 253)))) hd2 rfl) (zE (DY zJ rfl) (h _ _ _ (Fr.refl G).new.new))))
theorem Hf{vs:List V}{K:V->St->Prop}(h:GX vs U K):z9 P.j (orc P (n+4)) ME vs U K:=by
 cases h with
 |Rp lp ld x y e hl h=>subst e;exact Ci.mk lp ld x y _ _ _ _ 2 rfl hl (.inl ⟨rfl,rfl⟩) (zE (ga hl rfl) h)
 |short lp ld x y e hl hd h=>subst e;exact Ci.mk lp ld x y _ _ _ _ 2 rfl hl (.inl ⟨rfl,rfl⟩) (zE (ga hl rfl) (zE (ga hl rfl) (zE (ga hl rfl) (zE (ga hl rfl) (K0.short ld rfl hd h)))))
 |QE lp ld x y b e hb G hl hd h=>subst e;exact Ci.mk lp ld x y _ _ _ _ 2 rfl hl (.inl ⟨rfl,rfl⟩) (zE (ga hl rfl) (zE (ga hl rfl) (zE (ga hl rfl) (zE (ga hl rfl) (K0.QE ld b rfl hb G hd h)))))
 |v6 lp ld x y b e hb G hl hd h=>subst e;exact Ci.mk lp ld x y _ _ _ _ 10 rfl hl (.inr ⟨rfl,rfl⟩) (zE (ga hl rfl) (zE (ga hl rfl) (zE (ga hl rfl) (zE (ga hl rfl) (K0.v6 ld b rfl hb G hd h)))))
end
section
variable{n:Nat}{U:St}
theorem vT{b b':Bool}{K:V->St->Prop}(e:b=b')(h:K (.bool b') U):K (.bool b) U:=e▸h
theorem u5{W:jY}{Φ:Orc}{m:Nat}{c:IR}{a b:List IS}{Y:Env}{U U':St}{K:KF}{B:Bool}(h:∀K':V->St->Prop,K' (.bool B) U'->ev W Φ m Y c U K')(k1:B=true->exs (ex W Φ m) a Y U' K)(k2:B=false->exs (ex W Φ m) b Y U' K):ex W Φ (m+1) (.QC c a b) Y U K:=by
 cases B with
 |true=>exact h _ (k1 rfl)
 |false=>exact h _ (k2 rfl)
theorem uE{W:jY}{Φ:Orc}{m i:Nat}{e:IR}{v:V}{Y Y':Env}{U U':St}{r:List IS}{K:KF}(he:∀K':V->St->Prop,K' v U'->ev W Φ (m+1) Y e U K')(hb:Nat.blt i Y.length=true)(hr:Y.set i (some v)=Y')(k:exs (ex W Φ (m+2)) r Y' U' K):exs (ex W Φ (m+2)) (.Q0 (.v i) e::r) Y U K:=zC (j6 (he _ (jC hb hr k)))
theorem Ju{vs:List V}{K:V->St->Prop}(h:Mm vs U K):z9 P.j (orc P (n+2)) Ol vs U K:=by
 obtain⟨l,rfl,hl,h⟩:=h
 exact S28.nil l rfl hl h
theorem Jd{vs:List V}{K:V->St->Prop}(h:LJ vs U K):z9 P.j (orc P (n+3)) Na vs U K:=by
 obtain⟨lp,ld,x,y,z,b,now,rfl,G,hl,hd,h⟩:=h
 exact Ci.mk lp ld x y _ _ _ _ 2 rfl hl (.inl ⟨rfl,rfl⟩) (zE (ga hl rfl) (zE (ga hl rfl) (zE (slB (r:=(.c U.fr,U.new (.QA []))) hd rfl) (Mm.mk U.fr rfl zJ (h _ (Fr.refl G).new)))))
theorem six{P:Nat->Prop}(h1:P 9)(h2:P 10)(h0:P 0)(h3:P 12)(h4:P 3)(h5:P 30){b:Nat}(h:b∈[9,10,0,12,3,30]):P b:=by
 rcases Gl h with rfl|h
 ·exact h0
 ·exact OH h1 h2 h3 h4 h5 h
theorem Qn{b:Nat}(h:130<=b):([V.int 1,.int 2,.int 3,.int 4].any λx=>decide (x=V.int b))=false:=by
 have e:∀k:Nat,k<130->decide (V.int (k:Int)=V.int b)=false:=λk hk=>dnI λq=>by have:k=b:=Int.ofNat.inj q;omega
 show(decide (V.int (1:Nat)=V.int b)||(decide (V.int (2:Nat)=V.int b)||(decide (V.int (3:Nat)=V.int b)||(decide (V.int (4:Nat)=V.int b)||false))))=false
 rw[e 1 (by decide),e 2 (by decide),e 3 (by decide),e 4 (by decide)];rfl
set_option maxHeartbeats 1000000 in
theorem Kv{vs:List V}{K:V->St->Prop}(h:H8 vs U K):z9 P.j (orc P (n+2)) Ls vs U K:=by
 cases h with
 |QE lp ld x y b e hb hl hd h=>
  subst e
  refine Ci.mk lp ld x y _ _ _ _ 2 rfl hl (.inl ⟨rfl,rfl⟩) (zE (ga hl rfl) (zE (ga hl rfl) (zE (ga hl rfl) (zE (ga hl rfl) (zE (lV hd rfl) (zE (ga hl rfl) (zE (ga hl rfl) (zE (giB hd rfl rfl) (vT (b':=GZ b) ?_ h)))))))))
  exact six (P:=λb=>([V.int 3,.int 4,.int 5,.int 11,.int 12].any λx=>decide (x=V.int b))=GZ b) rfl rfl rfl rfl rfl rfl hb
 |v6 lp ld x y b e hb hl hd h=>
  subst e
  exact Ci.mk lp ld x y _ _ _ _ 10 rfl hl (.inr ⟨rfl,rfl⟩) (zE (ga hl rfl) (zE (ga hl rfl) (zE (ga hl rfl) (zE (ga hl rfl) (zE (lV hd rfl) (zE (ga hl rfl) (zE (ga hl rfl) (zE (giB hd rfl rfl) (vT (Qn hb) h)))))))))
end
section
variable{n:Nat}{U:St}
noncomputable abbrev d4(l:Loc)(z:Int)(v:Option V):Env:=[some (.c ⟨1,0⟩),some (.c l),some (.int z),v,none,none,none,none,none,none,none,none]
set_option maxHeartbeats 1000000 in
theorem Ka{vs:List V}{K:V->St->Prop}(h:JL vs U K):z9 P.j (orc P (n+4)) Nu vs U K:=by
 cases h with
 |err U0 l lp ld x y tk st rp b now z r e hr hb he A hl hd h=>
  subst e
  refine z8 (Y:=d4 l z none) rfl (zC (sW (U':=U) (λJ h=>zE (ga A.g rfl) (H8.QE lp ld x y b rfl hb hl hd (vT he h))) (zT (zI (zC (zE (ga A.g rfl) (zE (ga A.g rfl) (LJ.mk lp ld x y (.int z) b now rfl A.f.Q3 hl hd λD F=> ?_))))))))
  refine jC (Y':=d4 l z (some .none)) rfl rfl (zC (dP (U':=D) (λJ h=>h) ?_))
  exact stL At.Q9 (A.go F) rfl hr (λJ h=>h) λJ A=>stL At.Q9 A rfl hr (λJ h=>h) λJ A=>stL At.Q9 A rfl hr (λJ h=>h) λJ A=>zT (h _ A)
 |RL l lp ld x y tk st rp b now z r e hb he hs hl hd h=>
  subst e
  exact z8 (Y:=d4 l z none) rfl (zC (zE (ga hs rfl) (H8.QE lp ld x y b rfl hb hl hd (vT he h))))
 |RM l lp ld x y tk st rp b now z r e hb hs hl hd h=>
  subst e
  exact z8 (Y:=d4 l z none) rfl (zC (zE (ga hs rfl) (H8.v6 lp ld x y b rfl hb hl hd h)))
theorem Qk:∀i:Nat,i<22->([V.int 130,.int 131,.int 132,.int 133,.int 134,.int 135,.int 136,.int 143].any λx=>decide (x=V.int ((130+i:Nat):Int)))=nD (130+i):=by decide+kernel
theorem NC{b:Nat}(h:130<=b)(h':b<152):([V.int 130,.int 131,.int 132,.int 133,.int 134,.int 135,.int 136,.int 143].any λx=>decide (x=V.int b))=nD b:=by
 have:=Qk (b-130) (Nat.sub_lt_left_of_lt_add h h')
 rwa [Nat.add_sub_cancel' h] at this
set_option maxHeartbeats 1000000 in
theorem Im{vs:List V}{K:V->St->Prop}(h:Ni vs U K):z9 P.j (orc P (n+5)) LD vs U K:=by
 obtain⟨U0,l,lp,ld,x,y,tk,st,rp,b,now,z,r,rfl,hr,hb,hb',A,hl,hd,h1,h2⟩:=h
 refine z8 (Y:=d4 l z none) rfl (zC (zE (ga A.g rfl) (jC (Y':=d4 l z (some (.c lp))) rfl rfl (zC (dP (U':=U) (λJ h=>Ci.mk lp ld x y _ _ _ _ 10 rfl hl (.inr ⟨rfl,rfl⟩) (zE (ga hl rfl) (zE (ga hl rfl) (zE (lV hd rfl) h)))) (zC ?_))))))
 refine u5 (B:=nD b) (U':=U) (λJ h=>zE (ga hl rfl) (zE (ga hl rfl) (zE (giB hd rfl rfl) (vT (NC hb hb') h)))) (λe=> ?_) λe=> ?_
 ·exact stL At.Q9 A rfl hr (λJ h=>h) λJ A=>stL At.Q9 A rfl hr (λJ h=>h) λJ A=>stL At.Q9 A rfl hr (λJ h=>h) λJ A=>h1 e _ A
 ·exact JL.RM l lp ld x y tk st rp b now z r rfl hb A.g hl hd (h2 e)
theorem Jl{vs:List V}{K:V->St->Prop}(h:KK vs U K):z9 P.j (orc P n) Nc vs U K:=by
 obtain⟨c,sc,m,pro,xl,i,rfl,hp,b0,S,h⟩:=h
 rcases hp with⟨rfl,rfl⟩|⟨rfl,rfl⟩
 ·exact zE (ga b0 rfl) (zE (inD S.t0 rfl) (zE (ga b0 rfl) (zE (giD S.t0 rfl rfl) h)))
 ·exact zE (ga b0 rfl) (zE (inD S.t0 rfl) (zE (ga b0 rfl) (zE (giD S.t0 rfl rfl) h)))
theorem IX{z z' k fam pro s d:Int}{b:Nat}(h:pro≠17):qS z k≠ .Q1 [.int z',aM fam pro s d b]:=λe=>by
 have e:=(List.cons.inj (List.cons.inj (V.Q1.inj e)).2).1
 exact h (V.int.inj (List.cons.inj (List.cons.inj (V.Q1.inj e)).2).1).symm
theorem Kf{vs:List V}{K:V->St->Prop}(h:Lg vs U K):z9 P.j (orc P (n+3)) Lh vs U K:=by
 obtain⟨c,keys,xl,l,m,now,z,fam,pro,s,d,b,pk,tk,st,rp,r,rfl,hp,hs,b0,b1,h⟩:=h
 exact zE (ga hs rfl) (zE (ga hs rfl) (Ia.miss c keys xl m z now _ rfl rfl b0 b1 (λJ J=>IX hp) h))
noncomputable abbrev IN(lt:Loc)(pk:V)(now:Int)(v:Option V):Env:=[some (.c ⟨1,0⟩),some (.c lt),some pk,some (.int now),v,none,none,none,none,none,none,none,none]
theorem II{vs:List V}{K:V->St->Prop}(h:Np vs U K):z9 P.j (orc P n) LA vs U K:=by
 obtain⟨U0,lt,m,bb,z,u,pk,s,d,now,rfl,A,h⟩:=h
 exact z8 (Y:=IN lt pk now none) rfl (stL At.Q9 A rfl rfl (λJ h=>h) λD A=>uE (v:= .Q1 [.int 8,.int 13,.int 15,.int 17]) (U':=D) (λJ h=>zE (ga A.g rfl) h) rfl rfl (zC (zE (ga A.g rfl) (h _ A.f))))
end
section
variable{n:Nat}{U:St}
theorem few:∀(m:Nat) {l:List Nat},l.Nodup->(∀p∈l,p<m)->l.length<=m
 |0,[],_,_=>Nat.le_refl _
 |0,a::_,_,h=>absurd (h a (.head _)) (Nat.not_lt_zero _)
 |m+1,l,hn,h=>by
  have e:=few m (l:=l.erase m) (hn.erase m) λp hp=>Nat.lt_of_le_of_ne (Nat.le_of_lt_succ (h p (List.mem_of_mem_erase hp))) λq=>by
   rw[q] at hp;exact hn.not_mem_erase hp
  by_cases q:m∈l
  ·rw[List.length_erase_of_mem q] at e
   exact Nat.le_add_of_sub_le e
  ·rw[List.erase_of_not_mem q] at e
   exact Nat.le_succ_of_le e
theorem Qg{x:Loc}{es:List (V×V)}(h:U.get x=some (.dict es))(hz:es.length<1000):iQ (.bi "len") [.c x] U=some (.int (es.length:Int),U):=by
 show jV (U.get x) _ _ _=_
 rw[h];exact if_pos hz
noncomputable abbrev N6(m:Int)(d:Dt):Dt:=⟨d.now,m,d.st,d.QI,d.keys,d.bf,d.wf,d.xs⟩
theorem Tn.last{c:Kc}{sc:List Int}{d:Dt}{k:Nat}{m:Int}(T:Tn U c sc d k):∃xl',U.get ⟨1,0⟩=some (.Qz 240 (qB xl' d.last))/\Tn (U.Q6 ⟨1,0⟩ (.Qz 240 (qB xl' m))) c sc (N6 m d) k:=by
 refine qX T.V λxl wi wk wl wx B W hd=> ?_
 have F:=(Fr.refl (T:=tb) T.G).Q6 (o':= .Qz 240 (qB xl m)) B.b0 rfl
 have W:=W.fr (λJ=>hW) F
 refine⟨xl,B.b0,⟨xl,wi,wk,wl,wx,?_,⟨W.w0,W.i,W.ky,W.fl,W.ex,W.ks,W.x,W.k,W.dx,W.fz,W.lv⟩,hd⟩,T.S.fr rfl rfl F,T.G.Q6 B.b0,⟨T.I.Rh,T.I.Ro,T.I.Rz,T.I.Ra,T.I.Rn,T.I.Rv,T.I.RI,T.I.RK,T.I.RE,T.I.RJ,T.I.R8,T.I.RC,T.I.RH,T.I.RG,T.I.R4,T.I.xn,T.I.wn⟩,T.hk,T.fw⟩
 exact⟨zP,(zH (by decide:(⟨1,1⟩:Loc)≠⟨1,0⟩)).trans B.b1,(zH (by decide:(⟨1,2⟩:Loc)≠⟨1,0⟩)).trans B.b2,(zH (by decide:(⟨1,3⟩:Loc)≠⟨1,0⟩)).trans B.b3,(zH B.kx.2.1).trans B.bx,B.kx,λq hq=>⟨(zH λe=>by
  have:=(B.x q hq).1;rw[e,B.b0] at this;exact nomatch alS this).trans (B.x q hq).1,(B.x q hq).2⟩,λp hp=>(zH λe=>Nat.noConfusion (alQ Loc.k e:2=1) λe=>nomatch e).trans (B.r p hp),B.fz,B.fl.fr F rfl⟩
end
section
variable{n:Nat}{U:St}
noncomputable abbrev iC(l tr:Loc)(z:Int)(o:V)(v4 v5 v6:Option V):Env:=[some (.c l),some (.c tr),some (.int z),some o,v4,v5,v6,none,none,none,none,none,none,none,none]
theorem uI{Y:Env}{K:KF}(h:K .next Y U):Nb Y K .none U:=h
theorem stU{W:jY}{Φ:Orc}{m i a C:Nat}{x:Loc}{Y:Env}{e:IR}{v:V}{fs:List (Nat×V)}{r:List IS}{K:KF}(hr:kP Y i=some (.c x))(hx:U.get x=some (.Qz C fs))(hz:Nat.blt fs.length 900=true)(he:∀K':V->St->Prop,K' v U->ev W Φ (m+2) Y e U K')(h:exs (ex W Φ (m+3)) r Y (U.Q6 x (.Qz C (tI fs a v))) K):exs (ex W Φ (m+3)) (.Q0 (.Qy (.v i) a) e::r) Y U K:=
 zC (j6 (he _ (qF hr (zE (sa hx hz) (jZ h)))))
theorem hJ{W:jY}{Φ:Orc}{m:Nat}{c:IR}{a b:List IS}{Y:Env}{K:KF}{Q:St->Prop}(h:∀K':V->St->Prop,(∀D,Q D->K' (.bool false) D)->ev W Φ m Y c U K')(k:∀D,Q D->exs (ex W Φ m) b Y D K):ex W Φ (m+1) (.QC c a b) Y U K:=h _ k
theorem kF{c:Kc}{d:Dt}{xl:Loc}{U D:St}(B:BkV U c d xl)(F:Fr tn U D):BkV D c d xl:=B.fr (λJ J=>rfl) F
set_option maxHeartbeats 1000000 in
theorem Hg{vs:List V}{K:V->St->Prop}(h:SNo vs U K):z9 P.j (orc P (n+4)) Nk vs U K:=by
 obtain⟨c,sc,d,k,U0,l,tr,pk,tk,st,rp,e3,o,z,r,rfl,ho,hr,ht,T,A,h⟩:=h
 refine z8 (Y:=iC l tr z o none none none) rfl (zC (zE (ga A.g rfl) (jC (Y':=iC l tr z o (some (.c ⟨1,0⟩)) none none) rfl rfl (zC (HA.mk U0 l pk tk st rp .none (.int 1) (.int 0) d.now r rfl hr A λD A=> ?_)))))
 refine uI (zI (zC ?_))
 cases ho with
 |RL b s d hb=>exact HP.RL b s d rfl hb (h _ _ _ T A)
 |RM b s d hb=>exact HP.RM b s d rfl hb (h _ _ _ T A)
 |zero s d'=>
 refine HP.zero s d' rfl λv=>jC (Y':=iC l tr z (aM 2 1 s d' 0) (some (.c ⟨1,0⟩)) (some (.Q1 v)) none) rfl rfl (free (λJ h=>h) ?_)
 refine xEA (T.last (m:=d.last+1)) λxl b00 T1=> ?_
 refine xE T.B λJ B0=> ?_
 have B:=kF B0 A.f
 have b0:=A.f.get _ _ rfl b00
 have z4:=few 4 T.I.Ra T.I.Rn
 have e9:decide ((9:Int)<=((eR d.QI).length:Int))=false:=decide_eq_false (by rw[alF];omega)
 have hz:(eR d.QI).length<1000:=by rw[alF];omega
 refine zC (sW (U':=D) (λJ h=>zE (ga b0 rfl) (zE (Qg B.b2 hz) (zE (ga b0 rfl) (lS (b:=uM .And (decide ((9:Int)<=((eR d.QI).length:Int)))) (by rw[e9];rfl) (vT e9 h))))) (zT (zI ?_)))
 refine stU (v:= .int (d.last+1)) rfl b0 rfl (λJ h=>zE (ga b0 rfl) h) ?_
 have A1:=A.QZ (p':= .Qz 240 (qB xl (d.last+1))) b00
 have ht1:(U0.Q6 ⟨1,0⟩ (.Qz 240 (qB xl (d.last+1)))).get tr=_:=(zH λe=>by rw[e,b00] at ht;exact nomatch alS ht).trans ht
 have b1:(D.Q6 ⟨1,0⟩ (.Qz 240 (qB xl (d.last+1)))).get ⟨1,0⟩=_:=zP
 refine(?_:exs (ex P.j (orc P (n+4)) 64) (Ig.drop 6) (iC l tr z (aM 2 1 s d' 0) (some (.c ⟨1,0⟩)) (some (.Q1 v)) none) (D.Q6 ⟨1,0⟩ (.Qz 240 (qB xl (d.last+1)))) (Be K))
 generalize U0.Q6 ⟨1,0⟩ (.Qz 240 (qB xl (d.last+1)))=U1 at T1 A1 ht1
 generalize D.Q6 ⟨1,0⟩ (.Qz 240 (qB xl (d.last+1)))=D1 at A1 b1 ⊢
 refine zC (zE (ga b1 rfl) (KQ.mk _ _ _ _ rfl A1.f.Q3 λD2 lt At2=>jC (Y':=iC l tr z (aM 2 1 s d' 0) (some (.c ⟨1,0⟩)) (some (.Q1 v)) (some (.c lt))) rfl rfl ?_))
 have A2:=A1.go At2.f
 refine stL At.Q9 At2 rfl rfl (λJ h=>zE (ga A2.g rfl) h) λD3 At3=>zC (hJ (Q:=Fr tn D1) (λJ h=> ?_) λD4 F=>zT (zI ?_))
 ·have A3:=A1.go At3.f
  exact zE (giD (A3.f.get _ _ rfl ht1) rfl rfl) (zE (ga A3.g rfl) (zE (ga A3.g rfl) (Np.mk D1 lt _ _ _ _ pk s d' d.now rfl At3 h)))
 ·exact h U1 _ _ T1 (A1.go F)
end
section
variable{n:Nat}{U:St}
theorem TO.Q1{o:V}(h:TO o):∃fam pro s d b,o=aM fam pro s d b/\pro≠17:=by
 cases h with
 |RL b s d _=>exact⟨2,1,s,d,b,rfl,by decide⟩
 |zero s d=>exact⟨2,1,s,d,0,rfl,by decide⟩
 |RM b s d _=>exact⟨10,58,s,d,b,rfl,by decide⟩
noncomputable abbrev oO(l tr:Loc)(z:Int)(o:V)(v4 v5 v6:Option V):Env:=[some (.c l),some (.c tr),some (.int z),some o,v4,v5,v6,none,none,none,none,none,none,none,none]
set_option maxHeartbeats 1000000 in
theorem Hi{vs:List V}{K:V->St->Prop}(h:SNo vs U K):z9 P.j (orc P (n+5)) Mu vs U K:=by
 obtain⟨c,sc,d,k,U0,l,tr,pk,tk,st,rp,e3,o,z,r,rfl,ho,hr,ht,T,A,h⟩:=h
 refine qI ho.Q1 λfam pro s d' b e_5 h17=> ?_
 subst e_5
 refine xE T.B λxl B0=> ?_
 have B:=kF B0 A.f
 refine z8 (Y:=oO l tr z (aM fam pro s d' b) none none none) rfl (zC (zE (ga A.g rfl) (jC (Y':=oO l tr z (aM fam pro s d' b) (some (.c ⟨1,0⟩)) none none) rfl rfl (uE (v:= .str 44) (Y':=oO l tr z (aM fam pro s d' b) (some (.c ⟨1,0⟩)) (some (.str 44)) none) (λJ h=>h) rfl rfl ?_))))
 refine Lg.mk c d.keys xl l d.last d.now z fam pro s d' b pk tk st rp r rfl h17 A.g B.b0 B.b1 ?_
 refine SNo.mk c sc d k U0 l tr pk tk st rp e3 _ z r rfl ho hr ht T A λU1 d1 D T1 A1=> ?_
 refine jC (Y':=oO l tr z (aM fam pro s d' b) (some (.c ⟨1,0⟩)) (some (.str 44)) (some .none)) rfl rfl (zC (zE (ga A1.g rfl) (h _ _ _ T1 A1)))
noncomputable abbrev bR(l:Loc)(z:Int)(v2 v3:Option V):Env:=[some (.c l),some (.int z),v2,v3,none,none,none,none,none,none,none,none]
set_option maxHeartbeats 1000000 in
theorem JT{vs:List V}{K:V->St->Prop}(h:Os vs U K):z9 P.j (orc P (n+8)) MM vs U K:=by
 obtain⟨c,sc,d,k,U0,l,lp,ld,x,y,kind,bs,l4,off,pl,sI,st,z,p,r,rfl,hr,T,A,hp,hl,hd,hn,hst,h⟩:=h
 rcases hst.symm with rfl|rfl
 ·exact zE (ga A.g rfl) (h _ _ _ _ _ (.inl ⟨rfl,rfl,rfl,rfl⟩) A.g (T.fr A.f))
 have h:=λD d' st'=>h D d' .none st' 0
 refine xE T.B λxl B0=> ?_
 have S0:=T.S
 refine z8 (Y:=bR l z none none) rfl (zC (sW (U':=U) (λJ h=>zE (ga A.g rfl) h) (zT (zI (zC (zE (ga A.g rfl) ?_))))))
 cases hp with
 |Rp=>
  refine GX.Rp lp ld x y rfl hl (jC (Y':=bR l z (some .none) none) rfl rfl (zC (dP (U':=U) (λJ h=>h) (zC (HA.mk U0 l _ _ _ _ .none (.int 1) (.int 0) d.now r rfl hr A λD A=> ?_)))))
  exact h _ _ _ (.inr ⟨rfl,rfl,rfl,rfl⟩) A.g (T.fr A.f)
 |short=>
  refine GX.short lp ld x y rfl hl hd (jC (Y':=bR l z (some .none) none) rfl rfl (zC (dP (U':=U) (λJ h=>h) (zC (HA.mk U0 l _ _ _ _ .none (.int 1) (.int 0) d.now r rfl hr A λD A=> ?_)))))
  exact h _ _ _ (.inr ⟨rfl,rfl,rfl,rfl⟩) A.g (T.fr A.f)
 |QE b hb=>
  refine GX.QE lp ld x y b rfl hb A.f.Q3 hl hd λD s d' F=>jC (Y':=bR l z (some (aM 2 1 s d' b)) none) rfl rfl (free (λJ h=>h) ?_)
  have A:=A.go F
  have hl:=F.get _ _ rfl hl
  have hd:=F.get _ _ rfl hd
  have B:=kF B0 A.f
  have S:=S0.fr (T:=tn) rfl rfl A.f
  refine zC (zE (ga A.g rfl) (KK.mk c sc d.last 1 xl 5 rfl (.inl ⟨rfl,rfl⟩) B.b0 S (jC (Y':=bR l z (some (aM 2 1 s d' b)) (some (.c ⟨9,5⟩))) rfl rfl (zC (zE (inD S.t5 rfl) (zE (giD S.t5 rfl rfl) (zE (ga A.g rfl) ?_)))))))
  cases e:GZ b with
  |true=>exact JL.err U0 l lp ld x y _ _ _ b d.now z r rfl hr hb e A hl hd λD A=>h _ _ _ (.inr ⟨rfl,rfl,rfl,rfl⟩) A.g (T.fr A.f)
  |false=>
   have ho:TO (aM 2 1 s d' b):=by
    rcases Gl hb with rfl|hb
    ·exact .zero s d'
    ·exact .RL b s d' hb
   exact JL.RL l lp ld x y _ _ _ b d.now z r rfl hb e A.g hl hd (SNo.mk c sc d k U0 l ⟨9,5⟩ _ _ _ _ _ _ z r rfl ho hr S0.t5 T A λU1 d1 D T1 A1=>h _ _ _ (.inr ⟨rfl,rfl,rfl,rfl⟩) A1.g (T1.fr A1.f))
 |v6 b hb hb'=>
  refine GX.v6 lp ld x y b rfl hb A.f.Q3 hl hd λD s d' F=>jC (Y':=bR l z (some (aM 10 58 s d' b)) none) rfl rfl (free (λJ h=>h) ?_)
  have A:=A.go F
  have hl:=F.get _ _ rfl hl
  have hd:=F.get _ _ rfl hd
  have B:=kF B0 A.f
  have S:=S0.fr (T:=tn) rfl rfl A.f
  refine zC (zE (ga A.g rfl) (KK.mk c sc d.last 58 xl 6 rfl (.inr ⟨rfl,rfl⟩) B.b0 S (jC (Y':=bR l z (some (aM 10 58 s d' b)) (some (.c ⟨9,6⟩))) rfl rfl (zC (zE (inD S.t6 rfl) (zE (giD S.t6 rfl rfl) (zE (ga A.g rfl) ?_)))))))
  refine Ni.mk U0 l lp ld x y _ _ _ b d.now z r rfl hr hb hb' A hl hd (λe D A=> ?_) λe=> ?_
  ·exact h _ _ 64 (.inr ⟨rfl,rfl,by rw[e];rfl,rfl⟩) A.g (T.fr A.f)
  ·exact SNo.mk c sc d k U0 l ⟨9,6⟩ _ _ _ _ _ _ z r rfl (.RM b s d' hb) hr S0.t6 T A λU1 d1 D T1 A1=>h _ _ 1 (.inr ⟨rfl,rfl,by rw[e];rfl,rfl⟩) A1.g (T1.fr A1.f)
end
section
variable{n:Nat}{U:St}
theorem Pz{vs:List V}{v:V}{D:St}(h:sK vs v D):∃kind bs l4 off pl sI,PX kind bs l4 off pl sI/\v= .Q1 [.bytes bs,.int kind,.int sI]:=by
 cases h with
 |Rp m D=>exact⟨_,_,_,_,_,_,.Rp,rfl⟩
 |short m D=>exact⟨_,_,_,_,_,_,.short,rfl⟩
 |v6 b m h h' D=>exact⟨_,_,_,_,_,_,.v6 b h h',rfl⟩
 |QE b m h D=>exact⟨_,_,_,_,_,_,.QE b h,rfl⟩
theorem PX.pk{kind l4 off pl sI:Int}{bs:List Nat}(h:PX kind bs l4 off pl sI):PK kind bs l4 off pl:=by
 cases h with
 |Rp=>exact .Rp
 |short=>exact .short
 |QE b=>exact .QE b
 |v6 b=>exact .v6 b
theorem Tn.Ri{c:Kc}{sc:List Int}{d:Dt}{k:Nat}(T:Tn U c sc d k)(h:k<400):Tn U c sc d (k+1):=⟨T.V,T.S,T.G,T.I.Ri,h,T.fw⟩
theorem vW{α:Type}{o o':Option α}{x:α}{G:Prop}(h:o=some x)(h':o'=none)(e:o=o'):G:=nomatch h.symm.trans (e.trans h')
theorem K9{x:Loc}{C a:Nat}{fs fs':List (Nat×V)}{v:V}{F:St->Prop}{N:Prop}(h0:U.get x=some (.Qz C fs))(hz:Nat.blt fs.length 900=true)(he:tI fs a v=fs')(h:F (U.Q6 x (.Qz C fs'))): @Option.rec St (λJ=>Prop) N F (setAttr (.c x) a v U):=
 zE (sa h0 hz) (he▸h)
theorem Bw{W:jY}{Φ:Orc}{m:Nat}{ts:List Tg}{vs:List V}{Y Y':Env}{g:BdF}{K:KF}(he:∀K':Env->St->Prop,K' Y' U->El (Q0 W Φ (m+1)) ts vs Y U K')(h:g Y' U K):E9 (Q0 W Φ (m+2) (.Q1 ts)) Y (sG g K) (.Q1 vs) U:=he _ (jZ h)
noncomputable abbrev rI(b:Loc)(p:Nat)(v4 v5 v6 v7 v8:Option V):Env:=[some (.c ⟨1,0⟩),some (.c ⟨2,p⟩),some (.c ⟨3,0⟩),some (.c b),v4,v5,v6,v7,v8,none,none,none,none,none,none,none,none]
set_option maxHeartbeats 1000000 in
theorem JU{vs:List V}{K:V->St->Prop}(h:aT Iz vs U K):z9 P.j (orc P (n+9)) LN vs U K:=by
 obtain⟨c,sc,d,k,b,x,p,U0,rfl,hp,hk,T,F,h0,hb,h⟩:=h
 refine z8 (Y:=rI b p none none none none none) rfl (zC (lU.mk b x 4 rfl rfl hb λw y hw=>lU.mk b y 24 rfl rfl zP λm y' hm=> ?_))
 have F1:=(F.own (o':= .list [.int y]) h0 hb).own (o':= .list [.int y']) h0 zP
 have hb1:((U.Q6 b (.list [.int y])).Q6 b (.list [.int y'])).get b=some (.list [.int y']):=zP
 generalize (U.Q6 b (.list [.int y])).Q6 b (.list [.int y'])=U1 at F1 hb1 ⊢
 refine CS.mk F1.Q3.o ⟨w,m,hw,hm,rfl⟩ λv D r hd=> ?_
 have F2:=Bs F1.Q3 hd
 refine DD (Pz r) λkind bs l4 off pl sI hx e_7=> ?_
 subst e_7
 generalize EL U1 D=U2 at F2 ⊢
 have F2':=F1.trans F2
 have hb2:=F2.get _ _ rfl hb1
 refine Bw (vs:=[.bytes bs,.int kind,.int sI]) (Y':=rI b p (some (.bytes bs)) (some (.int kind)) (some (.int sI)) none none) (λJ h=>h) ?_
 refine zC (KD.mk kind bs l4 off pl [.int kind] rfl (.inr rfl) hx.pk F2.Q3 λD1 lp ld x y q=> ?_)
 refine nI ((T.fr (F2'.trans q.p.f)).W) λwi wk wl wx W=> ?_
 refine zE (giD (q.p.f.Q3.nk W.w0) rfl rfl) (KH.mk (.c lp) (.c D1.fr) d.now rfl q.p.f.Q3.new λD2 l r hr A=> ?_)
 have F3:=(F2.trans q.p.f).new (o:= .dict [])
 have nl:∀{m o},D1.get m=some o->m≠l:=λ{m o} hm e=>vW (q.p.f.Q3.nk (a:= .dict []) hm) A.z (alQ _ e)
 have n1:=nl q.p.g
 have n2:=nl q.d.g
 have kb:=F3.get _ _ rfl hb1
 have n3:b≠l:=λe=>vW kb A.z (alQ _ e)
 refine jC (Y':=rI b p (some (.bytes bs)) (some (.int kind)) (some (.int sI)) (some (.c l)) none) rfl rfl ?_
 refine stL At.Q9 A rfl hr (λJ h=>h) λD3 A=>stL At.Q9 A rfl hr (λJ h=>h) λD4 A=>stL At.Q9 A rfl hr (λJ h=>h) λD5 (A:At (D1.new (.dict [])) l D5 (.Qz 738 (wQ (.c lp) d.now (.c ⟨2,p⟩) (.int 1) (.int 1) r)))=> ?_
 have hl:=A.f.get _ _ rfl (q.p.f.Q3.nk q.p.g)
 have hd':=A.f.get _ _ rfl (q.p.f.Q3.nk q.d.g)
 have F5:=F1.trans F3
 have A5:=A.base F5
 refine zC (j6 (lU.mk b y' 2 rfl rfl (A.f.get _ _ rfl kb) λi y2 hi=> ?_))
 have A6:At U0 l (D5.Q6 b (.list [.int y2])) _:=⟨A5.f.own h0 (A.f.get _ _ rfl kb),A5.z,(zH n3.symm).trans A5.g,A5.k⟩
 obtain⟨st,hst,e⟩:∃st:Int,(st=4\/st=64)/\[V.int 4,.int 64][i]?=some (.int st):=by
  rcases lt2 hi with rfl|rfl
  ·exact⟨4,.inl rfl,rfl⟩
  ·exact⟨64,.inr rfl,rfl⟩
 refine zE (giT (Nat.lt_trans hi (by decide)) e) (qF rfl (K9 (fs':=wQ (.c lp) d.now (.c ⟨2,p⟩) (.int st) (.int 1) r) A6.g hr rfl (jZ ?_)))
 have A7:=A6.set (o':= .Qz 738 (wQ (.c lp) d.now (.c ⟨2,p⟩) (.int st) (.int 1) r))
 refine uE (v:= .bool (decide (V.int st= .int 64))) (Y':=rI b p (some (.bytes bs)) (some (.int kind)) (some (.int sI)) (some (.c l)) (some (.bool (decide (V.int st= .int 64))))) (λJ h=>zE (ga A7.g rfl) h) rfl rfl ?_
 have m1:lp≠b:=λe=>vW hb2 q.p.z (alQ _ e.symm)
 have m2:ld≠b:=λe=>vW hb2 q.d.z (alQ _ e.symm)
 have hb7:((D5.Q6 b (.list [.int y2])).Q6 l (.Qz 738 (wQ (.c lp) d.now (.c ⟨2,p⟩) (.int st) (.int 1) r))).get b=_:=(zH n3).trans zP
 have hl7:=(zH (o:= .Qz 738 (wQ (.c lp) d.now (.c ⟨2,p⟩) (.int st) (.int 1) r)) n1).trans ((zH (o:= .list [.int y2]) m1).trans hl)
 have hd7:=(zH (o:= .Qz 738 (wQ (.c lp) d.now (.c ⟨2,p⟩) (.int st) (.int 1) r)) n2).trans ((zH (o:= .list [.int y2]) m2).trans hd')
 generalize (D5.Q6 b (.list [.int y2])).Q6 l (.Qz 738 (wQ (.c lp) d.now (.c ⟨2,p⟩) (.int st) (.int 1) r))=D7 at A7 hb7 hl7 hd7 ⊢
 refine zC (hJ (Q:=λD=>∃d' tk' st' rp',((st=64/\tk'= .c ⟨2,p⟩/\st'=64/\rp'=1)\/(st=4/\tk'= .none/\st'=sI/\rp'=0))/\D.get l=some (.Qz 738 (wQ (.c lp) d.now tk' (.int st') (.int rp') r))/\Tn D c sc d' k) (λK' hK=> ?_) λD8 hq=>zT (zI ?_))
 ·refine lU.mk b y2 2 rfl rfl hb7 λz y3 hz=> ?_
  exact Os.mk c sc d k U0 l lp ld x y kind bs l4 off pl sI st (Int.ofNat z) p r rfl hr T ⟨A7.f.own h0 hb7,A7.z,(zH n3.symm).trans A7.g,A7.k⟩ hx ((zH m1).trans hl7) ((zH m2).trans hd7) ⟨n1,n2⟩ hst λD d' tk' st' rp' hc hs T'=>hK _ ⟨d',tk',st',rp',hc,hs,T'⟩
 refine FA hq λd' tk' st' rp' hc hs T'=> ?_
 have fin:=h _ _ (T'.Ri hk)
 rcases hc with⟨rfl,rfl,rfl,rfl⟩|⟨rfl,rfl,rfl,rfl⟩
 ·refine xE T'.B λxl B=> ?_
  exact zC (dP (U':=D8) (λJ h=>h) (zC (zE (ga hs rfl) (zE (isL (B.r p hp)) (zE (ga hs rfl) (zE (ga hs rfl) fin))))))
 ·exact zC (sW (U':=D8) (λJ h=>h) (zT (zI (zC (zE (ga hs rfl) (zE (ga hs rfl) (rV (b:=uM .And (decide (V.int st'=V.int st'))) (by rw[alG rfl];rfl) (zE (ga hs rfl) fin))))))))
end
section
variable{n:Nat}{U:St}
theorem moL{x:Loc}{vs:List V}(h:U.get x=some (.list vs)):pV 0 1 (.c x) 0 U=some ():=by show jV (U.get x) _ _ _=_;rw[h];rfl
theorem cmL{x:Loc}{vs:List V}{a:V}(h:U.get x=some (.list vs))(hz:vs.length<1000):CC 0 1 (.c x) 0 [a] U=some (.none,U.Q6 x (.list (vs++[a]))):=by
 show jV (U.get x) _ _ _=_
 rw[h];exact if_pos ⟨rfl,hz⟩
theorem Ag{W:jY}{Φ:Orc}{m:Nat}{ts:List Tg}{vs:List V}{e:IR}{Y Y':Env}{U':St}{r:List IS}{K:KF}(he:∀K':V->St->Prop,K' (.Q1 vs) U'->ev W Φ (m+2) Y e U K')(ht:∀K':Env->St->Prop,K' Y' U'->El (Q0 W Φ (m+1)) ts vs Y U' K')(k:exs (ex W Φ (m+3)) r Y' U' K):exs (ex W Φ (m+3)) (.Q0 (.Q1 ts) e::r) Y U K:=zC (j6 (he _ (Bw ht k)))
theorem On(s:Bool×Bool):(!decide (V.int (PySem.Builtin.bitAnd (stI s) (PySem.Builtin.bitOr 8 512))=V.int 0))=(s.1||s.2):=by obtain⟨a,b⟩:=s;cases a<;>cases b<;>rfl
noncomputable abbrev kH(l:Loc)(p:Nat)(pr po lf ms fm:Int)(v9 v10 v11 v12:Option V):Env:=[some (.c l),some (Ch pr po lf ms fm),some (.c ⟨2,p⟩),some (.c ⟨1,0⟩),some (.int pr),some (.int po),some (.int lf),some (.int ms),some (.int fm),v9,v10,v11,v12,none,none,none,none,none,none,none,none]
noncomputable abbrev Lc:List IS:=[(.QC (.QT .And [(.Q4 (.Qy (.v 10) 24) [.Eq] [(.Qy (.v 2) 20)]),(.Q4 (.Qy (.v 0) 29) [.Lt] [(.Qy (.v 10) 26)])]) [(.Q0 (.v 9) (.QB .Add (.v 9) (.l (.int 1))))] [])]
noncomputable abbrev GR:List IS:=[(.QC (.QT .And [(.Q4 (.Qy (.v 10) 24) [.Eq] [(.Qy (.v 2) 20)]),(.Q4 (.Qy (.v 10) 18) [.Eq] [(.Qy (.v 2) 18)]),(.Q4 (.Qy (.v 10) 38) [.Eq] [(.v 12)])]) [(.Q0 (.Qy (.v 10) 26) (.QB .Add (.Qy (.v 0) 29) (.v 6))),(.ret (.l .none))] [])]
theorem A4{c:Kc}{p:Nat}{l:Loc}{pk st rp:V}{now pr po lf ms fm:Int}{s:Bool×Bool}{r:List (Nat×V)}{U0:St}{lo:Option Loc}{K:KF}(hc:jI U0 lo U=true)(hs:U.get l=some (.Qz 738 (wQ pk now (.c ⟨2,p⟩) st rp r)))(hr:U.get ⟨2,p⟩=some (.Qz 218 (yX c p s))):
  ∀{xs:List (Loc×Loc×Ex)} {m:Int} {v10:Option V},(∀q∈xs,U.get q.1=some (.Qz 420 (eS q.2.2)))->(∀v10,K .next (kH l p pr po lf ms fm (some (.int (m+(tU p now xs:Int)))) v10 none none) U)->
  aE (exs (ex P.j (orc P n) 63) Lc) (jI U0 lo) [10] false (xs.map λq=> .c q.1) (kH l p pr po lf ms fm (some (.int m)) v10 none none) U K
 |[],m,v10,_,h=>by have h:=h v10;rw[show(m+(tU p now []:Int))=m from Int.add_zero m] at h;exact h
 |q::xs,m,v10,hx,h=>by
  have hq:=hx q (.head _)
  refine zR rfl (zC ?_)
  cases e1:decide (jA q.2.2.p=jA p)&&decide (now<q.2.2.u) with
  |true=>
   refine xA (alA e1) λa1 a2=> ?_
   refine dP (U':=U) (λJ h=>zE (ga hq rfl) (zE (ga hr rfl) (rV (b:=uM .And (decide (jA q.2.2.p=jA p))) (by rw[a1];rfl) (zE (ga hs rfl) (zE (ga hq rfl) (vT a2 h)))))) (uE (v:= .int (m+1)) (λJ h=>h) rfl rfl (zT (zI (zT (zY hc (A4 hc hs hr (λq hq=>hx q (.tail _ hq)) λv10=> ?_))))))
   have h:=h v10
   unfold tU at h ⊢
   rw[List.filter_cons_of_pos (p:=λq:Loc×Loc×Ex=>decide (jA q.2.2.p=jA p)&&decide (now<q.2.2.u)) e1,List.length_cons] at h
   rw[show(m+1+((xs.filter λq=>decide (jA q.2.2.p=jA p)&&decide (now<q.2.2.u)).length:Int))=m+(((xs.filter λq=>decide (jA q.2.2.p=jA p)&&decide (now<q.2.2.u)).length+1:Nat):Int) from by omega]
   exact h
  |false=>
   refine u5 (B:=false) (U':=U) (λK' h=>zE (ga hq rfl) (zE (ga hr rfl) ?_)) nofun λJ=>zT (zI (zT (zY hc (A4 hc hs hr (λq hq=>hx q (.tail _ hq)) λv10=> ?_))))
   ·cases a1:decide (jA q.2.2.p=jA p) with
    |false=>exact lS (b:=uM .And (decide (jA q.2.2.p=jA p))) (by rw[a1];rfl) (vT a1 h)
    |true=>
     rw[a1] at e1
     exact rV (b:=uM .And (decide (jA q.2.2.p=jA p))) (by rw[a1];rfl) (zE (ga hs rfl) (zE (ga hq rfl) (vT e1 h)))
   ·have h:=h v10
    unfold tU at h ⊢
    rw[List.filter_cons_of_neg (p:=λq:Loc×Loc×Ex=>decide (jA q.2.2.p=jA p)&&decide (now<q.2.2.u)) (by rw[e1];exact Bool.false_ne_true)] at h
    exact h
theorem mD{c:Kc}{p:Nat}{l:Loc}{pk st rp:V}{now pr po lf ms fm:Int}{s:Bool×Bool}{r:List (Nat×V)}{U0:St}{lo:Option Loc}{v9 v11:Option V}{t:T5}{R:List V}{K:KF}(hc:jI U0 lo U=true)(hs:U.get l=some (.Qz 738 (wQ pk now (.c ⟨2,p⟩) st rp r)))(hr:U.get ⟨2,p⟩=some (.Qz 218 (yX c p s))):
  ∀{A:List (Loc×Loc×Ex)} {v10:Option V},(∀q∈A,U.get q.1=some (.Qz 420 (eS q.2.2)))->(∀q∈A,f0 p t (c.QF p) q.2.2=false)->(∀v10,aE (exs (ex P.j (orc P n) 63) GR) (jI U0 lo) [10] false R (kH l p pr po lf ms fm v9 v10 v11 (some (t5V t))) U K)->
  aE (exs (ex P.j (orc P n) 63) GR) (jI U0 lo) [10] false ((A.map λq=> .c q.1)++R) (kH l p pr po lf ms fm v9 v10 v11 (some (t5V t))) U K
 |[],_,_,_,h=>h _
 |q::A,v10,hx,hA,h=>by
  have hq:=hx q (.head _)
  have e:=hA q (.head _)
  unfold f0 at e
  refine zR rfl (zC (u5 (B:=false) (U':=U) (λK' h=>zE (ga hq rfl) (zE (ga hr rfl) ?_)) nofun λJ=>zT (zI (zT (zY hc (mD hc hs hr (λq hq=>hx q (.tail _ hq)) (λq hq=>hA q (.tail _ hq)) h))))))
  cases a1:decide (jA q.2.2.p=jA p) with
  |false=>exact lS (b:=uM .And (decide (jA q.2.2.p=jA p))) (by rw[a1];rfl) (vT a1 h)
  |true=>
   rw[a1] at e
   refine rV (b:=uM .And (decide (jA q.2.2.p=jA p))) (by rw[a1];rfl) (zE (ga hq rfl) (zE (ga hr rfl) ?_))
   cases a2:decide (V.int q.2.2.z= .int (c.QF p)) with
   |false=>exact lS (b:=uM .And (decide (V.int q.2.2.z= .int (c.QF p)))) (by rw[a2];rfl) (vT a2 h)
   |true=>
    rw[a2] at e
    exact rV (b:=uM .And (decide (V.int q.2.2.z= .int (c.QF p)))) (by rw[a2];rfl) (zE (ga hq rfl) (vT e h))
theorem IZ{c:Kc}{p:Nat}{l:Loc}{pk st rp:V}{now pr po lf ms fm:Int}{s:Bool×Bool}{r:List (Nat×V)}{U0:St}{lo:Option Loc}{v9 v10 v11:Option V}{t:T5}{q:Loc×Loc×Ex}{R:List V}{K:V->St->Prop}{g:BdF}(hs:U.get l=some (.Qz 738 (wQ pk now (.c ⟨2,p⟩) st rp r)))(hr:U.get ⟨2,p⟩=some (.Qz 218 (yX c p s)))
  (hq:U.get q.1=some (.Qz 420 (eS q.2.2)))(hl:q.1≠l)(hit:f0 p t (c.QF p) q.2.2=true)(h:K .none (U.Q6 q.1 (.Qz 420 (eS (q.2.2.Rw (now+lf)))))):
  aE (exs (ex P.j (orc P n) 63) GR) (jI U0 lo) [10] false (.c q.1::R) (kH l p pr po lf ms fm v9 v10 v11 (some (t5V t))) U (sG g (Be K)):=by
 refine xA (alA hit) λa1 e=> ?_
 refine xA (alA e) λa2 a3=> ?_
 refine zR rfl (zC (dP (U':=U) (λJ h=>zE (ga hq rfl) (zE (ga hr rfl) (rV (b:=uM .And (decide (jA q.2.2.p=jA p))) (by rw[a1];rfl) (zE (ga hq rfl) (zE (ga hr rfl) (rV (b:=uM .And (decide (V.int q.2.2.z= .int (c.QF p)))) (by rw[a2];rfl) (zE (ga hq rfl) (vT a3 h)))))))) ?_))
 exact stU (v:= .int (now+lf)) rfl hq rfl (λJ h=>zE (ga hs rfl) h) h
end
section
variable{n:Nat}{U:St}
theorem Em{P:Ex->Bool}(l:List (Loc×Loc×Ex)):(∃A q B,l=A++q::B/\(∀y∈A,P y.2.2=false)/\P q.2.2=true)\/∀y∈l,P y.2.2=false:=by
 induction l with
 |nil=>exact .inr λJ h=>nomatch h
 |cons q l ih=>
  cases e:P q.2.2 with
  |true=>exact .inl ⟨[],q,l,rfl,(λJ h=>nomatch h),e⟩
  |false=>
   refine ih.imp (λ⟨A,q',B,e1,e2,e3⟩=>⟨q::A,q',B,alQ (q:: ·) e1,λy hy=>(alC hy).elim (λh=>h▸e) (e2 y),e3⟩) λh y hy=>(alC hy).elim (λh=>h▸e) (h y)
theorem Hn{w:Nat}(h:w<2):(1:Int)-Int.ofNat w=Int.ofNat (1-w):=by rcases lt2 h with rfl|rfl<;>rfl
noncomputable abbrev mO(l:Loc)(v1:V)(v2 v3 v4 v5 v6 v7 v8 v9:Option V):Env:=[some (.c l),some v1,v2,v3,v4,v5,v6,v7,v8,v9,none,none,none,none,none,none,none,none,none,none,none]
set_option maxHeartbeats 1000000 in
theorem J1{vs:List V}{K:V->St->Prop}(h:Ob vs U K):z9 P.j (orc P (n+1)) MK vs U K:=by
 obtain⟨c,d,k,xl,l,pk,st,r,p,w,pr,po,lf,ms,fm,fv,rfl,hf,hp,hw,hk,I,G,B,hs,hb,hh,hn⟩:=h
 have hr:=B.r p hp
 refine z8 (Y:=mO l (Ch pr po lf ms fm) none none none none none none none none) rfl ?_
 refine uE (v:= .c ⟨2,p⟩) (Y':=mO l (Ch pr po lf ms fm) (some (.c ⟨2,p⟩)) none none none none none none none) (λJ h=>zE (ga hs rfl) h) rfl rfl ?_
 refine uE (v:= .c ⟨1,0⟩) (Y':=mO l (Ch pr po lf ms fm) (some (.c ⟨2,p⟩)) (some (.c ⟨1,0⟩)) none none none none none none) (λJ h=>zE (ga hs rfl) h) rfl rfl ?_
 refine zC (u5 (B:=(d.st p).1||(d.st p).2) (U':=U) (λJ h=>zE (ga hr rfl) (vT (On _) h)) (λe=>hb (by unfold o8;rw[e];rfl)) λe0=>zT (zI ?_))
 refine Ag (vs:=[.int pr,.int po,.int lf,.int ms,.int fm]) (Y':=kH l p pr po lf ms fm none none none none) (λJ h=>h) (λJ h=>h) ?_
 refine uE (v:= .int 0) (Y':=kH l p pr po lf ms fm (some (.int 0)) none none none) (λJ h=>h) rfl rfl ?_
 refine zC (uO (zE (ga B.b0 rfl) (q8 (itL B.bx) (A4 q9 hs hr (λq hq=>(B.x q hq).1) λv10=>zI ?_))))
 refine zC (u5 (B:=decide (ms<=0+(tU p d.now d.xs:Int))) (U':=U) (λJ h=>h) (λe=>hb ?_) λe1=>zT (zI ?_))
 ·rw[Int.zero_add] at e;unfold o8;rw[e,Bool.or_true]
 have e2:o8 d p ms=false:=by rw[Int.zero_add] at e1;unfold o8;rw[e0,e1];rfl
 have hh:=hh e2
 have hn:=hn e2
 refine uE (v:=yO (dK c (p,1-w))) (Y':=kH l p pr po lf ms fm (some (.int (0+(tU p d.now d.xs:Int)))) v10 (some (yO (dK c (p,1-w)))) none) (λJ h=>zE (ga hs rfl) (KP.mk c p (1-w) (d.st p) ?_ (by omega) hr h)) rfl rfl ?_
 ·exact alQ (λi=>[V.c ⟨2,p⟩,.int i]) (Hn hw)
 refine uE (v:=t5V (aW c p w fv pr po)) (Y':=kH l p pr po lf ms fm (some (.int (0+(tU p d.now d.xs:Int)))) v10 (some (yO (dK c (p,1-w)))) (some (t5V (aW c p w fv pr po)))) (λJ h=>by cases hf<;>exact h) rfl rfl ?_
 refine zC (uO (zE (ga B.b0 rfl) (q8 (itL B.bx) ?_)))
 rcases Em (P:=f0 p (aW c p w fv pr po) (c.QF p)) d.xs with⟨A,q,R,e,hA,hq⟩|hno
 ·have hqx:=B.x q (e▸List.mem_append_right _ (.head _))
  have hl:q.1≠l:=λz=>by rw[z,hs] at hqx;exact nomatch alS hqx.1
  have h1:=hh A q R e hA hq
  rw[show(d.xs.map λq=>V.c q.1)=(A.map λq=>V.c q.1)++(V.c q.1::R.map λq=>V.c q.1) from by rw[e,List.map_append];rfl]
  exact mD q9 hs hr (λy hy=>(B.x y (e▸List.mem_append_left _ hy)).1) hA λv10=>IZ hs hr hqx.1 hl hq h1
 ·have fin:=mD (K:=sG (exs (ex P.j (orc P (n+1)) 64) (HN.drop 10)) (Be K)) (R:=[]) (n:=n+1) (v9:=some (.int (0+(tU p d.now d.xs:Int)))) (v11:=some (yO (dK c (p,1-w)))) (pr:=pr) (po:=po) (lf:=lf) (ms:=ms) (fm:=fm) (t:=aW c p w fv pr po) (U0:=U) (lo:=some xl) (v10:=v10) q9 hs hr (λy hy=>(B.x y hy).1) hno λv10=>yT (zI ?_)
  ·rw[List.append_nil] at fin
   exact fin
  have z4:(d.xs.map λq=>V.c q.1).length<1000:=by rw[alF];have:=I.R4;omega
  refine zC (zE (ga B.b0 rfl) (zE (moL B.bx) (zE (ga hr rfl) (zE (ga hr rfl) (zE (ga hs rfl) (KM.mk ⟨p,aW c p w fv pr po,c.QF p,d.now+lf⟩ rfl G λD l1 A=>zE (cmL (A.f.get _ _ rfl B.bx) z4) (uI (zI ?_))))))))
  exact hn hno D l1 A
end
section
variable{n:Nat}{U:St}
theorem gt7(s:Bool×Bool):decide (7<stI s)=(s.1||s.2):=by obtain⟨a,b⟩:=s;cases a<;>cases b<;>rfl
noncomputable abbrev wF(p w:Nat)(pr po lf ms fm:Int)(v9 v10 v11 v12:Option V):Env:=[some (.c ⟨3,0⟩),some (.c ⟨4,p⟩),some (.int (Int.ofNat w)),some (Ch pr po lf ms fm),some (.int pr),some (.int po),some (.int lf),some (.int ms),some (.int fm),v9,v10,v11,v12,none,none,none,none,none,none,none,none]
theorem CA{c:Kc}{d:Dt}{wi wk wl wx:Loc}{p w:Nat}{pr po lf ms fm:Int}{q:Loc×Loc×Ex}{K:Option V->St->Prop}(W:WdV U c d wi wk wl wx)(hp:p<4)(hq:q∈d.xs)(h:K (@Bool.rec (λJ=>Option V) none (some (.c q.2.1)) (decide (jA q.2.2.p=jA p))) U):
  yV (ev P.j (orc P n) 62) [13] false [.Q4 (.sub (.v 13) (.l (.int 0))) [.Eq] [.sub (.v 1) (.l (.str 20))]] (.v 13) (wF p w pr po lf ms fm none none none none) (.c q.2.1) U K:=
 zE (giL (k:=0) (W.x q hq).1 (by decide) rfl) (zE (giD (W.k p hp) rfl rfl) (ask (b:=decide (jA q.2.2.p=jA p)) (λe=>iE e h) λe=>iE e h))
theorem Co{c:Kc}{d:Dt}{wi wk wl wx:Loc}{p w:Nat}{pr po lf ms fm:Int}{q:Loc×Loc×Ex}{v:Option V}{K:Option V->St->Prop}(W:WdV U c d wi wk wl wx)(hq:q∈d.xs)(h:K (@Bool.rec (λJ=>Option V) none (some (.c q.2.1)) (decide (d.now<q.2.2.u))) U):
  yV (ev P.j (orc P n) 59) [13] false [.Q4 (.sub (.v 13) (.l (.int 3))) [.Gt] [.sub (.v 0) (.l (.str 29))]] (.v 13) (wF p w pr po lf ms fm none v none none) (.c q.2.1) U K:=
 zE (giL (k:=3) (W.x q hq).1 (by decide) rfl) (zE (giD W.w0 rfl rfl) (ask (b:=decide (d.now<q.2.2.u)) (λe=>iE e h) λe=>iE e h))
noncomputable abbrev GL:List IS:=[(.QC (.QT .And [(.Q4 (.sub (.v 9) (.l (.int 1))) [.Eq] [(.v 12)]),(.Q4 (.sub (.v 9) (.l (.int 2))) [.Eq] [(.sub (.v 1) (.l (.str 18)))])]) [(.Q0 (.sub (.v 9) (.l (.int 3))) (.QB .Add (.sub (.v 0) (.l (.str 29))) (.v 6))),(.ret (.l .none))] [])]
theorem m0{c:Kc}{p w:Nat}{pr po lf ms fm:Int}{s:Bool×Bool}{U0:St}{lo:Option Loc}{v10 v11:Option V}{t:T5}{R:List V}{K:KF}(hc:jI U0 lo U=true)(hk:U.get ⟨4,p⟩=some (.dict (wH c p s))):
  ∀{A:List (Loc×Loc×Ex)} {v9:Option V},(∀q∈A,U.get q.2.1=some (.list (aU q.2.2)))->(∀q∈A,(decide (V.int q.2.2.z= .int (c.QF p))&&decide (t5V q.2.2.t=t5V t))=false)->(∀v9,aE (exs (ex P.j (orc P n) 63) GL) (jI U0 lo) [9] false R (wF p w pr po lf ms fm v9 v10 v11 (some (t5V t))) U K)->
  aE (exs (ex P.j (orc P n) 63) GL) (jI U0 lo) [9] false ((A.map λq=> .c q.2.1)++R) (wF p w pr po lf ms fm v9 v10 v11 (some (t5V t))) U K
 |[],_,_,_,h=>h _
 |q::A,v9,hx,hA,h=>by
  have hq:=hx q (.head _)
  have e:=hA q (.head _)
  refine zR rfl (zC (u5 (B:=false) (U':=U) (λK' h=>zE (giL (k:=1) hq (by decide) rfl) ?_) nofun λJ=>zT (zI (zT (zY hc (m0 hc hk (λq hq=>hx q (.tail _ hq)) (λq hq=>hA q (.tail _ hq)) h))))))
  cases a1:decide (t5V q.2.2.t=t5V t) with
  |false=>exact lS (b:=uM .And (decide (t5V q.2.2.t=t5V t))) (by rw[a1];rfl) (vT a1 h)
  |true=>
   rw[a1,Bool.and_true] at e
   exact rV (b:=uM .And (decide (t5V q.2.2.t=t5V t))) (by rw[a1];rfl) (zE (giL (k:=2) hq (by decide) rfl) (zE (giD hk rfl rfl) (vT e h)))
theorem siL{x:Loc}{vs:List V}{k:Nat}{v:V}{F:St->Prop}{N:Prop}(h:U.get x=some (.list vs))(hk:(Nat.blt k vs.length&&Nat.blt vs.length 1000)=true)(h1:F (U.Q6 x (.list (vs.set k v)))): @Option.rec St (λJ=>Prop) N F (setItem (.c x) (.int k) v U):=by
 refine xA (alA hk) λa b=> ?_
 refine zE (a:=U.Q6 x (.list (vs.set k v))) ?_ h1
 show jV (U.get x) _ _ _=_
 rw[h]
 exact if_pos (c:=0<=(k:Int)/\(k:Int).toNat<vs.length/\vs.length<1000) ⟨Int.natCast_nonneg k,alE a,alE b⟩
theorem Iq{c:Kc}{d:Dt}{wi wk wl wx:Loc}{p w:Nat}{pr po lf ms fm:Int}{U0:St}{lo:Option Loc}{v9 v10 v11:Option V}{t:T5}{q:Loc×Loc×Ex}{R:List V}{K:V->St->Prop}{g:BdF}(W:WdV U c d wi wk wl wx)(hp:p<4)(hq:q∈d.xs)(hit:f0 p t (c.QF p) q.2.2=true)(h:K .none (U.Q6 q.2.1 (.list (aU (q.2.2.Rw (d.now+lf)))))):
  aE (exs (ex P.j (orc P n) 63) GL) (jI U0 lo) [9] false (.c q.2.1::R) (wF p w pr po lf ms fm v9 v10 v11 (some (t5V t))) U (sG g (Be K)):=by
 refine xA (alA hit) λa1 e=> ?_
 refine xA (alA e) λa2 a3=> ?_
 have hx:=(W.x q hq).1
 refine zR rfl (zC (dP (U':=U) (λJ h=>zE (giL (k:=1) hx (by decide) rfl) (rV (b:=uM .And (decide (t5V q.2.2.t=t5V t))) (by rw[a3];rfl) (zE (giL (k:=2) hx (by decide) rfl) (zE (giD (W.k p hp) rfl rfl) (vT a2 h))))) ?_))
 exact zC (j6 (zE (giD W.w0 rfl rfl) (siL (k:=3) hx rfl h)))
end
section
variable{n:Nat}{U:St}
noncomputable abbrev EW(p w:Nat)(T:V)(v4 v5 v6 v7 v8:Option V):Env:=[some (.c ⟨3,0⟩),some (.c ⟨4,p⟩),some (.int (Int.ofNat w)),some T,v4,v5,v6,v7,v8,none,none,none,none,none,none,none,none,none,none,none,none]
theorem oth{c:Kc}{p w:Nat}(hw:w<2):[yO (c.a p),yO (c.b p)][1-w]?=some (yO (dK c (p,1-w))):=by rcases lt2 hw with rfl|rfl<;>rfl
theorem Iv{c:Kc}{sc:List Int}{d:Dt}{k:Nat}{wi wk wl wx L:Loc}{p w:Nat}{pr po lf ms fm fv:Int}{K:V->St->Prop}(hf:FM fm fv)(hp:p<4)(hw:w<2)(I:Inv c d k)(hk:k<=400)(G:y8 U)(W:WdV U c d wi wk wl wx)(S:StV U c sc)(hL:U.get L=some (.list ((d.xs.filter λq=>decide (jA q.2.2.p=jA p)).map λq=> .c q.2.1)))
  (hh:∀A q B,d.xs=A++q::B->(∀y∈A,f0 p (aW c p w fv pr po) (c.QF p) y.2.2=false)->f0 p (aW c p w fv pr po) (c.QF p) q.2.2=true->K .none (U.Q6 q.2.1 (.list (aU (q.2.2.Rw (d.now+lf))))))
  (hn:(∀y∈d.xs,f0 p (aW c p w fv pr po) (c.QF p) y.2.2=false)->K .none ((U.new (.list (aU ⟨p,aW c p w fv pr po,c.QF p,d.now+lf⟩))).Q6 wx (.list ((d.xs.map λq=> .c q.2.1)++[.c U.fr])))):
  exs (ex P.j (orc P n) 64) (GT.drop 3) (wF p w pr po lf ms fm none (some (.c L)) none none) U (Be K):=by
 refine uE (v:=yO (dK c (p,1-w))) (Y':=wF p w pr po lf ms fm none (some (.c L)) (some (yO (dK c (p,1-w)))) none) (λJ h=>zE (giD (W.k p hp) rfl rfl) (zE (giN (k:=1-w) (S.e p hp) (by omega) (oth hw) (Hn hw)) h)) rfl rfl ?_
 refine uE (v:=t5V (aW c p w fv pr po)) (Y':=wF p w pr po lf ms fm none (some (.c L)) (some (yO (dK c (p,1-w)))) (some (t5V (aW c p w fv pr po)))) (λJ h=>by cases hf<;>exact h) rfl rfl ?_
 refine zC (c6 (v:= .c L) rfl (q8 (itL hL) ?_))
 have hpx:∀{q},q∈d.xs.filter (λq=>decide (jA q.2.2.p=jA p))->q∈d.xs:=λh=>(alL h).1
 have hno:∀{A:List (Loc×Loc×Ex)},(∀y∈A,f0 p (aW c p w fv pr po) (c.QF p) y.2.2=false)->∀y∈A.filter (λq=>decide (jA q.2.2.p=jA p)),(decide (V.int y.2.2.z= .int (c.QF p))&&decide (t5V y.2.2.t=t5V (aW c p w fv pr po)))=false:=λhA y hy=>by
  have h1:=hA y (alL hy).1
  unfold f0 at h1
  rw[(alL hy).2] at h1
  exact h1
 rcases Em (P:=f0 p (aW c p w fv pr po) (c.QF p)) d.xs with⟨A,q,R,e,hA,hq⟩|h0
 ·have hm:q∈d.xs:=e▸List.mem_append_right _ (.head _)
  rw[show((d.xs.filter λq=>decide (jA q.2.2.p=jA p)).map λq=>V.c q.2.1)=((A.filter λq=>decide (jA q.2.2.p=jA p)).map λq=>V.c q.2.1)++(V.c q.2.1::(R.filter λq=>decide (jA q.2.2.p=jA p)).map λq=>V.c q.2.1) from by
   rw[e,List.filter_append,List.filter_cons_of_pos (p:=λq:Loc×Loc×Ex=>decide (jA q.2.2.p=jA p)) (alA hq).1,List.map_append];rfl]
  exact m0 q9 (W.k p hp) (λy hy=>(W.x y (e▸List.mem_append_left _ (alL hy).1)).1) (hno hA) λv9=>Iq W hp hm hq (hh A q R e hA hq)
 ·have fin:=m0 (K:=sG (exs (ex P.j (orc P n) 64) (GT.drop 6)) (Be K)) (R:=[]) (n:=n) (w:=w) (v10:=some (.c L)) (v11:=some (yO (dK c (p,1-w)))) (pr:=pr) (po:=po) (lf:=lf) (ms:=ms) (fm:=fm) (t:=aW c p w fv pr po) (U0:=U) (lo:=some L) (v9:=none) q9 (W.k p hp) (λy hy=>(W.x y (hpx hy)).1) (hno h0) λv9=>yT (zI ?_)
  ·rw[List.append_nil] at fin
   exact fin
  have z4:(d.xs.map λq=>V.c q.2.1).length<1000:=by rw[alF];have:=I.R4;omega
  exact zC (zE (giD W.w0 rfl rfl) (zE (moL W.ex) (zE (giD (W.k p hp) rfl rfl) (zE (giD (W.k p hp) rfl rfl) (zE (giD W.w0 rfl rfl) (zE (cmL (G.nk W.ex) z4) (uI (zI (hn h0)))))))))
set_option maxHeartbeats 1000000 in
theorem Jh{vs:List V}{K:V->St->Prop}(h:Ib vs U K):z9 P.j (orc P n) NY vs U K:=by
 obtain⟨c,sc,d,k,wi,wk,wl,wx,p,w,pr,po,lf,ms,fm,fv,rfl,hf,hp,hw,hk,I,G,W,S,hb,hh,hn⟩:=h
 have z4:d.xs.length<1000:=by have:=I.R4;omega
 have zf:(d.xs.filter λq=>decide (jA q.2.2.p=jA p)).length<1000:=alI (List.length_filter_le _ _) z4
 refine z8 (Y:=EW p w (Ch pr po lf ms fm) none none none none none) rfl ?_
 refine Ag (vs:=[.int pr,.int po,.int lf,.int ms,.int fm]) (Y':=wF p w pr po lf ms fm none none none none) (λJ h=>h) (λJ h=>h) ?_
 refine zC (j6 (zE (giD W.w0 rfl rfl) (yC (wU rfl (itL W.ex) ((alF _).symm▸z4)) (dW (f:=λq:Loc×Loc×Ex=> .c q.2.1) (g:=λq=> .c q.2.1) (pd:=λq=>decide (jA q.2.2.p=jA p)) (λq hq K' h'=>CA W hp hq h') q9 (zE (j2 ((alF _).symm▸zf)) ?_)))))
 refine jC (Y':=wF p w pr po lf ms fm none (some (.c U.fr)) none none) rfl rfl ?_
 have F1:=(Fr.refl (T:=tn) G).new (o:= .list ((d.xs.filter λq=>decide (jA q.2.2.p=jA p)).map λq=> .c q.2.1))
 have hL:(U.new (.list ((d.xs.filter λq=>decide (jA q.2.2.p=jA p)).map λq=> .c q.2.1))).get U.fr=_:=zJ
 generalize U.new (.list ((d.xs.filter λq=>decide (jA q.2.2.p=jA p)).map λq=> .c q.2.1))=U1 at F1 hL ⊢
 have W1:=W.fr (λJ J=>rfl) F1
 cases e0:(d.st p).1||(d.st p).2 with
 |true=>exact zC (dP (U':=U1) (λJ h=>zE (giD (W1.k p hp) rfl rfl) (lS (b:=uM .Or (decide (7<stI (d.st p)))) ((gt7 _).trans e0) (vT ((gt7 _).trans e0) h))) (hb (by unfold o8;rw[e0];rfl) _ F1))
 |false=>
 have cnt:((d.xs.filter λq=>decide (jA q.2.2.p=jA p)).filter λq=>decide (d.now<q.2.2.u)).length=tU p d.now d.xs:=by
  unfold tU;rw[List.filter_filter]
  exact alQ List.length (alQ (List.filter · d.xs) (funext λq=>Bool.and_comm _ _))
 have zg:((d.xs.filter λq=>decide (jA q.2.2.p=jA p)).filter λq=>decide (d.now<q.2.2.u)).length<1000:=alI (List.length_filter_le _ _) zf
 have F2:=F1.new (o:= .list (((d.xs.filter λq=>decide (jA q.2.2.p=jA p)).filter λq=>decide (d.now<q.2.2.u)).map λq=> .c q.2.1))
 have hL2:=F1.Q3.nk (a:= .list (((d.xs.filter λq=>decide (jA q.2.2.p=jA p)).filter λq=>decide (d.now<q.2.2.u)).map λq=> .c q.2.1)) hL
 refine zC (u5 (B:=decide (ms<=(tU p d.now d.xs:Int))) (U':=U1.new (.list (((d.xs.filter λq=>decide (jA q.2.2.p=jA p)).filter λq=>decide (d.now<q.2.2.u)).map λq=> .c q.2.1))) (λK' h=> ?_) (λe=>hb (by unfold o8;rw[e,Bool.or_true]) _ F2) λe=>zT (zI ?_))
 ·refine zE (giD (W1.k p hp) rfl rfl) (rV (b:=uM .Or (decide (7<stI (d.st p)))) ((gt7 _).trans e0) ?_)
  refine yC (wU rfl (itL hL) ((alF _).symm▸zf)) (dW (f:=λq:Loc×Loc×Ex=> .c q.2.1) (g:=λq=> .c q.2.1) (pd:=λq=>decide (d.now<q.2.2.u)) (λq hq K' h'=>Co W1 (alL hq).1 h') q9 (zE (j2 ((alF _).symm▸zg)) (zE (GF zJ ((alF _).symm▸zg)) (vT ?_ h))))
  rw[alF,cnt]
 have e2:o8 d p ms=false:=by unfold o8;rw[e0,e];rfl
 have W2:=W.fr (λJ J=>rfl) F2
 exact Iv hf hp hw I hk F2.Q3 W2 (S.fr (T:=tn) rfl rfl F2) hL2 (λA q R e' hA hq=>hh e2 A q R e' hA hq _ F2) λh0=>hn e2 h0 _ _ ((At.start F2.Q3).base F2)
end
end
section
section
variable{U:St}{c:Kc}{d:Dt}{xl wi wk wl wx:Loc}
noncomputable abbrev xsD(xs:List (Loc×Loc×Ex))(d:Dt):Dt:=⟨d.now,d.last,d.st,d.QI,d.keys,d.bf,d.wf,xs⟩
noncomputable def tsw(k:Nat):Bool:=sb k||sw k
theorem Pj{k:Nat}(h:sb k=true):tsw k=true:=by unfold tsw;rw[h];rfl
theorem M0{k:Nat}(h:sw k=true):tsw k=true:=by unfold tsw;rw[h];exact Bool.or_true _
theorem EH{k:Nat}(h:ex6 k=true):sb k=true:=BA (P:=λk=>sb k=true) rfl rfl h
theorem Hw{k:Nat}(h:ex7 k=true):sw k=true:=Bk (P:=λk=>sw k=true) rfl rfl h
theorem j5{a b:Loc}{x y:zU}(h1:U.get a=some x)(h2:U.get b=some y)(h:x≠y):a≠b:=λe=>h (alS (h1.symm.trans ((alQ U.get e).trans h2)))
theorem BkV.set(B:BkV U c d xl){x:Loc}{o o':zU}{xs:List (Loc×Loc×Ex)}(hx:U.get x=some o)(hk:x≠⟨1,0⟩/\x≠⟨1,1⟩/\x≠⟨1,2⟩/\x≠⟨1,3⟩/\x.k≠2)(bx:(U.Q6 x o').get xl=some (.list (xs.map λq=> .c q.1)))(hX:∀q∈xs,(U.Q6 x o').get q.1=some (.Qz 420 (eS q.2.2))/\ex6 q.1.k=true):BkV (U.Q6 x o') c (xsD xs d) xl where
 b0:=(zH hk.1.symm).trans B.b0
 b1:=(zH hk.2.1.symm).trans B.b1
 b2:=(zH hk.2.2.1.symm).trans B.b2
 b3:=(zH hk.2.2.2.1.symm).trans B.b3
 bx:=bx
 kx:=B.kx
 x:=hX
 r p hp:=(zH λe=>hk.2.2.2.2 (alQ Loc.k e.symm)).trans (B.r p hp)
 fz:=B.fz
 fl l h:=⟨(B.fl l h).1,by
  by_cases q:l=x
  ·rw[q,zP];exactλz=>nomatch z
  ·rw[zH q];exact(B.fl l h).2⟩
theorem WdV.set(W:WdV U c d wi wk wl wx){x:Loc}{o o':zU}{xs:List (Loc×Loc×Ex)}(hx:U.get x=some o)(hk:x≠⟨3,0⟩/\x≠wi/\x≠wk/\x≠wl/\x.k≠4)(ex:(U.Q6 x o').get wx=some (.list (xs.map λq=> .c q.2.1)))(hX:∀q∈xs,(U.Q6 x o').get q.2.1=some (.list (aU q.2.2))/\ex7 q.2.1.k=true):WdV (U.Q6 x o') c (xsD xs d) wi wk wl wx where
 w0:=(zH hk.1.symm).trans W.w0
 i:=(zH hk.2.1.symm).trans W.i
 ky:=(zH hk.2.2.1.symm).trans W.ky
 fl:=(zH hk.2.2.2.1.symm).trans W.fl
 ex:=ex
 ks:=W.ks
 x:=hX
 k p hp:=(zH λe=>hk.2.2.2.2 (alQ Loc.k e.symm)).trans (W.k p hp)
 dx:=W.dx
 fz:=W.fz
 lv l h:=⟨(W.lv l h).1,by
  by_cases q:l=x
  ·rw[q,zP];exactλz=>nomatch z
  ·rw[zH q];exact(W.lv l h).2⟩
theorem Jq{x:Loc}(h:ex6 x.k=true\/ex7 x.k=true\/sw x.k=true):x≠⟨1,0⟩/\x≠⟨1,1⟩/\x≠⟨1,2⟩/\x≠⟨1,3⟩/\x.k≠2:=by
 have k1:x.k≠1/\x.k≠2:=by
  rcases h with h|h|h
  ·exact BA (P:=λk=>k≠1/\k≠2) (by decide) (by decide) h
  ·exact Bk (P:=λk=>k≠1/\k≠2) (by decide) (by decide) h
  ·have:=hW h
   exact⟨λe=>(by rw[e] at this;exact nomatch this),λe=>(by rw[e] at this;exact nomatch this)⟩
 exact⟨λe=>k1.1 (alQ Loc.k e),λe=>k1.1 (alQ Loc.k e),λe=>k1.1 (alQ Loc.k e),λe=>k1.1 (alQ Loc.k e),k1.2⟩
theorem GM{x:Loc}(h:sb x.k=true\/ex7 x.k=true):x≠⟨3,0⟩/\x.k≠4:=by
 have k1:x.k≠3/\x.k≠4:=by
  rcases h with h|h
  ·have:=lK h
   exact⟨λe=>(by rw[e] at this;exact nomatch this),λe=>(by rw[e] at this;exact nomatch this)⟩
  ·exact Bk (P:=λk=>k≠3/\k≠4) (by decide) (by decide) h
 exact⟨λe=>k1.1 (alQ Loc.k e),k1.2⟩
noncomputable def Cd(P:Ex->Bool)(u:Int):List (Loc×Loc×Ex)->List (Loc×Loc×Ex)
 |[]=>[]
 |q::r=> @Bool.rec (λJ=>List (Loc×Loc×Ex)) (q::Cd P u r) ((q.1,q.2.1,q.2.2.Rw u)::r) (P q.2.2)
theorem nX{P:Ex->Bool}{u:Int}{q:Loc×Loc×Ex}{B:List (Loc×Loc×Ex)}(hq:P q.2.2=true):∀{A:List (Loc×Loc×Ex)},(∀y∈A,P y.2.2=false)->Cd P u (A++q::B)=A++(q.1,q.2.1,q.2.2.Rw u)::B
 |[],_=>by
  show @Bool.rec (λJ=>List (Loc×Loc×Ex)) _ _ (P q.2.2)=_
  rw[hq];rfl
 |a::A,h=>by
  show @Bool.rec (λJ=>List (Loc×Loc×Ex)) (a::Cd P u (A++q::B)) _ (P a.2.2)=_
  rw[h a (.head _),nX hq λy hy=>h y (.tail _ hy)];rfl
theorem IJ{α β:Type}{f:α->β}{A B:List α}{q:α}(h:((A++q::B).map f).Nodup):∀y,y∈A\/y∈B->f y≠f q:=by
 rw[List.map_append,List.map_cons,List.nodup_append] at h
 rintro y (hy|hy) e
 ·exact h.2.2 _ (List.mem_map.mpr ⟨y,hy,rfl⟩) _ (.head _) e
 ·exact(List.nodup_cons.mp h.2.1).1 (List.mem_map.mpr ⟨y,hy,e⟩)
theorem Kg{k:Nat}(B:BkV U c d xl)(I:Inv c d k){A R:List (Loc×Loc×Ex)}{q:Loc×Loc×Ex}{u:Int}(e:d.xs=A++q::R):BkV (U.Q6 q.1 (.Qz 420 (eS (q.2.2.Rw u)))) c (xsD (A++(q.1,q.2.1,q.2.2.Rw u)::R) d) xl:=by
 have hq:=B.x q (e▸List.mem_append_right _ (.head _))
 have nd:=IJ (f:=λq:Loc×Loc×Ex=>q.1) (e▸I.xn)
 have old:∀y,y∈A\/y∈R->(U.Q6 q.1 (.Qz 420 (eS (q.2.2.Rw u)))).get y.1=some (.Qz 420 (eS y.2.2))/\ex6 y.1.k=true:=λy hy=>by
  have hm:y∈d.xs:=e▸hy.elim (List.mem_append_left _) λh=>List.mem_append_right _ (.tail _ h)
  exact⟨(zH (nd y hy)).trans (B.x y hm).1,(B.x y hm).2⟩
 refine B.set hq.1 (Jq (.inl hq.2)) ((zH (j5 B.bx hq.1 nofun)).trans (B.bx.trans ?_)) λy hy=> ?_
 ·rw[e,List.map_append,List.map_append];rfl
 ·rcases List.mem_append.mp hy with hy|hy
  ·exact old y (.inl hy)
  rcases alC hy with rfl|hy
  ·exact⟨zP,hq.2⟩
  ·exact old y (.inr hy)
theorem Ab{xs:List (Loc×Loc×Ex)}{f:Loc×Loc×Ex->Loc}{x:Ex}:zU.list (xs.map λq=> .c (f q))≠ .list (aU x):=λe=>by
 cases xs with
 |nil=>exact nomatch zU.list.inj e
 |cons a r=>exact nomatch (List.cons.inj (zU.list.inj e)).1
theorem IU{k:Nat}(W:WdV U c d wi wk wl wx)(I:Inv c d k){A R:List (Loc×Loc×Ex)}{q:Loc×Loc×Ex}{u:Int}(e:d.xs=A++q::R):WdV (U.Q6 q.2.1 (.list (aU (q.2.2.Rw u)))) c (xsD (A++(q.1,q.2.1,q.2.2.Rw u)::R) d) wi wk wl wx:=by
 have hq:=W.x q (e▸List.mem_append_right _ (.head _))
 have nd:=IJ (f:=λq:Loc×Loc×Ex=>q.2.1) (e▸I.wn)
 have n3:=GM (x:=q.2.1) (.inr hq.2)
 have old:∀y,y∈A\/y∈R->(U.Q6 q.2.1 (.list (aU (q.2.2.Rw u)))).get y.2.1=some (.list (aU y.2.2))/\ex7 y.2.1.k=true:=λy hy=>by
  have hm:y∈d.xs:=e▸hy.elim (List.mem_append_left _) λh=>List.mem_append_right _ (.tail _ h)
  exact⟨(zH (nd y hy)).trans (W.x y hm).1,(W.x y hm).2⟩
 refine W.set hq.1 ⟨n3.1,j5 hq.1 W.i ?_,j5 hq.1 W.ky ?_,j5 hq.1 W.fl ?_,n3.2⟩ ((zH (j5 W.ex hq.1 Ab)).trans (W.ex.trans ?_)) λy hy=> ?_
 ·intro h
  have h:=zU.list.inj h
  match hi:d.QI with
  |[]=>rw[hi] at h;exact nomatch h
  |[_]=>rw[hi] at h;exact nomatch (List.cons.inj h).2
  |_::_::_=>rw[hi] at h;exact nomatch (List.cons.inj (List.cons.inj h).2).1
 ·intro h
  have h:=zU.list.inj h
  match hi:d.keys with
  |[]=>rw[hi] at h;exact nomatch h
  |_::_=>rw[hi] at h;exact nomatch (List.cons.inj h).1
 ·intro h
  have h:=zU.list.inj h
  match hi:d.wf with
  |[]=>rw[hi] at h;exact nomatch h
  |_::_=>rw[hi] at h;exact nomatch (List.cons.inj h).1
 ·rw[e,List.map_append,List.map_append];rfl
 ·rcases List.mem_append.mp hy with hy|hy
  ·exact old y (.inl hy)
  rcases alC hy with rfl|hy
  ·exact⟨zP,hq.2⟩
  ·exact old y (.inr hy)
end
end
section
open PySem (Operator CmpOp BoolOp)
section
variable{U:St}{c:Kc}{d:Dt}{xl wi wk wl wx:Loc}
theorem mC{xs:List (Loc×Loc×Ex)}{f:Loc×Loc×Ex->Loc}{x:Ex}:zU.list (aU x)≠ .list (xs.map λq=> .c (f q)):=λe=>Ab e.symm
theorem GN(W:WdV U c d wi wk wl wx){x:Loc}{fs:List (Nat×V)}{o':zU}(hx:U.get x=some (.Qz 420 fs))(hk:ex6 x.k=true):WdV (U.Q6 x o') c d wi wk wl wx:=
 have n3:=GM (x:=x) (.inl (EH hk))
 W.set (xs:=d.xs) hx ⟨n3.1,j5 hx W.i nofun,j5 hx W.ky nofun,j5 hx W.fl nofun,n3.2⟩ ((zH (j5 W.ex hx nofun)).trans W.ex) λy hy=>⟨(zH (j5 (W.x y hy).1 hx nofun)).trans (W.x y hy).1,(W.x y hy).2⟩
theorem mU(B:BkV U c d xl){x:Loc}{vs:List V}{o':zU}(hx:U.get x=some (.list vs))(hk:ex7 x.k=true\/sw x.k=true)(hn:xl≠x):BkV (U.Q6 x o') c d xl:=
 B.set (xs:=d.xs) hx (Jq (.inr hk)) ((zH hn).trans B.bx) λy hy=>⟨(zH (j5 (B.x y hy).1 hx nofun)).trans (B.x y hy).1,(B.x y hy).2⟩
theorem HX(B:BkV U c d xl){l1:Loc}{x:Ex}(h1:U.get l1=some (.Qz 420 (eS x)))(k1:okd l1.k=true)(l2:Loc):BkV (U.Q6 xl (.list ((d.xs.map λq=> .c q.1)++[.c l1]))) c (xsD (d.xs++[(l1,l2,x)]) d) xl:=by
 refine B.set B.bx ⟨B.kx.2.1,B.kx.2.2.1,B.kx.2.2.2.1,B.kx.2.2.2.2.1,B.kx.2.2.2.2.2⟩ (zP.trans (by rw[List.map_append];rfl)) λy hy=> ?_
 rcases List.mem_append.mp hy with hy|hy
 ·exact⟨(zH (j5 (B.x y hy).1 B.bx nofun)).trans (B.x y hy).1,(B.x y hy).2⟩
 ·rw[alK hy]
  exact⟨(zH (j5 h1 B.bx nofun)).trans h1,dU (P:=λk=>ex6 k=true) rfl k1⟩
theorem Fv(W:WdV U c d wi wk wl wx)(B:BkV U c d xl)(hn:xl∉[wi,wk,wl,wx]){o':zU}:WdV (U.Q6 xl o') c d wi wk wl wx:=
 have n3:=GM (x:=xl) (.inl B.kx.1)
 W.set (xs:=d.xs) B.bx ⟨n3.1,λe=>hn (e▸ .head _),λe=>hn (e▸ .tail _ (.head _)),λe=>hn (e▸ .tail _ (.tail _ (.head _))),n3.2⟩ ((zH λe:wx=xl=>hn (e▸ .tail _ (.tail _ (.tail _ (.head _))))).trans W.ex) λy hy=>⟨(zH (j5 (W.x y hy).1 B.bx mC)).trans (W.x y hy).1,(W.x y hy).2⟩
theorem EA(W:WdV U c d wi wk wl wx){l2:Loc}{x:Ex}(h1:U.get l2=some (.list (aU x)))(k1:okd l2.k=true)(l1:Loc):WdV (U.Q6 wx (.list ((d.xs.map λq=> .c q.2.1)++[.c l2]))) c (xsD (d.xs++[(l1,l2,x)]) d) wi wk wl wx:=by
 have ks:=W.ks wx (.tail _ (.tail _ (.tail _ (.head _))))
 refine W.set W.ex ⟨ks.2.1,W.dx.1,W.dx.2.1,W.dx.2.2,ks.2.2⟩ (zP.trans (by rw[List.map_append];rfl)) λy hy=> ?_
 rcases List.mem_append.mp hy with hy|hy
 ·exact⟨(zH (j5 (W.x y hy).1 W.ex mC)).trans (W.x y hy).1,(W.x y hy).2⟩
 ·rw[alK hy]
  exact⟨(zH (j5 h1 W.ex mC)).trans h1,dU (P:=λk=>ex7 k=true) rfl k1⟩
theorem bU{sc:List Int}(S:StV U c sc)(G:y8 U){x:Loc}{o o':zU}(hx:U.get x=some o)(hk:tsw x.k=true):StV (U.Q6 x o') c sc:=S.fr (T:=tsw) rfl rfl ((Fr.refl G).Q6 hx hk)
theorem DS{k:Nat}(I:Inv c d k){xs:List (Loc×Loc×Ex)}(h1:(xs.map (·.1)).Nodup)(h2:(xs.map (·.2.1)).Nodup)(h3:xs.length<=k+1):Inv c (xsD xs d) (k+1):=
 ⟨I.Rh,I.Ro,I.Rz,I.Ra,I.Rn,I.Rv,I.RI,I.RK,I.RE,I.RJ,I.Ri.R8,I.Ri.RC,I.Ri.RH,I.Ri.RG,h3,h1,h2⟩
theorem kI{P:Ex->Bool}{u:Int}:∀{l:List (Loc×Loc×Ex)},(Cd P u l).map (·.1)=l.map (·.1)/\(Cd P u l).map (·.2.1)=l.map (·.2.1)
 |[]=>⟨rfl,rfl⟩
 |q::r=>by
  have ih:=kI (P:=P) (u:=u) (l:=r)
  show(@Bool.rec (λJ=>List (Loc×Loc×Ex)) (q::Cd P u r) ((q.1,q.2.1,q.2.2.Rw u)::r) (P q.2.2)).map _=_/\(@Bool.rec (λJ=>List (Loc×Loc×Ex)) (q::Cd P u r) ((q.1,q.2.1,q.2.2.Rw u)::r) (P q.2.2)).map _=_
  cases P q.2.2 with
  |true=>exact⟨rfl,rfl⟩
  |false=>exact⟨alQ (q.1:: ·) ih.1,alQ (q.2.1:: ·) ih.2⟩
theorem Fq{k:Nat}(I:Inv c d k){P:Ex->Bool}{u:Int}:Inv c (xsD (Cd P u d.xs) d) (k+1):=
 DS I ((kI (P:=P) (u:=u) (l:=d.xs)).1.symm▸I.xn) ((kI (P:=P) (u:=u) (l:=d.xs)).2.symm▸I.wn) (by have:=alQ List.length (kI (P:=P) (u:=u) (l:=d.xs)).1;rw[alF,alF] at this;rw[this];exact Nat.le_succ_of_le I.R4)
theorem xV{α β:Type}{f:α->β}{l:List α}{a:α}(h:(l.map f).Nodup)(ha:∀y∈l,f y≠f a):((l++[a]).map f).Nodup:=by
 rw[List.map_append,List.nodup_append]
 refine⟨h,List.nodup_cons.mpr ⟨nofun,List.nodup_nil⟩,λx hx y hy=> ?_⟩
 obtain⟨z,hz,rfl⟩:=List.mem_map.mp hx
 exact alK hy▸ha z hz
theorem Bd{k:Nat}(I:Inv c d k){q:Loc×Loc×Ex}(h1:∀y∈d.xs,y.1≠q.1)(h2:∀y∈d.xs,y.2.1≠q.2.1):Inv c (xsD (d.xs++[q]) d) (k+1):=
 DS I (xV I.xn h1) (xV I.wn h2) (by rw[List.length_append];exact Nat.succ_le_succ I.R4)
end
section
variable{n:Nat}{U:St}
structure Wb(U0 U:St)(l b:Loc)(o:zU):Prop where
 A:At U0 l U o
 b0:U0.get b=none
 hb:∃y,U.get b=some (.list [.int y])
 ne:b≠l
theorem Wb.R7{U0:St}{l b:Loc}{o:zU}{K:V->St->Prop}(Q:Wb U0 U l b o){m:Nat}(hm:(Nat.blt 0 m&&Nat.blt m 1000)=true)(h:∀i D,i<m->Wb U0 D l b o->K (.int (Int.ofNat i)) D):lU [.c b,.int (Int.ofNat m)] U K:=by
 refine xE Q.hb λy hy=> ?_
 exact lU.mk b y m rfl hm hy λi y' hi=>h i _ hi ⟨⟨Q.A.f.own Q.b0 hy,Q.A.z,(zH Q.ne.symm).trans Q.A.g,Q.A.k⟩,Q.b0,⟨y',zP⟩,Q.ne⟩
theorem Wb.set{U0:St}{l b:Loc}{o o':zU}(Q:Wb U0 U l b o):Wb U0 (U.Q6 l o') l b o':=⟨Q.A.set,Q.b0,Q.hb.imp λJ h=>(zH Q.ne).trans h,Q.ne⟩
theorem Wb.new{U0:St}{l b:Loc}{o x:zU}(Q:Wb U0 U l b o):Wb U0 (U.new x) l b o:=⟨Q.A.new,Q.b0,Q.hb.imp λJ h=>Q.A.f.Q3.nk h,Q.ne⟩
theorem MA{W:jY}{Φ:Orc}{m:Nat}{ts:List Tg}{vs:List V}{x:Loc}{Y Y':Env}{g:BdF}{K:KF}(hx:U.get x=some (.list vs))(he:∀K':Env->St->Prop,K' Y' U->El (Q0 W Φ (m+1)) ts vs Y U K')(h:g Y' U K):E9 (Q0 W Φ (m+2) (.Q1 ts)) Y (sG g K) (.c x) U:=zE (iM hx) (he _ (jZ h))
noncomputable abbrev hH(b:Loc)(p:Nat)(v5 v6 v7 v8 v9 v10 v11:Option V):Env:=[some (.c ⟨1,0⟩),some (.c ⟨2,p⟩),some (.c ⟨3,0⟩),some (.c ⟨4,p⟩),some (.c b),v5,v6,v7,v8,v9,v10,v11,none,none,none,none,none,none,none,none]
theorem FW{a b:Int}{i:Nat}(h:i<2):∃z:Int,[V.int a,.int b][i]?=some (.int z):=by rcases lt2 h with rfl|rfl<;>exact⟨_,rfl⟩
theorem lt3:∀{w:Nat},w<3->w=0\/w=1\/w=2
 |0,_=> .inl rfl
 |1,_=> .inr (.inl rfl)
 |2,_=> .inr (.inr rfl)
 |w+3,h=>absurd h (Nat.not_lt.mpr (Nat.le_add_left 3 w))
theorem I7{a b c:Int}{i:Nat}(h:i<3):∃z:Int,[V.int a,.int b,.int c][i]?=some (.int z):=by rcases lt3 h with rfl|rfl|rfl<;>exact⟨_,rfl⟩
theorem M3{i:Nat}(h:i<3):∃fm fv:Int,[V.int 0,.int 2,.int 10][i]?=some (.int fm)/\FM fm fv:=by
 rcases lt3 h with rfl|rfl|rfl
 ·exact⟨_,_,rfl,.zero⟩
 ·exact⟨_,_,rfl,.RB⟩
 ·exact⟨_,_,rfl,.RX⟩
set_option maxHeartbeats 1000000 in
theorem J0{vs:List V}{K:V->St->Prop}(h:aT Iy vs U K):z9 P.j (orc P (n+7)) Ov vs U K:=by
 obtain⟨c,sc,d,k,b,x,p,U0,rfl,hp,hk,T,F,h0,hb,h⟩:=h
 refine nI ((T.fr F).W) λwi wk wl wx W=> ?_
 refine z8 (Y:=hH b p none none none none none none none) rfl (zC (zE (giD W.w0 rfl rfl) (K5.mk p d.now rfl F.Q3 λD l pk r hr A=> ?_)))
 refine jC (Y':=hH b p (some (.c l)) none none none none none none) rfl rfl ?_
 have Q:Wb U0 D l b _:=⟨A.base F,h0,⟨x,A.f.get _ _ rfl hb⟩,λe=>vW hb A.z (alQ _ e)⟩
 refine zC (j6 (Q.R7 rfl λw D1 hw Q=>qF rfl (K9 (fs':=wQ pk d.now (.c ⟨2,p⟩) (.int 1) (.int (Int.ofNat w)) r) Q.A.g hr rfl (jZ ?_))))
 have Q:=Q.set (o':= .Qz 738 (wQ pk d.now (.c ⟨2,p⟩) (.int 1) (.int (Int.ofNat w)) r))
 generalize D1.Q6 l (.Qz 738 (wQ pk d.now (.c ⟨2,p⟩) (.int 1) (.int (Int.ofNat w)) r))=D1 at Q ⊢
 refine zC (j6 (Q.R7 rfl λi1 D2 h1 Q=> ?_))
 refine xE (FW (a:=17) (b:=6) h1) λpr e1=> ?_
 refine zE (giT (Nat.lt_trans h1 (by decide)) e1) (Q.R7 rfl λi2 D3 h2 Q=> ?_)
 refine xE (FW (a:=7) (b:=9) h2) λpo e2=> ?_
 refine zE (giT (Nat.lt_trans h2 (by decide)) e2) (Bw (vs:=[.int pr,.int po]) (Y':=hH b p (some (.c l)) (some (.int pr)) (some (.int po)) none none none none) (λJ h=>h) ?_)
 refine zC (j6 (Q.R7 rfl λi3 D4 h3 Q=> ?_))
 refine xE (I7 (a:=5000) (b:=0) (c:=400) h3) λlf e3=> ?_
 refine zE (giT (Nat.lt_trans h3 (by decide)) e3) (Q.R7 rfl λi4 D5 h4 Q=> ?_)
 refine xE (I7 (a:=1) (b:=2) (c:=0) h4) λms e4=> ?_
 refine zE (giT (Nat.lt_trans h4 (by decide)) e4) (Q.R7 rfl λi5 D6 h5 Q=> ?_)
 refine vE (M3 h5) λfm fv e5 hf=> ?_
 refine zE (giT (Nat.lt_trans h5 (by decide)) e5) (MA (vs:=[.int lf,.int ms,.int fm]) (Y':=hH b p (some (.c l)) (some (.int pr)) (some (.int po)) (some (.int lf)) (some (.int ms)) (some (.int fm)) none) zJ (λJ h=>h) ?_)
 have A:=Q.new (x:= .list [.int lf,.int ms,.int fm])|>.A
 generalize D6.new (.list [.int lf,.int ms,.int fm])=D7 at A ⊢
 refine uE (v:=Ch pr po lf ms fm) (Y':=hH b p (some (.c l)) (some (.int pr)) (some (.int po)) (some (.int lf)) (some (.int ms)) (some (.int fm)) (some (Ch pr po lf ms fm))) (λJ h=>h) rfl rfl ?_
 have T7:=T.fr A.f
 refine qX T7.V λxl wi wk wl wx B W hn=> ?_
 have hs:=A.g
 have k':k<=400:=T.hk
 refine zC (Ob.mk c d k xl l pk (.int 1) r p w pr po lf ms fm fv rfl hf hp hw k' T.I T7.G B hs (λe=> ?_) (λe Aq q R eq hA hq=> ?_) λe hno D8 l1 A8=> ?_)
 ·exact zE (ga hs rfl) (Ib.mk c sc d k wi wk wl wx p w pr po lf ms fm fv rfl hf hp hw k' T.I T7.G W T7.S (λJ D F=>iG (alG rfl) (h _ _ ((T7.fr F).Ri hk))) (λe'=>nomatch e.symm.trans e') λe'=>nomatch e.symm.trans e')
 ·have hm:q∈d.xs:=eq▸List.mem_append_right _ (.head _)
  have hx:=B.x q hm
  have hs1:=(zH (o:= .Qz 420 (eS (q.2.2.Rw (d.now+lf)))) (j5 hs hx.1 nofun)).trans hs
  have B1:=Kg (u:=d.now+lf) B T.I eq
  have W1:=GN (o':= .Qz 420 (eS (q.2.2.Rw (d.now+lf)))) W hx.1 hx.2
  have S1:=bU (o':= .Qz 420 (eS (q.2.2.Rw (d.now+lf)))) T7.S T7.G hx.1 (Pj (EH hx.2))
  have G1:=T7.G.Q6 (o':= .Qz 420 (eS (q.2.2.Rw (d.now+lf)))) hx.1
  generalize D7.Q6 q.1 (.Qz 420 (eS (q.2.2.Rw (d.now+lf))))=U1 at hs1 B1 W1 S1 G1 ⊢
  refine zE (ga hs1 rfl) (Ib.mk c sc d k wi wk wl wx p w pr po lf ms fm fv rfl hf hp hw k' T.I G1 W1 S1 (λe'=>nomatch e.symm.trans e') (λJ A' q' R' eq' hA' hq' D Fτ=>iG (alG rfl) ?_) λJ hno=>nomatch (hno q hm).symm.trans hq)
  have Wτ:=W1.fr (λJ J=>rfl) Fτ
  have Bτ:=kF B1 Fτ
  have hx':=Wτ.x q' (eq'▸List.mem_append_right _ (.head _))
  have e1:Aq++(q.1,q.2.1,q.2.2.Rw (d.now+lf))::R=Cd (f0 p (aW c p w fv pr po) (c.QF p)) (d.now+lf) d.xs:=by rw[eq];exact(nX hq hA).symm
  have e2:A'++(q'.1,q'.2.1,q'.2.2.Rw (d.now+lf))::R'=Cd (f0 p (aW c p w fv pr po) (c.QF p)) (d.now+lf) d.xs:=by rw[eq'];exact(nX hq' hA').symm
  have B2:=mU (o':= .list (aU (q'.2.2.Rw (d.now+lf)))) Bτ hx'.1 (.inl hx'.2) (j5 Bτ.bx hx'.1 Ab)
  have W2:=IU (u:=d.now+lf) Wτ T.I eq'
  rw[e1] at B2
  rw[e2] at W2
  exact h _ _ ⟨⟨xl,wi,wk,wl,wx,B2,W2,hn⟩,bU (S1.fr (T:=tn) rfl rfl Fτ) Fτ.Q3 hx'.1 (M0 (Hw hx'.2)),Fτ.Q3.Q6 hx'.1,Fq T.I,hk,T.fw⟩
 ·have B8:=kF B A8.f
  have W8:=W.fr (λJ J=>rfl) A8.f
  have hs8:=A8.f.get _ _ rfl hs
  have hs1:=(zH (o:= .list ((d.xs.map λq=> .c q.1)++[.c l1])) (j5 hs8 B8.bx nofun)).trans hs8
  have B1:=HX B8 A8.g A8.k
  have W1:=Fv (o':= .list ((d.xs.map λq=> .c q.1)++[.c l1])) W8 B8 hn
  have S1:=bU (o':= .list ((d.xs.map λq=> .c q.1)++[.c l1])) (T7.S.fr (T:=tn) rfl rfl A8.f) A8.f.Q3 B8.bx (Pj B8.kx.1)
  have G1:=A8.f.Q3.Q6 (o':= .list ((d.xs.map λq=> .c q.1)++[.c l1])) B8.bx
  generalize D8.Q6 xl (.list ((d.xs.map λq=> .c q.1)++[.c l1]))=U1 at hs1 B1 W1 S1 G1 ⊢
  refine zE (ga hs1 rfl) (Ib.mk c sc d k wi wk wl wx p w pr po lf ms fm fv rfl hf hp hw k' T.I G1 W1 S1 (λe'=>nomatch e.symm.trans e') (λJ A' q' R' eq' hA' hq' D Fτ=>nomatch (hno q' (eq'▸List.mem_append_right _ (.head _))).symm.trans hq') λJ J D l2 A9=>iG (alG rfl) ?_)
  have Wτ:=W1.fr (λJ J=>rfl) A9.f
  have ks:=Wτ.ks wx (.tail _ (.tail _ (.tail _ (.head _))))
  have B2:=mU (o':= .list ((d.xs.map λq=> .c q.2.1)++[.c l2])) (kF (B1 l2) A9.f) Wτ.ex (.inr ks.1) λe=>hn (e▸ .tail _ (.tail _ (.tail _ (.head _))))
  have W2:=EA Wτ A9.g A9.k l1
  exact h _ _ ⟨⟨xl,wi,wk,wl,wx,B2,W2,hn⟩,bU (S1.fr (T:=tn) rfl rfl A9.f) A9.f.Q3 Wτ.ex (M0 ks.1),A9.f.Q3.Q6 Wτ.ex,Bd T.I (λy hy e=>vW (B.x y hy).1 A8.z (alQ _ e)) (λy hy e=>vW (W1.x y hy).1 A9.z (alQ _ e)),hk,T.fw⟩
end
section
variable{n:Nat}{U:St}
theorem Tn.open2{c:Kc}{sc:List Int}{d:Dt}{k:Nat}(T:Tn U c sc d k):∃xl wi wk wl wx,BkV U (c.of [wi,wk,wl,wx]) d xl/\WdV U c d wi wk wl wx:=by
 refine qX T.V λxl wi wk wl wx B W h=> ?_
 exact⟨xl,wi,wk,wl,wx,B.of h W.live,W⟩
theorem BkV.RT{c:Kc}{d d':Dt}{wi wk wl wx xl:Loc}(B:BkV U (c.of [wi,wk,wl,wx]) d' xl)(W:WdV U c d wi wk wl wx):WdV U (c.of [xl]) d wi wk wl wx:=
 W.of (λy hy e=>B.out (λl hl=>(W.ks l hl).1) (alK e▸hy)) λy hy=>alK hy▸nn1 B.bx
theorem WdV.out{c:Kc}{d:Dt}{wi wk wl wx xl:Loc}(W:WdV U (c.of [xl]) d wi wk wl wx)(hs:sb xl.k=true):xl∉[wi,wk,wl,wx]:=λhx=>G5 (W.fz _ hx) (λJ=>Oi hs (W.ks _ hx).1) (.head _)
noncomputable abbrev qT(x:Int)(b:Loc)(p:Nat)(v5 v9 v10 v11 v12 v13 v14:Option V):Env:=[some (.c ⟨1,0⟩),some (.c ⟨9,1⟩),some (.c ⟨3,0⟩),some (.int x),some (.c b),v5,some (.int (Int.ofNat p)),some (.c ⟨2,p⟩),some (.c ⟨4,p⟩),v9,v10,v11,v12,v13,v14,none,none,none,none,none,none,none,none]
noncomputable abbrev NE:List IS:=[(.expr (.call (.l (.obj 312)) [(.v 0),(.v 7)])),(.expr (.call (.l (.obj 775)) [(.v 2),(.v 8)]))]
noncomputable abbrev Oa:List IS:=[(.ret (.Q4 (.call (.l (.obj 720)) [(.call (.l (.obj 806)) [(.v 0),(.v 7),(.sub (.v 2) (.l (.str 29)))])]) [.Eq] [(.call (.l (.obj 787)) [(.v 2),(.v 8)])]))]
theorem JK{c:Kc}{sc:List Int}{d:Dt}{k p m:Nat}{x:Int}{b:Loc}{v5:Option V}{K:KF}(T:Tn U c sc d k)(hp:p<4)(hk:k<400)(h:∀U' d',Tn U' c sc d' (k+1)->K .next (qT x b p v5 none none none none none none) U'):
  exs (ex P.j (orc P (n+10)) (m+20)) NE (qT x b p v5 none none none none none none) U K:=by
 refine qI T.open2 λxl wi wk wl wx B W=> ?_
 refine zC (H2.mk (c.of [wi,wk,wl,wx]) d k xl p rfl hp T.hk T.I.of T.G B λU1 xl1 B1 F1=>uI (zI (zC ?_)))
 have W1:=W.fr (λJ=>hW) F1
 refine Kb.mk (c.of [xl1]) d k wi wk wl wx p rfl hp T.hk T.I.of F1.Q3 (B1.RT W1) λU2 a1 a2 a3 a4 W2 J F2=>uI (zI (zT ?_))
 have B2:=B1.fr (λJ=>lK) F2
 have W2:WdV U2 (c.of [xl1]) (u4 p d) a1 a2 a3 a4:=W2
 exact h U2 (u4 p d) ⟨⟨xl1,a1,a2,a3,a4,B2.un T.fw,W2.un T.fw,W2.out B2.kx.1⟩,(T.S.fr rfl rfl F1).fr rfl rfl F2,F2.Q3,(T.I.drop p).Ri,hk,T.fw⟩
theorem He{c:Kc}{sc:List Int}{d:Dt}{k p m:Nat}{x:Int}{b:Loc}{v5:Option V}{K:KF}(T:Tn U c sc d k)(hp:p<4)(hk:k<400)(h:∀U' d',Tn U' c sc d' (k+1)->K (.ret (.bool true)) (qT x b p v5 none none none none none none) U'):
  exs (ex P.j (orc P (n+10)) (m+20)) Oa (qT x b p v5 none none none none none none) U K:=by
 refine qI T.open2 λxl wi wk wl wx B W=> ?_
 refine zC (zE (giD W.w0 rfl rfl) (K5.mk p d.now rfl T.G λD l pk r hr A=> ?_))
 have Wτ:=W.fr (λJ J=>rfl) A.f
 refine Nw.mk (c.of [wi,wk,wl,wx]) d k xl l p pk (.int 1) (.int 0) r rfl A.g A.k hp hk T.I.of A.f.Q3 (B.fr (λJ J=>rfl) A.f) λU1 xl1 B1 F1=> ?_
 have W1:=Wτ.fr (λJ=>hW) F1
 have S1:=(T.S.fr (T:=tn) rfl rfl A.f).fr (T:=tb) rfl rfl F1
 have B1:BkV U1 (c.of [wi,wk,wl,wx]) (uR c d p).2 xl1:=B1
 refine M2.mk (c.of [xl1]) d k wi wk wl wx p rfl hp hk T.I.of F1.Q3 (B1.RT W1) sc ⟨S1.t0,S1.t4,S1.t5,S1.t6,S1.t7,S1.t8,S1.rl,S1.tl,S1.sc,S1.e⟩ λU2 a1 a2 a3 a4 W2 F2=> ?_
 have B2:=B1.fr (λJ=>lK) F2
 have W2:WdV U2 (c.of [xl1]) (uR c d p).2 a1 a2 a3 a4:=W2
 have fin:=h U2 _ ⟨⟨xl1,a1,a2,a3,a4,B2.un T.fw,W2.un T.fw,W2.out B2.kx.1⟩,S1.fr rfl rfl F2,F2.Q3,BM T.I hp,hk,T.fw⟩
 have e1:rQ (uR (c.of [wi,wk,wl,wx]) d p).1=rQ (uR c d p).1:=rfl
 have e2:rQ (uR (c.of [xl1]) d p).1=rQ (uR c d p).1:=rfl
 rw[e1,e2]
 cases(uR c d p).1 with
 |true=>exact iG (K:=λv U=>K (.ret v) (qT x b p v5 none none none none none none) U) (alG rfl) fin
 |false=>exact iG (K:=λv U=>K (.ret v) (qT x b p v5 none none none none none none) U) (alG rfl) fin
end
section
variable{n:Nat}{U:St}
structure Bg(U0 U:St)(b:Loc):Prop where
 F:Fr tn U0 U
 b0:U0.get b=none
 hb:∃y,U.get b=some (.list [.int y])
theorem Bg.R7{U0:St}{b:Loc}{K:V->St->Prop}(Q:Bg U0 U b){m:Nat}(hm:(Nat.blt 0 m&&Nat.blt m 1000)=true)(h:∀i D,i<m->Bg U0 D b->K (.int (Int.ofNat i)) D):lU [.c b,.int (Int.ofNat m)] U K:=by
 refine xE Q.hb λy hy=> ?_
 exact lU.mk b y m rfl hm hy λi y' hi=>h i _ hi ⟨Q.F.own Q.b0 hy,Q.b0,⟨y',zP⟩⟩
noncomputable def mS(key:V)(r:Ref):List (V×Ref)->List (V×Ref)
 |[]=>[(key,r)]
 |x::l=> @Bool.rec (λJ=>List (V×Ref)) (x::mS key r l) ((x.1,r)::l) (V.beq x.1 key)
theorem Ec{key:V}{r:Ref}:∀{l:List (V×Ref)},uG (flE l) key (u7 r)=flE (mS key r l)
 |[]=>rfl
 |x::l=>by
  show @Bool.rec (λJ=>List (V×V)) ((x.1,u7 x.2)::uG (flE l) key (u7 r)) ((x.1,u7 r)::flE l) (V.beq x.1 key)=flE (@Bool.rec (λJ=>List (V×Ref)) (x::mS key r l) ((x.1,r)::l) (V.beq x.1 key))
  cases V.beq x.1 key with
  |true=>rfl
  |false=>exact alQ ((x.1,u7 x.2):: ·) (Ec (l:=l))
theorem bM{key:V}{r:Ref}:∀{l:List (V×Ref)},(l.map (·.1)).Nodup->∀x,x∈mS key r l↔(x∈l/\x.1≠key)\/x=(key,r)
 |[],_,x=>⟨λh=> .inr (alK h),λh=>h.elim (λh=>nomatch h.1) λh=>h▸ .head _⟩
 |a::l,hn,x=>by
  have hn:=List.nodup_cons.mp hn
  show x∈ @Bool.rec (λJ=>List (V×Ref)) (a::mS key r l) ((a.1,r)::l) (V.beq a.1 key)↔_
  cases e:V.beq a.1 key with
  |true=>
   have e:=(V.QM _ _).mp e
   have hk:∀y∈l,y.1≠key:=λy hy z=>hn.1 (List.mem_map.mpr ⟨y,hy,z.trans e.symm⟩)
   refine⟨λh=>(alC h).elim (λh=> .inr (by rw[h,e])) λh=> .inl ⟨.tail _ h,hk x h⟩,λh=>h.elim (λh=>(alC h.1).elim (λz=>absurd (z▸e) h.2) (.tail _)) λh=>by rw[h,<-e];exact .head _⟩
  |false=>
   have e:a.1≠key:=λz=>nomatch e.symm.trans ((V.QM _ _).mpr z)
   have ih:=bM (key:=key) (r:=r) hn.2 x
   refine⟨λh=>(alC h).elim (λh=> .inl ⟨h▸ .head _,h▸e⟩) λh=>(ih.mp h).imp (λh=>⟨.tail _ h.1,h.2⟩) id,λh=> ?_⟩
   exact h.elim (λh=>(alC h.1).elim (λz=>z▸ .head _) λz=> .tail _ (ih.mpr (.inl ⟨z,h.2⟩))) λh=> .tail _ (ih.mpr (.inr h))
theorem Ai{key:V}{r:Ref}:∀{l:List (V×Ref)},(l.map (·.1)).Nodup->((mS key r l).map (·.1)).Nodup
 |[],_=>List.nodup_cons.mpr ⟨nofun,List.nodup_nil⟩
 |a::l,hn=>by
  have hn':=List.nodup_cons.mp hn
  show((@Bool.rec (λJ=>List (V×Ref)) (a::mS key r l) ((a.1,r)::l) (V.beq a.1 key)).map (·.1)).Nodup
  cases e:V.beq a.1 key with
  |true=>exact hn
  |false=>
   refine List.nodup_cons.mpr ⟨λh=> ?_,Ai hn'.2⟩
   obtain⟨y,hy,z⟩:=List.mem_map.mp h
   exact((bM hn'.2 y).mp hy).elim (λh=>hn'.1 (List.mem_map.mpr ⟨y,h.1,z⟩)) λh=>nomatch e.symm.trans ((V.QM _ _).mpr (by rw[h] at z;exact z.symm))
theorem o9{key:V}{r:Ref}:∀{l:List (V×Ref)},(mS key r l).length<=l.length+1
 |[]=>Nat.le_refl _
 |a::l=>by
  show(@Bool.rec (λJ=>List (V×Ref)) (a::mS key r l) ((a.1,r)::l) (V.beq a.1 key)).length<=_
  cases V.beq a.1 key with
  |true=>exact Nat.le_succ _
  |false=>exact Nat.succ_le_succ o9
noncomputable abbrev flD(key:V)(r:Ref)(d:Dt):Dt:=⟨d.now,d.last,d.st,d.QI,d.keys,mS key r d.bf,d.wf.filter (λx=>decide (x.1≠key))++[(key,r)],d.xs⟩
theorem Ky{c:Kc}{d:Dt}{k:Nat}(I:Inv c d k){z t:Int}{r:Ref}:Inv c (flD (qS z t) r d) (k+1) where
 Rh:=I.Rh
 Ro:=I.Ro
 Rz:=I.Rz
 Ra:=I.Ra
 Rn:=I.Rn
 Rv:=I.Rv
 RI:=Ai I.RI
 RK:=xV (jB I.RK) λy hy=>alH (alL hy).2
 RE x hx:=((bM I.RI x).mp hx).elim (λh=>I.RE x h.1) λh=>⟨z,t,by rw[h]⟩
 RJ x:=by
  show x∈mS _ _ _↔x∈_++_
  rw[bM I.RI,List.mem_append,List.mem_filter,List.mem_singleton,decide_eq_true_iff,I.RJ x]
 R8:=I.Ri.R8
 RC:=I.Ri.RC
 RH:=alJ o9 (Nat.succ_le_succ I.RH)
 RG:=by rw[List.length_append];exact Nat.succ_le_succ (alJ (List.length_filter_le _ _) I.RG)
 R4:=I.Ri.R4
 xn:=I.xn
 wn:=I.wn
noncomputable abbrev N3:List IS:=[(.Q0 (.Q1 [(.v 9),(.v 10)]) (.Q1 [(.Q1 [(.call (.l (.obj 751)) [(.v 4),(.l (.int 2))]),(.call (.l (.obj 758)) [(.call (.l (.obj 751)) [(.v 4),(.l (.int 6))])])]),(.call (.l (.obj 751)) [(.v 4),(.l (.int 2))])])),(.Q0 (.sub (.Qy (.v 0) 22) (.v 9)) (.Q1 [(.QB .Add (.v 6) (.l (.int 1))),(.v 10)])),(.Q0 (.sub (.v 2) (.l (.str 22))) (.QB .Add (.comp (.v 15) [15] false (.sub (.v 2) (.l (.str 22))) [(.Q4 (.sub (.v 15) (.l (.int 0))) [.NotEq] [(.v 9)])]) (.QN [(.Q1 [(.v 9),(.QB .Add (.v 6) (.l (.int 1))),(.v 10)])])))]
theorem Gc{m:Nat}{x:Int}{b:Loc}{p:Nat}{v5 v10:Option V}{z t z' t':Int}{r:Ref}{K:Option V->St->Prop}(h:K (@Bool.rec (λJ=>Option V) none (some (oF (qS z' t') r)) (decide (qS z' t'≠qS z t))) U):
  yV (ev P.j (orc P (n+10)) (m+16)) [15] false [.Q4 (.sub (.v 15) (.l (.int 0))) [.NotEq] [.v 9]] (.v 15) (qT x b p v5 (some (qS z t)) v10 none none none none) (oF (qS z' t') r) U K:=
 ask (b:= !decide (qS z' t'=qS z t)) (λe=>iE (decide_not.trans e) h) λe=>iE (decide_not.trans e) h
set_option maxHeartbeats 1000000 in
theorem JO{c:Kc}{sc:List Int}{d:Dt}{k p m:Nat}{x:Int}{U0:St}{b:Loc}{v5:Option V}{K:KF}(T:Tn U0 c sc d k)(Q:Bg U0 U b)(hp:p<4)(hk:k<400)(h:∀U' d' Y',Tn U' c sc d' (k+1)->K .next Y' U'):
  exs (ex P.j (orc P (n+10)) (m+20)) N3 (qT x b p v5 none none none none none none) U K:=by
 refine zC (j6 (Q.R7 rfl λz D1 hz Q=>Q.R7 rfl λt D2 ht Q=>Q.R7 rfl λw D3 hw Q=> ?_))
 refine Bw (vs:=[qS (Int.ofNat z) (Int.ofNat t),.int (Int.ofNat w)]) (Y':=qT x b p v5 (some (qS (Int.ofNat z) (Int.ofNat t))) (some (.int (Int.ofNat w))) none none none none) (λJ h=>h) ?_
 have T3:=T.fr Q.F
 refine qX T3.V λxl wi wk wl wx B W hd=> ?_
 have z3:(flE d.bf).length<1000:=by rw[alF];have:=T.I.RH;omega
 have z5:d.wf.length<900:=by have:=T.I.RG;omega
 refine zC (j6 (zE (ga B.b0 rfl) (Ha (es':=flE (mS (qS (Int.ofNat z) (Int.ofNat t)) (p,w) d.bf)) B.b3 (o0 T.I.RE rfl) z3 (Ec (key:=qS (Int.ofNat z) (Int.ofNat t)) (r:=(p,w)) (l:=d.bf)) (jZ ?_))))
 have F4:=(Fr.refl (T:=tb) T3.G).Q6 (o':= .dict (flE (mS (qS (Int.ofNat z) (Int.ofNat t)) (p,w) d.bf))) B.b3 rfl
 have B4:BkV (D3.Q6 ⟨1,3⟩ (.dict (flE (mS (qS (Int.ofNat z) (Int.ofNat t)) (p,w) d.bf)))) c (flD (qS (Int.ofNat z) (Int.ofNat t)) (p,w) d) xl:=⟨(zH (by decide:(⟨1,0⟩:Loc)≠⟨1,3⟩)).trans B.b0,(zH (by decide:(⟨1,1⟩:Loc)≠⟨1,3⟩)).trans B.b1,(zH (by decide:(⟨1,2⟩:Loc)≠⟨1,3⟩)).trans B.b2,zP,(zH B.kx.2.2.2.2.1).trans B.bx,B.kx,λq hq=>⟨(zH (j5 (B.x q hq).1 B.b3 nofun)).trans (B.x q hq).1,(B.x q hq).2⟩,λa ha=>(zH λe=>Nat.noConfusion (alQ Loc.k e:2=1) λe=>nomatch e).trans (B.r a ha),B.fz,B.fl.fr F4 rfl⟩
 generalize D3.Q6 ⟨1,3⟩ (.dict (flE (mS (qS (Int.ofNat z) (Int.ofNat t)) (p,w) d.bf)))=D4 at F4 B4 ⊢
 have W4:=W.fr (λJ=>hW) F4
 have G:=F4.Q3
 have hf:(d.wf.filter λy=>decide (y.1≠qS (Int.ofNat z) (Int.ofNat t))).length<900:=alI (List.length_filter_le _ _) z5
 refine zC (j6 (zE (giD W4.w0 rfl rfl) (yC (wU rfl (itL W4.fl) ((alF _).symm▸Nat.lt_trans z5 (by decide))) (dW (f:=λy:V×Ref=>oF y.1 y.2) (g:=λy=>oF y.1 y.2) (pd:=λy=>decide (y.1≠qS (Int.ofNat z) (Int.ofNat t))) (λy hy K' h'=> ?_) q9 ?_))))
 ·refine xEE (T.I.RE y ((T.I.RJ y).mpr hy)) λz' t' e=> ?_
  obtain⟨y1,y2⟩:=y
  have e:y1=qS z' t':=e
  subst e
  exact Gc h'
 refine zE (j2 ((alF _).symm▸Nat.lt_trans hf (by decide))) (zE (K7 (G.new.nk zJ) zJ ?_) (FY (es':=qJ d.now wi wk (St.fr _) wx) rfl G.new.new (G.new.nk (G.nk W4.w0)) rfl rfl rfl λU' jjZ=>jZ (zT ?_)))
 ·rw[alF];exact Nat.succ_lt_succ (Nat.lt_trans hf (by decide))
 have o6:∀l o,l≠⟨3,0⟩->D4.get l=some o->U'.get l=some o:=λl o hl e=>jjZ.o l o hl (G.new.nk (G.nk e))
 have F6:=((Fr.refl (T:=tw) G).new.new).trans jjZ.f
 have no:∀{l o},D4.get l=some o->l≠⟨D4.kd,D4.next+1+1⟩:=λe=>y8.ne (U:=(D4.new (.list [])).new (.list [])) G.new.new (G.new.nk (G.nk e))
 have ks:=W4.ks
 refine h U' (flD (qS (Int.ofNat z) (Int.ofNat t)) (p,w) d) _ ⟨⟨xl,wi,wk,_,wx,B4.fr (λJ=>lK) F6,⟨jjZ.w,o6 _ _ (ks wi (.head _)).2.1 W4.i,o6 _ _ (ks wk (.tail _ (.head _))).2.1 W4.ky,jjZ.a.trans (alQ (λl=>some (zU.list l)) ?_),o6 _ _ (ks wx (.tail _ (.tail _ (.tail _ (.head _))))).2.1 W4.ex,λl hl=> ?_,λq hq=>⟨o6 _ _ (x4 (W4.x q hq).2).1 (W4.x q hq).1,(W4.x q hq).2⟩,λa ha=>o6 _ _ nofun (W4.k a ha),⟨W4.dx.1,W4.dx.2.1,no W4.ex⟩,λl J=>T.fw l,λl hl=>nomatch (T.fw l).symm.trans hl⟩,λhm=> ?_⟩,(T3.S.fr rfl rfl F4).fr rfl rfl F6,F6.Q3,Ky T.I,hk,T.fw⟩
 ·rw[List.map_append];rfl
 ·rcases alC hl with rfl|hl
  ·exact ks _ (.head _)
  rcases alC hl with rfl|hl
  ·exact ks _ (.tail _ (.head _))
  rcases alC hl with rfl|hl
  ·exact k0s (l:=⟨D4.kd,D4.next+1+1⟩) (y8.o G)
  exact alK hl▸ks _ (.tail _ (.tail _ (.tail _ (.head _))))
 ·rcases alC hm with e|hm
  ·exact hd (e▸ .head _)
  rcases alC hm with e|hm
  ·exact hd (e▸ .tail _ (.head _))
  rcases alC hm with e|hm
  ·exact no B4.bx e
  exact hd (alK hm▸ .tail _ (.tail _ (.tail _ (.head _))))
end
section
variable{n:Nat}{U:St}
noncomputable abbrev Me:List IS:=[(.Q0 (.Q1 [(.v 11),(.v 12)]) (.Q1 [(.call (.l (.obj 751)) [(.v 4),(.l (.int 2))]),(.sub (.sub (.v 8) (.l (.str 46))) (.l (.int 1)))])),(.Q0 (.v 13) (.Q1 [(.l (.int 2)),(.l (.int 17)),(.sub (.v 12) (.l (.int 2))),(.sub (.v 12) (.l (.int 4))),(.sub (.Q1 [(.l (.int 7)),(.l (.int 9))]) (.call (.l (.obj 751)) [(.v 4),(.l (.int 2))]))])),(.Q0 (.v 14) (.QB .Add (.sub (.v 2) (.l (.str 29))) (.sub (.Q1 [(.l (.int 0)),(.l (.int 400)),(.l (.int 5000)),(.l (.int 1))]) (.call (.l (.obj 751)) [(.v 4),(.l (.int 4))])))),(.Q0 (.Qy (.v 0) 23) (.QB .Add (.Qy (.v 0) 23) (.QN [(.call (.l (.obj 420)) [(.QB .Add (.v 6) (.l (.int 1))),(.v 13),(.v 11),(.v 14)])]))),(.expr (.Rs (.sub (.v 2) (.l (.str 23))) 0 [(.QN [(.QB .Add (.v 6) (.l (.int 1))),(.v 13),(.v 11),(.v 14)])]))]
theorem m6{W:jY}{Φ:Orc}{m i:Nat}{e:IR}{Y:Env}{r:List IS}{K:KF}{Q:V->St->Prop}{Y':V->Env}(he:∀K':V->St->Prop,(∀v D,Q v D->K' v D)->ev W Φ (m+1) Y e U K')(hb:Nat.blt i Y.length=true)(hr:∀v,Y.set i (some v)=Y' v)(k:∀v D,Q v D->exs (ex W Φ (m+2)) r (Y' v) D K):exs (ex W Φ (m+2)) (.Q0 (.v i) e::r) Y U K:=zC (j6 (he _ λv D q=>jC hb (hr v) (k v D q)))
theorem Bn{W:jY}{Φ:Orc}{m:Nat}{ts:List Tg}{e:IR}{Y:Env}{r:List IS}{K:KF}{Q:List V->St->Prop}{Y':List V->Env}(he:∀K':V->St->Prop,(∀vs D,Q vs D->K' (.Q1 vs) D)->ev W Φ (m+2) Y e U K')(ht:∀vs D,Q vs D->∀K':Env->St->Prop,K' (Y' vs) D->El (Q0 W Φ (m+1)) ts vs Y D K')(k:∀vs D,Q vs D->exs (ex W Φ (m+3)) r (Y' vs) D K):exs (ex W Φ (m+3)) (.Q0 (.Q1 ts) e::r) Y U K:=zC (j6 (he _ λvs D q=>Bw (ht vs D q) (k vs D q)))
noncomputable def hd0(vs:List V):V:=vs.headD .none
set_option maxHeartbeats 1000000 in
theorem I8{c:Kc}{sc:List Int}{d:Dt}{k p m:Nat}{x:Int}{U0:St}{b:Loc}{v5:Option V}{K:KF}(T:Tn U0 c sc d k)(Q:Bg U0 U b)(hp:p<4)(hk:k<400)(h:∀U' d' Y',Tn U' c sc d' (k+1)->K .next Y' U'):
  exs (ex P.j (orc P (n+10)) (m+20)) Me (qT x b p v5 none none none none none none) U K:=by
 refine nI ((T.fr Q.F).W) λwi wk wl wx W=> ?_
 refine Bn (Q:=λvs D=>(∃z:Nat,vs=[.int (Int.ofNat z),yO (c.b p)])/\Bg U0 D b) (Y':=λvs=>qT x b p v5 none none (some (hd0 vs)) (some (yO (c.b p))) none none) (λK' hK=>Q.R7 rfl λz D hz Q=> ?_) (λvs D hv K' h=> ?_) λvs D1 hv=> ?_
 ·have T1:=T.fr Q.F
  refine nI T1.W λwi wk wl wx W=> ?_
  exact zE (giD (W.k p hp) rfl rfl) (zE (giL (k:=1) (T1.S.e p hp) (by decide) rfl) (hK _ _ ⟨⟨z,rfl⟩,Q⟩))
 ·obtain⟨⟨z,rfl⟩,_⟩:=hv
  exact h
 obtain⟨⟨z,rfl⟩,Q⟩:=hv
 refine m6 (Q:=λv D=>∃po,v=t5V (2,17,167772161+Int.fmod (c.b p) 3,167772164+Int.fdiv (c.b p) 3,po)/\Bg U0 D b) (Y':=λv=>qT x b p v5 none none (some (hd0 [.int (Int.ofNat z),yO (c.b p)])) (some (yO (c.b p))) (some v) none) (λK' hK=>Q.R7 rfl λi D hi Q=> ?_) rfl (λJ=>rfl) λv D2 hv=> ?_
 ·refine xE (FW (a:=7) (b:=9) hi) λpo e=> ?_
  exact zE (giT (Nat.lt_trans hi (by decide)) e) (hK _ _ ⟨po,rfl,Q⟩)
 refine xEA hv λpo e_1 Q=> ?_
 subst e_1
 refine nI ((T.fr Q.F).W) λwi wk wl wx W=> ?_
 refine m6 (Q:=λv D=>∃u,v= .int u/\Bg U0 D b) (Y':=λv=>qT x b p v5 none none (some (hd0 [.int (Int.ofNat z),yO (c.b p)])) (some (yO (c.b p))) (some (t5V (2,17,167772161+Int.fmod (c.b p) 3,167772164+Int.fdiv (c.b p) 3,po))) (some v)) (λK' hK=>zE (giD W.w0 rfl rfl) (Q.R7 rfl λi D hi Q=> ?_)) rfl (λJ=>rfl) λv D3 hv=> ?_
 ·obtain⟨u,e⟩:∃u:Int,[V.int 0,.int 400,.int 5000,.int 1][i]?=some (.int u):=tW (P:=λi=>∃u:Int,[V.int 0,.int 400,.int 5000,.int 1][i]?=some (.int u)) ⟨_,rfl⟩ ⟨_,rfl⟩ ⟨_,rfl⟩ ⟨_,rfl⟩ hi
  exact zE (giT (Nat.lt_trans hi (by decide)) e) (hK _ _ ⟨_,rfl,Q⟩)
 refine xEA hv λu e_1 Q=> ?_
 subst e_1
 have T3:=T.fr Q.F
 refine qX T3.V λxl wi wk wl wx B W hd=> ?_
 have z4:d.xs.length<400:=by have:=T.I.R4;omega
 refine zC (j6 (zE (ga B.b0 rfl) (KM.mk ⟨p,(2,17,167772161+Int.fmod (c.b p) 3,167772164+Int.fdiv (c.b p) 3,po),Int.ofNat z,u⟩ rfl T3.G λD4 l1 A=> ?_)))
 have b0:=A.f.get _ _ rfl B.b0
 have bx:=A.f.get _ _ rfl B.bx
 have G4:=A.f.Q3
 refine zE (K7 (G4.nk bx) zJ (by rw[alF];exact Nat.succ_lt_succ (Nat.lt_trans z4 (by decide)))) (qF rfl (K9 (fs':=qB (St.fr _) d.last) (G4.new.nk (G4.nk b0)) rfl rfl (jZ ?_)))
 have F6:=A.f.new (o:= .list [.c l1])|>.new (o:= .list ((d.xs.map λq=> .c q.1)++[.c l1]))
 have l6:=G4.new.nk (a:= .list ((d.xs.map λq=> .c q.1)++[.c l1])) (G4.nk (a:= .list [.c l1]) A.g)
 have n6:((D4.new (.list [.c l1])).new (.list ((d.xs.map λq=> .c q.1)++[.c l1]))).get (D4.new (.list [.c l1])).fr=_:=zJ
 have fx:∀{l o},D3.get l=some o->l≠(D4.new (.list [.c l1])).fr:=λe=>y8.ne (U:=D4.new (.list [.c l1])) G4.new (G4.nk (A.f.get _ _ rfl e))
 have kf:=kxF (l:=(D4.new (.list [.c l1])).fr) (show okd D4.kd=true from G4.o)
 generalize (D4.new (.list [.c l1])).fr=x2 at n6 fx kf ⊢
 generalize (D4.new (.list [.c l1])).new (.list ((d.xs.map λq=> .c q.1)++[.c l1]))=D6 at F6 l6 n6 ⊢
 have B6:=kF B F6
 have F7:=(Fr.refl (T:=tb) F6.Q3).Q6 (o':= .Qz 240 (qB x2 d.last)) B6.b0 rfl
 have W7:=(W.fr (λJ J=>rfl) F6).fr (λJ=>hW) F7
 have S7:=(T3.S.fr (T:=tn) rfl rfl F6).fr (T:=tb) rfl rfl F7
 have B7:∀l2,BkV (D6.Q6 ⟨1,0⟩ (.Qz 240 (qB x2 d.last))) c (xsD (d.xs++[(l1,l2,⟨p,(2,17,167772161+Int.fmod (c.b p) 3,167772164+Int.fdiv (c.b p) 3,po),Int.ofNat z,u⟩)]) d) x2:=λl2=>⟨zP,(zH (by decide:(⟨1,1⟩:Loc)≠⟨1,0⟩)).trans B6.b1,(zH (by decide:(⟨1,2⟩:Loc)≠⟨1,0⟩)).trans B6.b2,(zH (by decide:(⟨1,3⟩:Loc)≠⟨1,0⟩)).trans B6.b3,(zH kf.2.1).trans (n6.trans (by rw[List.map_append];rfl)),kf,λq hq=> ?_,λa ha=>(zH λe=>Nat.noConfusion (alQ Loc.k e:2=1) λe=>nomatch e).trans (B6.r a ha),T.fw _,λl hl=>nomatch (T.fw l).symm.trans hl⟩
 ·generalize D6.Q6 ⟨1,0⟩ (.Qz 240 (qB x2 d.last))=D7 at F7 W7 S7 B7 ⊢
  have ks:=W7.ks wx (.tail _ (.tail _ (.tail _ (.head _))))
  have z5:(d.xs.map λq=>V.c q.2.1).length<1000:=by rw[alF];exact Nat.lt_trans z4 (by decide)
  refine zC (zE (giD W7.w0 rfl rfl) (zE (moL W7.ex) (zE (cmL (F7.Q3.nk W7.ex) z5) (uI (zI (zT ?_))))))
  have A8:=At.start (o:= .list (aU ⟨p,(2,17,167772161+Int.fmod (c.b p) 3,167772164+Int.fdiv (c.b p) 3,po),Int.ofNat z,u⟩)) F7.Q3
  have W8:=W7.fr (λJ J=>rfl) A8.f
  have wxl:x2≠wx:=(fx W.ex).symm
  have B2:=mU (o':= .list ((d.xs.map λq=> .c q.2.1)++[.c D7.fr])) (kF (B7 D7.fr) A8.f) W8.ex (.inr ks.1) wxl
  have W2:=EA W8 A8.g A8.k l1
  refine h _ _ _ ⟨⟨x2,wi,wk,wl,wx,B2,W2,λhm=> ?_⟩,bU (S7.fr (T:=tn) rfl rfl A8.f) A8.f.Q3 W8.ex (M0 ks.1),A8.f.Q3.Q6 W8.ex,Bd T.I (λy hy e=>vW (B.x y hy).1 A.z (alQ _ e)) (λy hy e=>vW (W7.x y hy).1 A8.z (alQ _ e)),hk,T.fw⟩
  rcases alC hm with e|hm
  ·exact fx W.i e.symm
  rcases alC hm with e|hm
  ·exact fx W.ky e.symm
  rcases alC hm with e|hm
  ·exact fx W.fl e.symm
  exact fx W.ex (alK hm).symm
 ·rcases List.mem_append.mp hq with hq|hq
  ·exact⟨(zH (j5 (B6.x q hq).1 B6.b0 nofun)).trans (B6.x q hq).1,(B6.x q hq).2⟩
  ·rw[alK hq]
   exact⟨(zH (j5 l6 B6.b0 nofun)).trans l6,dU (P:=λk=>ex6 k=true) rfl A.k⟩
end
section
variable{n:Nat}{U:St}
noncomputable abbrev fO(x:Int)(v4 v5 v6 v7 v8:Option V):Env:=[some (.c ⟨1,0⟩),some (.c ⟨9,1⟩),some (.c ⟨3,0⟩),some (.int x),v4,v5,v6,v7,v8,none,none,none,none,none,none,none,none,none,none,none,none,none,none]
set_option maxHeartbeats 1000000 in
theorem JV{vs:List V}{K:V->St->Prop}(h:MU vs U K):z9 P.j (orc P (n+10)) Op vs U K:=by
 obtain⟨c,sc,d,k,x,rfl,hk,T,h⟩:=h
 refine z8 (Y:=fO x none none none none none) rfl ?_
 refine uE (v:= .c U.fr) (U':=U.new (.list [.int x])) (Y':=fO x (some (.c U.fr)) none none none none) (λJ h=>h) rfl rfl ?_
 have Q:Bg U (U.new (.list [.int x])) U.fr:=⟨(Fr.refl T.G).new,T.G.d _ (Nat.le_refl _),⟨x,zJ⟩⟩
 generalize U.new (.list [.int x])=D0 at Q ⊢
 generalize U.fr=b at Q ⊢
 refine m6 (Q:=λv D=>∃j:Nat,v= .int (Int.ofNat j)/\Bg U D b) (Y':=λv=>fO x (some (.c b)) (some v) none none none) (λK' hK=>Q.R7 rfl λj D hj Q=>hK _ _ ⟨j,rfl,Q⟩) rfl (λJ=>rfl) λv D1 hv=> ?_
 refine xEA hv λj e_1 Q=> ?_
 subst e_1
 refine xE Q.hb λy hy=> ?_
 refine zC (u5 (B:=decide (V.int (Int.ofNat j)=V.int 1)) (U':=D1) (λJ h=>h) (λJ=>zC (aT.mk c sc d k b y 0 U rfl (by decide) hk T Q.F Q.b0 hy h)) λJ=>zT (zI ?_))
 refine zC (u5 (B:=decide (V.int (Int.ofNat j)=V.int 5)) (U':=D1) (λJ h=>h) (λJ=>zC (aT.mk c sc d k b y 0 U rfl (by decide) hk T Q.F Q.b0 hy h)) λJ=>zT (zI ?_))
 refine m6 (Q:=λv D=>∃p:Nat,p<4/\v= .int (Int.ofNat p)/\Bg U D b) (Y':=λv=>fO x (some (.c b)) (some (.int (Int.ofNat j))) (some v) none none) (λK' hK=>Q.R7 rfl λp D hp Q=>hK _ _ ⟨p,hp,rfl,Q⟩) rfl (λJ=>rfl) λv D2 hv=> ?_
 refine eO hv λp hp e_2 Q=> ?_
 subst e_2
 have T2:=T.fr Q.F
 refine nI T2.W λwi wk wl wx W=> ?_
 refine Ag (vs:=[.c ⟨2,p⟩,.c ⟨4,p⟩]) (Y':=qT x b p (some (.int (Int.ofNat j))) none none none none none none) (λJ h=>zE (giL (k:=p) T2.S.rl (iU hp) (ET hp)) (zE (giD W.w0 rfl rfl) (zE (giL (k:=p) T2.S.tl (iU hp) (MT hp)) h))) (λJ h=>h) ?_
 refine xE Q.hb λy hy=> ?_
 refine zC (u5 (B:=decide (V.int (Int.ofNat j)=V.int 0)) (U':=D2) (λJ h=>h) (λJ=>JK (m:=43) T2 hp hk λU' d' T'=>h U' d' T') λJ=>zC ?_)
 refine u5 (B:=decide (V.int (Int.ofNat j)=V.int 2)) (U':=D2) (λJ h=>h) (λJ=>He (m:=42) T2 hp hk λU' d' T'=>h U' d' T') λJ=>zC ?_
 refine u5 (B:=decide (V.int (Int.ofNat j)=V.int 3)) (U':=D2) (λJ h=>h) (λJ=>zC (aT.mk c sc d k b y p U rfl hp hk T Q.F Q.b0 hy h)) λJ=>zC ?_
 refine u5 (B:=decide (V.int (Int.ofNat j)=V.int 4)) (U':=D2) (λJ h=>h) (λJ=>zC (aT.mk c sc d k b y p U rfl hp hk T Q.F Q.b0 hy h)) λJ=>zC ?_
 exact u5 (B:=decide (V.int (Int.ofNat j)=V.int 6)) (U':=D2) (λJ h=>h) (λJ=>JO (m:=39) T Q hp hk λU' d' Y' T'=>h U' d' T') λJ=>I8 (m:=39) T Q hp hk λU' d' Y' T'=>h U' d' T'
end
section
variable{n:Nat}{U:St}
theorem fW{α β:Type}{f:α->Option β}{g:α->β}:∀{l:List α},(∀x∈l,f x=some (g x))->l.mapM f=some (l.map g)
 |[],_=>rfl
 |a::l,h=>by rw[List.mapM_cons,h a (.head _),fW λx hx=>h x (.tail _ hx)];rfl
theorem Ot{x:Loc}{α:Type}{us:List α}{f:α->V}{s:α->V}{m:Nat}(h:U.get x=some (.list (us.map f)))(hs:∀u∈us,dQ U m (f u)=some (s u)):dQ U (m+1) (.c x)=some (.QN (us.map s)):=by
 show pur (gL U x) _=_
 rw[iM h]
 show pur ((us.map f).mapM (dQ U m)) _=_
 rw[List.mapM_map,fW (f:=dQ U m ∘ f) (g:=s) hs];rfl
theorem OZ{x y:Loc}{us ws:List V}{p:V}(hx:U.get x=some (.list us))(hy:U.get y=some (.list ws))(h1:dQ U 8 (.c x)=some p)(h2:dQ U 8 (.c y)=some p):nC U (.c x) (.c y)=some true:=by
 show jV (U.get x) _ _ _=_
 rw[hx]
 show pur (gL U y) _=_
 rw[iM hy]
 show pur (dQ U 8 (.c x)) _=_
 rw[h1]
 show pur (dQ U 8 (.c y)) _=_
 rw[h2]
 exact alQ some (alG rfl)
theorem Lp{x y:Loc}{us ws:List V}{p:V}(hx:U.get x=some (.list us))(hy:U.get y=some (.list ws))(h1:dQ U 8 (.c x)=some p)(h2:dQ U 8 (.c y)=some p):cG .NotEq (.c x) (.c y) U=some false:=by
 show Hb (nC U (.c x) (.c y))=_
 rw[OZ hx hy h1 h2];rfl
theorem E6{es:List (V×V)}{e:V×V}:∀{es:List (V×V)},(es.map (·.1)).Nodup->e∈es->yA es e.1=some e.2
 |[],_,h=>nomatch h
 |a::r,hn,h=>by
  have hn:=List.nodup_cons.mp hn
  show @Bool.rec (λJ=>Option V) (yA r e.1) (some a.2) (V.beq a.1 e.1)=_
  rcases alC h with rfl|h
  ·rw[DK]
  ·have:V.beq a.1 e.1=false:=alO λq=>hn.1 (List.mem_map.mpr ⟨e,h,((V.QM _ _).mp q).symm⟩)
   rw[this];exact E6 (es:=r) hn.2 h
theorem Pc{x y:Loc}{u v:List (V×V)}(hx:U.get x=some (.dict u))(hy:U.get y=some (.dict v))(hp:u.Perm v)(hn:(v.map (·.1)).Nodup)(h1:((u++v).all λe=>yY e.2)=true)(h2:jD (u++v)=true):cG .NotEq (.c x) (.c y) U=some false:=by
 have e:nC U (.c x) (.c y)=some true:=by
  show jV (U.get x) _ _ _=_
  rw[hx]
  show pur (gD U y) _=_
  rw[Bp hy]
  show pR x y u v=_
  unfold pR
  rw[if_pos (alB ⟨h1,h2⟩)]
  exact alQ some (alB ⟨beq_iff_eq.mpr hp.length_eq,List.all_eq_true.mpr λe he=>alG (E6 (es:=v) hn (hp.mem_iff.mp he))⟩)
 show Hb (nC U (.c x) (.c y))=_
 rw[e];rfl
theorem oI:∀{ps acc:List (V×V)},((acc++ps).map (·.1)).Nodup->ps.foldl (λd p=>uG d p.1 p.2) acc=acc++ps
 |[],acc,_=>(List.append_nil _).symm
 |p::ps,acc,h=>by
  have e:uG acc p.1 p.2=acc++[p]:=by
   have h':∀y∈acc,y.1≠p.1:=λy hy e=>by
    rw[List.map_append,List.nodup_append] at h
    exact h.2.2 _ (List.mem_map.mpr ⟨y,hy,rfl⟩) _ (.head _) e
   exact kputs h'
  show ps.foldl _ (uG acc p.1 p.2)=_
  rw[e,oI (by rw[List.append_assoc];exact h),List.append_assoc];rfl
where kputs {p:V×V}:∀{acc:List (V×V)},(∀y∈acc,y.1≠p.1)->uG acc p.1 p.2=acc++[p]
 |[],_=>rfl
 |a::r,h=>by
  show @Bool.rec (λJ=>List (V×V)) (a::uG r p.1 p.2) ((a.1,p.2)::r) (V.beq a.1 p.1)=_
  rw[alO λq=>h a (.head _) ((V.QM _ _).mp q)]
  exact alQ (a:: ·) (kputs λy hy=>h y (.tail _ hy))
theorem O9{x:Loc}{α:Type}{us:List α}{f:α->V×V}(h:U.get x=some (.list (us.map λu=> .Q1 [(f u).1,(f u).2])))(hz:us.length<1000)(hk:∀u∈us,yZ (f u).1=true)(hs:jD (us.map f)=true)(hn:((us.map f).map (·.1)).Nodup):lH "dict" U (.c x)=some (.c U.fr,U.new (.dict (us.map f))):=by
 show(pur (gL U x) λvs=>aA vs.length (pur (vs.mapM eI) λps=>if jD ps then mkD ps U else none))=_
 rw[iM h]
 refine(if_pos ((alF _).symm▸hz)).trans ?_
 rw[List.mapM_map,fW (f:=eI ∘λu=> .Q1 [(f u).1,(f u).2]) (g:=f) λu hu=>(if_pos (hk u hu):(if yZ (f u).1=true then some ((f u).1,(f u).2) else none)=_)]
 refine(if_pos hs).trans ?_
 unfold mkD
 rw[oI (acc:=[]) hn];rfl
theorem Dl{α:Type}{l:List α}{f:α->V×V}(h:∀x∈l,yZ (f x).1=true/\jR (f x).1=2):jD (l.map f)=true:=by
 cases l with
 |nil=>rfl
 |cons a r=>
  refine alB ⟨(h a (.head _)).1,List.all_eq_true.mpr λq hq=> ?_⟩
  refine xEA (List.mem_map.mp hq) λy hy e_2=> ?_
  subst e_2
  have:=h y (.tail _ hy)
  exact alB ⟨this.1,beq_iff_eq.mpr (this.2.trans (h a (.head _)).2.symm)⟩
end
section
variable{n:Nat}{U:St}
theorem DE{α:Type}{step:V->St->Cp (Option V)}{chk:St->Bool}{f g:α->V}{xs:List α}{K:List V->St->Prop}(hs:∀x∈xs,∀K':Option V->St->Prop,K' (some (g x)) U->step (f x) U K')(hc:chk U=true)(h:K (xs.map g) U):fQ step chk (xs.map f) U K:=
 dW (g:=g) (pd:=λJ=>true) hs hc (by rw[List.filter_eq_self.mpr λJ J=>rfl];exact h)
theorem Je{α:Type}{step:V->St->Cp (Option V)}{chk:St->Bool}{f:α->V}{g:α->List V}{U0:St}{P:α->Prop}(hc:∀D,Fr tn U0 D->chk D=true)(hs:∀x D (K':Option V->St->Prop),P x->Fr tn U0 D->K' (some (.c D.fr)) (D.new (.list (g x)))->step (f x) D K'):
  ∀{xs:List α} {U:St} {K:List V->St->Prop},(∀x∈xs,P x)->Fr tn U0 U->(∀ls D,Fr tn U D->Al2 (λl x=>D.get l=some (.list (g x))) ls xs->K (ls.map .c) D)->fQ step chk (xs.map f) U K
 |[],U,K,_,F,h=>h [] U (Fr.refl F.Q3) .nil
 |x::xs,U,K,hP,F,h=>hs x U _ (hP x (.head _)) F (lS (hc _ F.new) (Je hc hs (λy hy=>hP y (.tail _ hy)) F.new λls D F' al=>h (U.fr::ls) D ((Fr.refl F.Q3).new.trans F') (.cons (F'.get _ _ rfl zJ) al)))
theorem GJ{α β:Type}{f:α->β}:∀{l:List α},(l.map f).Nodup->l.Nodup
 |[],_=>List.nodup_nil
 |a::r,h=>List.nodup_cons.mpr ⟨λhm=>(List.nodup_cons.mp h).1 (List.mem_map.mpr ⟨a,hm,rfl⟩),GJ (List.nodup_cons.mp h).2⟩
theorem FG{α β γ:Type}{P:α->γ->Prop}{f:β->γ}{as:List α}{bs:List β}(h:Al2 (λa b=>P a (f b)) as bs):Al2 P as (bs.map f):=by
 induction h with
 |nil=>exact .nil
 |cons a _ ih=>exact .cons a ih
theorem Jj{α β γ:Type}{P:α->γ->Prop}{g:β->α}{f:β->γ}:∀{xs:List β},(∀q∈xs,P (g q) (f q))->Al2 P (xs.map g) (xs.map f)
 |[],_=> .nil
 |a::r,h=> .cons (h a (.head _)) (Jj λq hq=>h q (.tail _ hq))
theorem NU{x:Ex}{l:Loc}(h:U.get l=some (.list (aU x))):dQ U 7 (.c l)=some (.QN (aU x)):=by
 show pur (gL U l) _=_
 rw[iM h];rfl
theorem NZ{ls:List Loc}{xs:List Ex}(al:Al2 (λl x=>U.get l=some (.list (aU x))) ls xs):(ls.map V.c).mapM (dQ U 7)=some (xs.map λx=> .QN (aU x)):=by
 induction al with
 |nil=>rfl
 |cons a _ ih=>rw[List.map_cons,List.mapM_cons,NU a,ih];rfl
theorem JG{x:Loc}{ls:List Loc}{xs:List Ex}(h:U.get x=some (.list (ls.map .c)))(al:Al2 (λl x=>U.get l=some (.list (aU x))) ls xs):dQ U 8 (.c x)=some (.QN (xs.map λx=> .QN (aU x))):=by
 show pur (gL U x) _=_
 rw[iM h]
 show pur ((ls.map V.c).mapM (dQ U 7)) _=_
 rw[NZ al];rfl
theorem sJ{α:Type}{x:Loc}{us:List α}{f:α->Int}(h:U.get x=some (.list (us.map λu=> .int (f u)))):dQ U 8 (.c x)=some (.QN (us.map λu=> .int (f u))):=Ot (m:=7) h λJ J=>rfl
noncomputable abbrev JS:Env:=[some (.c ⟨1,0⟩),some (.c ⟨9,1⟩),some (.c ⟨3,0⟩),none,none,none,none,none,none,none,none]
theorem gO{α:Type}{u v:List α}{f:α->V×Ref}:((u.map λx=>((f x).1,u7 (f x).2))++(v.map λx=>((f x).1,u7 (f x).2))).all (λe=>yY e.2)=true:=List.all_eq_true.mpr λe he=>by
 rcases List.mem_append.mp he with h|h<;>(refine xEA (List.mem_map.mp h) λy J e_2=> ?_;subst e_2;rfl)
set_option maxHeartbeats 2000000 in
theorem Jm{vs:List V}{K:V->St->Prop}(h:Ms vs U K):z9 P.j (orc P n) LL vs U K:=by
 obtain⟨c,sc,d,k,rfl,T,h⟩:=h
 have z1:d.keys.length<1000:=by have:=T.I.R8;have:=T.hk;omega
 have z2:d.wf.length<1000:=by have:=T.I.RG;have:=T.hk;omega
 have z4:d.xs.length<1000:=by have:=T.I.R4;have:=T.hk;omega
 have zi:d.QI.length<1000:=by have:=T.I.RC;have:=T.hk;omega
 refine qX T.V λxl wi wk wl wx B W J=> ?_
 have S:=T.S
 refine z8 (Y:=JS) rfl ?_
 have F2:=(Fr.refl (T:=tn) T.G).new (o:= .list (d.keys.map λr=> .Q1 [jE c r,u7 r]))|>.new (o:= .dict (vV c d.keys))
 refine zC (u5 (B:=false) (U':=(U.new (.list (d.keys.map λr=> .Q1 [jE c r,u7 r]))).new (.dict (vV c d.keys))) (λK' h=> ?_) nofun λJ=>zT (zI ?_))
 ·refine zE (ga B.b0 rfl) (zE (giD W.w0 rfl rfl) (yC (wU rfl (itL W.ky) ((alF _).symm▸z1)) (DE (f:=λr=>oF (jE c r) r) (g:=λr=> .Q1 [jE c r,u7 r]) (λr hr K' h'=>h') q9 (zE (j2 ((alF _).symm▸z1)) (zE (O9 (f:=λr=>(jE c r,u7 r)) (us:=d.keys) zJ z1 (λJ J=>rfl) (Dl λJ J=>⟨rfl,rfl⟩) ?_) (zE (Pc (F2.get _ _ rfl B.b1) zJ (.refl _) ?_ (gO (f:=λr=>(jE c r,r))) ?_) h))))))
  ·rw[List.map_map];exact T.I.Rh
  ·rw[List.map_map];exact T.I.Rh
  ·rw[<-List.map_append];exact Dl λJ J=>⟨rfl,rfl⟩
 generalize (U.new (.list (d.keys.map λr=> .Q1 [jE c r,u7 r]))).new (.dict (vV c d.keys))=U2 at F2 ⊢
 have Fall:=F2
 have T2:=T.fr F2
 have B:=kF B F2
 have W:=W.fr (λJ J=>rfl) F2
 have S:=T2.S
 have G2:=F2.Q3
 have kw:∀x∈d.wf,∃z t,x.1=qS z t:=λx hx=>T.I.RE x ((T.I.RJ x).mpr hx)
 have pm:d.bf.Perm d.wf:=(List.perm_ext_iff_of_nodup (GJ T.I.RI) (GJ T.I.RK)).mpr T.I.RJ
 have F3:=(Fr.refl (T:=tn) G2).new (o:= .list (d.wf.map λx=> .Q1 [x.1,u7 x.2]))|>.new (o:= .dict (flE d.wf))
 refine zC (u5 (B:=false) (U':=(U2.new (.list (d.wf.map λx=> .Q1 [x.1,u7 x.2]))).new (.dict (flE d.wf))) (λK' h=> ?_) nofun λJ=>zT (zI ?_))
 ·refine zE (ga B.b0 rfl) (zE (giD W.w0 rfl rfl) (yC (wU rfl (itL W.fl) ((alF _).symm▸z2)) (DE (f:=λx:V×Ref=>oF x.1 x.2) (g:=λx=> .Q1 [x.1,u7 x.2]) (λr hr K' h'=>h') q9 (zE (j2 ((alF _).symm▸z2)) (zE (O9 (f:=λx:V×Ref=>(x.1,u7 x.2)) (us:=d.wf) zJ z2 (λu hu=> ?_) (Dl λu hu=> ?_) ?_) (zE (Pc (F3.get _ _ rfl B.b3) zJ (pm.map _) ?_ (gO (f:=λx=>x)) ?_) h))))))
  ·refine xEE (kw u hu) λz t e=> ?_;show yZ u.1=true;rw[e];rfl
  ·refine xEE (kw u hu) λz t e=> ?_;show yZ u.1=true/\jR u.1=2;rw[e];exact⟨rfl,rfl⟩
  ·rw[List.map_map];exact T.I.RK
  ·rw[List.map_map];exact T.I.RK
  ·rw[<-List.map_append]
   refine Dl λu hu=> ?_
   refine xEE ((List.mem_append.mp hu).elim (T.I.RE u) (kw u)) λz t e=> ?_
   show yZ u.1=true/\jR u.1=2
   rw[e];exact⟨rfl,rfl⟩
 generalize (U2.new (.list (d.wf.map λx=> .Q1 [x.1,u7 x.2]))).new (.dict (flE d.wf))=U3 at F3 ⊢
 have Fall:=Fall.trans F3
 have T3:=T2.fr F3
 have B:=kF B F3
 have W:=W.fr (λJ J=>rfl) F3
 have S:=T3.S
 refine zC (hJ (Q:=λD=>Fr tn U3 D) (λK' h=> ?_) λU4 F4=>zT (zI ?_))
 ·refine zE (ga B.b0 rfl) (yC (wU rfl (itL B.bx) ((alF _).symm▸z4)) (Je (U0:=U3) (P:=λq=>q∈d.xs) (f:=λq:Loc×Loc×Ex=> .c q.1) (g:=λq=>aU q.2.2) (λD F=>alG ((F.get _ _ rfl B.bx).trans B.bx.symm)) (λq D K' hq F h'=> ?_) (λJ h=>h) (Fr.refl F3.Q3) λls D F al=> ?_))
  ·have hx:=F.get _ _ rfl (B.x q hq).1
   exact zE (ga hx rfl) (zE (ga hx rfl) (zE (ga hx rfl) (zE (ga hx rfl) h')))
  ·have hz:(ls.map V.c).length<1000:=by rw[alF,al.length];exact z4
   have F':=F.new (o:= .list (ls.map .c))
   have al':Al2 (λl x=>(D.new (.list (ls.map .c))).get l=some (.list (aU x))) ls (d.xs.map (·.2.2)):=FG (al.map λl q e=>F.Q3.nk (a:= .list (ls.map .c)) e)
   have al2:Al2 (λl x=>(D.new (.list (ls.map .c))).get l=some (.list (aU x))) (d.xs.map (·.2.1)) (d.xs.map (·.2.2)):=Jj λq hq=>F'.get _ _ rfl (W.x q hq).1
   have wxl:(D.new (.list (ls.map .c))).get wx=some (.list ((d.xs.map (·.2.1)).map .c)):=(F'.get _ _ rfl W.ex).trans (by rw[List.map_map];rfl)
   exact zE (j2 hz) (zE (giD (F'.get _ _ rfl W.w0) rfl rfl) (zE (Lp zJ wxl (JG zJ al') (JG wxl al2)) (h _ F')))
 have Fall:=Fall.trans F4
 have T4:=T3.fr F4
 have B:=kF B F4
 have W:=W.fr (λJ J=>rfl) F4
 have S:=T4.S
 refine zC (hJ (Q:=λD=>Fr tn U4 D) (λK' h=> ?_) λU5 F5=>zT (zI ?_))
 ·have F5:=(Fr.refl (T:=tn) F4.Q3).new (o:= .list (d.QI.map jA))
  have zt:(eR d.QI).length<1000:=(alF _).symm▸zi
  refine zE (ga B.b0 rfl) (zE (keD (ks:=d.QI.map jA) B.b2 zt (by rw[List.map_map];rfl)) (zE (giD (F5.get _ _ rfl W.w0) rfl rfl) (zE (Lp zJ (F5.get _ _ rfl W.i) (sJ (f:=λp:Nat=>(p:Int)+1) zJ) (sJ (f:=λp:Nat=>(p:Int)+1) (F5.get _ _ rfl W.i))) ?_)))
  generalize U4.new (.list (d.QI.map jA))=D at F5 ⊢
  have B:=kF B F5
  have W:=W.fr (λJ J=>rfl) F5
  have S:=S.fr (T:=tn) rfl rfl F5
  refine zE (giD W.w0 rfl rfl) (yC (wU rfl (itL W.i) ((alF _).symm▸zi)) (dW (f:=jA) (g:=jA) (pd:=λJ=>false) (λp hp K' h'=> ?_) q9 ?_))
  ·have h4:=T.I.Rn p hp
   exact zE (ga B.b0 rfl) (zE (giD B.b2 qP (kB T.I.Ra hp)) (zE (giN (k:=p) S.rl (iU h4) (ET h4) O5) (zE (show cG .IsNot (.c ⟨2,p⟩) (.c ⟨2,p⟩) D=some false from alQ Hb (isL (B.r p h4))) h')))
  ·rw[List.filter_eq_nil_iff.mpr λJ J=>Bool.false_ne_true]
   exact zE (Lp (us:=[]) (ws:=[]) (p:= .QN []) (F5.Q3.new.nk (a:= .list []) zJ) zJ (sJ (us:=[]) (f:=λi:Int=>i) (F5.Q3.new.nk (a:= .list []) zJ)) (sJ (us:=[]) (f:=λi:Int=>i) zJ)) (h _ F5.new.new)
 have Fall:=Fall.trans F5
 have T5:=T4.fr F5
 have B:=kF B F5
 have W:=W.fr (λJ J=>rfl) F5
 have S:=T5.S
 have F6:=(Fr.refl (T:=tn) F5.Q3).new (o:= .list ([0,1,2,3].map λp=> .int (stI (d.st p))))
 refine zC (yC (wU rfl (itL S.rl) (alE rfl)) (DE (f:=λp=> .c ⟨2,p⟩) (xs:=[0,1,2,3]) (g:=λp=> .int (stI (d.st p))) (λp hp K' h'=>zE (ga (B.r p (KS hp)) rfl) h') q9 ?_))
 have W:=W.fr (λJ J=>rfl) F6
 have S:=S.fr (T:=tn) rfl rfl F6
 refine zE (giD W.w0 rfl rfl) (yC (wU rfl (itL S.tl) (alE rfl)) (DE (f:=λp=> .c ⟨4,p⟩) (xs:=[0,1,2,3]) (g:=λp=> .int (stI (d.st p))) (λp hp K' h'=>zE (giD (W.k p (KS hp)) rfl rfl) h') q9 ?_))
 have e:=F6.Q3.nk (a:= .list ([0,1,2,3].map λp=> .int (stI (d.st p)))) (zJ (U:=U5) (o:= .list ([0,1,2,3].map λp=> .int (stI (d.st p)))))
 exact zE (OZ e zJ (sJ e) (sJ zJ)) (h _ (Fall.trans F6.new))
end
section
variable{n:Nat}{U:St}
theorem JC{l:Loc}{C a i m:Nat}{W:jY}{Φ:Orc}{Y:Env}{e:IR}{D:St}{fs:List (Nat×V)}{r:List IS}{K:KF}{Q2:V->List (Nat×V)->St->Prop}(H:∀v,GY l C (Q2 v))(hr:kP Y i=some (.c l))(hz:Nat.blt fs.length 900=true)(he:∀K':V->St->Prop,(∀v D',Q2 v fs D'->K' v D')->ev W Φ (m+2) Y e D K')(h:∀v D',Q2 v (tI fs a v) D'->exs (ex W Φ (m+3)) r Y D' K):exs (ex W Φ (m+3)) (.Q0 (.Qy (.v i) a) e::r) Y D K:=
 zC (j6 (he _ λv D' q'=>qF hr (zE (sa ((H v).at_ q') hz) (jZ (h v _ ((H v).set q'))))))
theorem lvH{l:Loc}{C:Nat}{F:List (Loc×zU)}:GY l C λfs D=>Lv D ((l,.Qz C fs)::F):=⟨λq=>q.get 0 rfl,λq=>q.Q6 0 rfl⟩
theorem JI{l:Loc}{C:Nat}{o:zU}{F:List (Loc×zU)}(v:V):GY l C λfs D=>∃x,v= .c x/\Lv D ((l,.Qz C fs)::(x,o)::F):=⟨λ⟨_,_,q⟩=>q.get 0 rfl,λ⟨x,e,q⟩=>⟨x,e,q.Q6 0 rfl⟩⟩
theorem Lv.RR{F:List (Loc×zU)}{x:Loc×zU}{o:zU}(L:Lv U (x::F)):Lv (U.new o) (x::(U.fr,o)::F):=L.new.perm (.swap ..)
noncomputable abbrev Hr(l:Loc):Env:=[some (.c l),some (.int 9),some (.int 0),some (.int 128),none,none,none,none,none,none,none,none]
theorem IK{vs:List V}{K:V->St->Prop}(h:NV vs U K):wL P (orc P n) 240 vs U K:=by
 obtain⟨F,rfl,L,h⟩:=h
 show z9 P.j (orc P n) OR [.c U.fr,.int 9,.int 0] (U.new (.Qz 240 [])) (tB U.fr K)
 have A:Lv (U.new (.Qz 240 [])) ((U.fr,.Qz 240 [])::F):=L.new
 refine z8 (Y:=Hr U.fr) rfl ?_
 generalize U.fr=b0 at A ⊢
 refine stL lvH A rfl rfl (λJ h=>h) λD A=>stL lvH A rfl rfl (λJ h=>h) λD A=>stL lvH A rfl rfl (λJ h=>h) λD (A:Lv D ((b0,.Qz 240 [(41,.int 9),(51,.int 0),(52,.int 128)])::F))=> ?_
 refine JC (JI (o:= .dict [])) rfl rfl (λJ h=>h _ _ ⟨_,rfl,A.RR⟩) λv D q=> ?_
 refine xEA q λb1 e_1 A=> ?_
 subst e_1
 refine JC (JI (o:= .dict [])) rfl rfl (λJ h=>h _ _ ⟨_,rfl,A.RR⟩) λv D q=> ?_
 refine xEA q λb2 e_1 A=> ?_
 subst e_1
 refine stL lvH A rfl rfl (λJ h=>h) λD (A:Lv D ((b0,.Qz 240 [(41,.int 9),(51,.int 0),(52,.int 128),(19,.c b1),(21,.c b2),(43,.int 0)])::(b2,.dict [])::(b1,.dict [])::F))=> ?_
 refine JC (JI (o:= .dict [])) rfl rfl (λJ h=>h _ _ ⟨_,rfl,A.RR⟩) λv D q=> ?_
 refine xEA q λy e_1 A=> ?_
 subst e_1
 refine JC (JI (o:= .list [])) rfl rfl (λJ h=>h _ _ ⟨_,rfl,A.RR⟩) λv D q=> ?_
 refine xEA q λbx e_1 A=> ?_
 subst e_1
 refine JC (JI (o:= .dict [])) rfl rfl (λJ h=>h _ _ ⟨_,rfl,A.RR⟩) λv D q=> ?_
 refine xEA q λb3 e_1 A=> ?_
 subst e_1
 exact stL lvH A rfl rfl (λJ h=>h) λD A=>h D b0 b1 b2 b3 bx y A
theorem Gn{t g p:Nat}{Y:Env}{x y:Loc}{u v:List (V×V)}(ht:kP Y t=some (.c x))(hg:kP Y g=some (.c y))(hx:U.get x=some (.dict u))(hy:U.get y=some (.dict v))(hn:x≠y)(hk:jD (u++v)=true)(hz:u.length+v.length<1000)(h1:t≠p/\g≠p/\p<Y.length):
  jD8 t g p Y U=some ((.next,gB v p Y),U.Q6 x (.dict (v.foldl (λd e=>uG d e.1 e.2) u))):=by
 unfold jD8
 rw[ht,hg]
 show(pur (gD U x) λu=>pur (gD U y) λv=>_)=_
 rw[Bp hx,Bp hy]
 exact if_pos ⟨hn,hk,hz,h1.1,h1.2.1,h1.2.2⟩
end
section
variable{n:Nat}{U:St}
theorem gZ{W:jY}{Φ:Orc}{m:Nat}{tg:List Nat}{b:Bool}{Y:Env}{U':St}{K:KF}{es:List IR}{body:List IS}{vs:List V}(h1:∀K':V->St->Prop,K' (.Q1 vs) U'->ev W Φ m Y (.Q1 es) U K')(h:aE (exs (ex W Φ m) body) (jI U' none) tg b vs Y U' K):ex W Φ (m+1) (.QL tg b (.Q1 es) body) Y U K:=h1 _ h
noncomputable abbrev kG(t0:Loc)(v1 v2:Option V):Env:=[some (.c t0),v1,v2,none,none,none,none,none,none,none,none]
theorem fA{W:jY}{Φ:Orc}{m:Nat}{Y Y':Env}{t g p:Nat}{x y:Loc}{u v w:List (V×V)}{K:KF}(ht:kP Y t=some (.c x))(hg:kP Y g=some (.c y))(hx:U.get x=some (.dict u))(hy:U.get y=some (.dict v))(hn:x≠y)(hk:jD (u++v)=true)(hz:Nat.blt (u.length+v.length) 1000=true)(h1:t≠p/\g≠p/\p<Y.length)(e:v.foldl (λd e=>uG d e.1 e.2) u=w)(e2:gB v p Y=Y')(h:K .next Y' (U.Q6 x (.dict w))):exs (ex W Φ (m+1)) [.R5 t g p] Y U K:=
 zC (zE (Gn ht hg hx hy hn hk (alE hz) h1) (e▸e2▸h))
set_option maxHeartbeats 1000000 in
theorem IH{vs:List V}{K:V->St->Prop}(h:Ml vs U K):z9 P.j (orc P (n+1)) Lw vs U K:=by
 obtain⟨F,rfl,L,h⟩:=h
 refine z8 (Y:=[none,none,none,none,none,none,none,none,none,none,none]) rfl (uE (v:= .c U.fr) (U':=U.new (.dict [])) (Y':=kG U.fr none none) (λJ h=>h) rfl rfl ?_)
 have L:=L.new (o:= .dict [])
 generalize U.new (.dict [])=s0 at L ⊢
 generalize U.fr=t0 at L ⊢
 refine zC (gZ (U':=((((((((s0.new (trk 326 333)).new (.dict [(.int 17,.c s0.fr)])).new (lW 340 347 375)).new (lW 340 347 382)).new (.dict [(.int 1,.c ⟨s0.kd,s0.next+1+1⟩),(.int 58,.c ⟨s0.kd,s0.next+1+1+1⟩)])).new (trk 606 627)).new (.dict [(.int 6,.c ⟨s0.kd,s0.next+1+1+1+1+1⟩)])).new (trk 326 354)).new (.dict [(.int (-1),.c ⟨s0.kd,s0.next+1+1+1+1+1+1+1⟩)]))
  (vs:=[.c ⟨s0.kd,s0.next+1⟩,.c ⟨s0.kd,s0.next+1+1+1+1⟩,.c ⟨s0.kd,s0.next+1+1+1+1+1+1⟩,.c ⟨s0.kd,s0.next+1+1+1+1+1+1+1+1⟩]) (λJ h=>h) ?_)
 have L9:Lv (((((((((s0.new (trk 326 333)).new (.dict [(.int 17,.c s0.fr)])).new (lW 340 347 375)).new (lW 340 347 382)).new (.dict [(.int 1,.c ⟨s0.kd,s0.next+1+1⟩),(.int 58,.c ⟨s0.kd,s0.next+1+1+1⟩)])).new (trk 606 627)).new (.dict [(.int 6,.c ⟨s0.kd,s0.next+1+1+1+1+1⟩)])).new (trk 326 354)).new (.dict [(.int (-1),.c ⟨s0.kd,s0.next+1+1+1+1+1+1+1⟩)])) ((⟨s0.kd,s0.next+1+1+1+1+1+1+1+1⟩,.dict [(.int (-1),.c ⟨s0.kd,s0.next+1+1+1+1+1+1+1⟩)])::(⟨s0.kd,s0.next+1+1+1+1+1+1+1⟩,trk 326 354)::(⟨s0.kd,s0.next+1+1+1+1+1+1⟩,.dict [(.int 6,.c ⟨s0.kd,s0.next+1+1+1+1+1⟩)])::(⟨s0.kd,s0.next+1+1+1+1+1⟩,trk 606 627)::(⟨s0.kd,s0.next+1+1+1+1⟩,.dict [(.int 1,.c ⟨s0.kd,s0.next+1+1⟩),(.int 58,.c ⟨s0.kd,s0.next+1+1+1⟩)])::(⟨s0.kd,s0.next+1+1+1⟩,lW 340 347 382)::(⟨s0.kd,s0.next+1+1⟩,lW 340 347 375)::(⟨s0.kd,s0.next+1⟩,.dict [(.int 17,.c s0.fr)])::(s0.fr,trk 326 333)::(t0,.dict [])::F):=((((((((L.new (o:=trk 326 333)).new (o:= .dict [(.int 17,.c s0.fr)])).new (o:=lW 340 347 375)).new (o:=lW 340 347 382)).new (o:= .dict [(.int 1,.c ⟨s0.kd,s0.next+1+1⟩),(.int 58,.c ⟨s0.kd,s0.next+1+1+1⟩)])).new (o:=trk 606 627)).new (o:= .dict [(.int 6,.c ⟨s0.kd,s0.next+1+1+1+1+1⟩)])).new (o:=trk 326 354)).new (o:= .dict [(.int (-1),.c ⟨s0.kd,s0.next+1+1+1+1+1+1+1⟩)])
 generalize ((((((((s0.new (trk 326 333)).new (.dict [(.int 17,.c s0.fr)])).new (lW 340 347 375)).new (lW 340 347 382)).new (.dict [(.int 1,.c ⟨s0.kd,s0.next+1+1⟩),(.int 58,.c ⟨s0.kd,s0.next+1+1+1⟩)])).new (trk 606 627)).new (.dict [(.int 6,.c ⟨s0.kd,s0.next+1+1+1+1+1⟩)])).new (trk 326 354)).new (.dict [(.int (-1),.c ⟨s0.kd,s0.next+1+1+1+1+1+1+1⟩)])=s9 at L9 ⊢
 generalize (⟨s0.kd,s0.next+1+1+1+1+1+1+1+1⟩:Loc)=o4 at L9 ⊢
 generalize (⟨s0.kd,s0.next+1+1+1+1+1+1+1⟩:Loc)=t8 at L9 ⊢
 generalize (⟨s0.kd,s0.next+1+1+1+1+1+1⟩:Loc)=o3 at L9 ⊢
 generalize (⟨s0.kd,s0.next+1+1+1+1+1⟩:Loc)=t7 at L9 ⊢
 generalize (⟨s0.kd,s0.next+1+1+1+1⟩:Loc)=o2 at L9 ⊢
 generalize (⟨s0.kd,s0.next+1+1+1⟩:Loc)=t6 at L9 ⊢
 generalize (⟨s0.kd,s0.next+1+1⟩:Loc)=t5 at L9 ⊢
 generalize (⟨s0.kd,s0.next+1⟩:Loc)=o1 at L9 ⊢
 generalize s0.fr=t4 at L9 ⊢
 refine zR (Y':=kG t0 (some (.c o1)) none) rfl (fA (w:=[(.int 17,.c t4)]) (Y':=kG t0 (some (.c o1)) (some (.int 17))) rfl rfl (L9.get 9 rfl) (L9.get 7 rfl) (L9.ne 9 7 rfl rfl rfl) rfl rfl ⟨by decide,by decide,alE rfl⟩ rfl rfl (zY rfl ?_))
 have L9:=L9.Q6 (o':= .dict [(.int 17,.c t4)]) 9 rfl
 refine zR (Y':=kG t0 (some (.c o2)) (some (.int 17))) rfl (fA (w:=[(.int 17,.c t4),(.int 1,.c t5),(.int 58,.c t6)]) (Y':=kG t0 (some (.c o2)) (some (.int 58))) rfl rfl (L9.get 9 rfl) (L9.get 4 rfl) (L9.ne 9 4 rfl rfl rfl) rfl rfl ⟨by decide,by decide,alE rfl⟩ rfl rfl (zY rfl ?_))
 have L9:=L9.Q6 (o':= .dict [(.int 17,.c t4),(.int 1,.c t5),(.int 58,.c t6)]) 9 rfl
 refine zR (Y':=kG t0 (some (.c o3)) (some (.int 58))) rfl (fA (w:=[(.int 17,.c t4),(.int 1,.c t5),(.int 58,.c t6),(.int 6,.c t7)]) (Y':=kG t0 (some (.c o3)) (some (.int 6))) rfl rfl (L9.get 9 rfl) (L9.get 2 rfl) (L9.ne 9 2 rfl rfl rfl) rfl rfl ⟨by decide,by decide,alE rfl⟩ rfl rfl (zY rfl ?_))
 have L9:=L9.Q6 (o':= .dict [(.int 17,.c t4),(.int 1,.c t5),(.int 58,.c t6),(.int 6,.c t7)]) 9 rfl
 refine zR (Y':=kG t0 (some (.c o4)) (some (.int 6))) rfl (fA (w:=[(.int 17,.c t4),(.int 1,.c t5),(.int 58,.c t6),(.int 6,.c t7),(.int (-1),.c t8)]) (Y':=kG t0 (some (.c o4)) (some (.int (-1)))) rfl rfl (L9.get 9 rfl) (L9.get 0 rfl) (L9.ne 9 0 rfl rfl rfl) rfl rfl ⟨by decide,by decide,alE rfl⟩ rfl rfl (zY rfl (yT (zI ?_))))
 have L9:=L9.Q6 (o':= .dict [(.int 17,.c t4),(.int 1,.c t5),(.int 58,.c t6),(.int 6,.c t7),(.int (-1),.c t8)]) 9 rfl
 exact h _ t0 t4 t5 t6 t7 t8 o1 o2 o3 o4 L9
noncomputable abbrev EG(v2:Option V):Env:=[some (.int 9),some (.int 0),v2,none,none,none,none,none,none,none,none]
theorem I6{vs:List V}{K:V->St->Prop}(h:M5 vs U K):z9 P.j (orc P (n+2)) Ld vs U K:=by
 obtain⟨F,rfl,L,h⟩:=h
 refine z8 (Y:=EG none) rfl (zC (NV.mk F rfl L λD b0 b1 b2 b3 bx y L=>jC (Y':=EG (some (.c b0))) rfl rfl ?_))
 refine zC (j6 (Ml.mk _ rfl L λD t0 t4 t5 t6 t7 t8 o1 o2 o3 o4 L=>qF rfl (K9 (fs':=[(41,.int 9),(51,.int 0),(52,.int 128),(19,.c b1),(21,.c b2),(43,.int 0),(39,.c t0),(23,.c bx),(22,.c b3),(53,.bool true)]) (L.get 10 rfl) rfl rfl (jZ ?_))))
 exact h _ b0 b1 b2 b3 bx y t0 t4 t5 t6 t7 t8 o1 o2 o3 o4 (L.Q6 10 rfl)
end
section
variable{n:Nat}{U:St}
noncomputable abbrev uJ(q:Loc)(v1 v2 v3 v4 v5 v6:Option V):Env:=[some (.c q),v1,v2,v3,v4,v5,v6,none,none,none,none,none,none,none,none]
noncomputable abbrev Ox:List IS:=[(.Q0 (.v 3) (.QN [(.sub (.v 0) (.v 2))])),(.Q0 (.Q1 [(.v 4),(.v 5)]) (.Q1 [(.call (.l (.obj 751)) [(.v 3),(.l (.int 2))]),(.QN [(.call (.l (.obj 758)) [(.call (.l (.obj 751)) [(.v 3),(.l (.int 6))])]),(.call (.l (.obj 758)) [(.call (.l (.obj 751)) [(.v 3),(.l (.int 6))])])])])),(.Q0 (.v 6) (.QB .Add (.l (.int 1000)) (.sub (.Q1 [(.l (.int 0)),(.l (.int 700)),(.l (.int 1)),(.l (.int 90000))]) (.call (.l (.obj 751)) [(.v 3),(.l (.int 4))])))),(.expr (.Rs (.v 1) 0 [(.Rl [(.l (.str 20)),(.l (.str 18)),(.l (.str 46)),(.l (.str 26)),(.l (.str 25))] [(.QB .Add (.v 2) (.l (.int 1))),(.v 4),(.v 5),(.v 6),(.l (.int 0))])]))]
theorem Lv.R7{g:Loc}{x:Int}{F:List (Loc×zU)}{m:Nat}{K:V->St->Prop}(L:Lv U ((g,.list [.int x])::F))(hm:(Nat.blt 0 m&&Nat.blt m 1000)=true)(h:∀i y D,Lv D ((g,.list [.int y])::F)->K (.int (Int.ofNat i)) D):lU [.c g,.int (Int.ofNat m)] U K:=lU.mk g _ _ rfl hm (L.get 0 rfl) λi y J=>h i y _ (L.Q6 0 rfl)
theorem gJ{H:List (Loc×zU)}{q tl:Loc}{i j p:Nat}{ns ks:List V}{x:Int}{v3 v4 v5 v6:Option V}{K:KF}(hL:Lv U H)(hq:H[i]?=some (q,.list ns))(hj:H[j]?=some (tl,.list ks))(hp:p<1000)(hx:ns[p]?=some (.int x))(hz:ks.length<1000)
  (h:∀D t k e g y v3 v4 v5 v6,Lv D (tkL p t k e g y (H.set j (tl,.list (ks++[.c k]))))->K .next (uJ q (some (.c tl)) (some (.int (Int.ofNat p))) v3 v4 v5 v6) D):
  exs (ex P.j (orc P (n+1)) 63) Ox (uJ q (some (.c tl)) (some (.int (Int.ofNat p))) v3 v4 v5 v6) U K:=by
 refine uE (v:= .c U.fr) (U':=U.new (.list [.int x])) (Y':=uJ q (some (.c tl)) (some (.int (Int.ofNat p))) (some (.c U.fr)) v4 v5 v6) (λJ h=>zE (giL (k:=p) (hL.get i hq) hp hx) h) rfl rfl ?_
 have L1:=hL.new (o:= .list [.int x])
 generalize U.new (.list [.int x])=D at L1 ⊢
 generalize U.fr=g at L1 ⊢
 refine Bn (Q:=λvs D=>∃z a b y e,vs=[.int (Int.ofNat z),.c e]/\Lv D ((e,.list [yO (Int.ofNat a),yO (Int.ofNat b)])::(g,.list [.int y])::H)) (Y':=λvs=>uJ q (some (.c tl)) (some (.int (Int.ofNat p))) (some (.c g)) (some (hd0 vs)) (some (hd0 vs.tail)) v6) (λK' hK=> ?_) (λvs D hv K' h=> ?_) λvs D hv=> ?_
 ·refine L1.R7 rfl λz y D L=> ?_
  refine L.R7 rfl λa y D L=> ?_
  refine L.R7 rfl λb y D L=> ?_
  exact hK _ _ ⟨z,a,b,y,_,rfl,L.new⟩
 ·refine qI hv λz a b y e e_5 J=> ?_
  subst e_5
  exact h
 refine qI hv λz a b y e e_5 L=> ?_
 subst e_5
 refine m6 (Q:=λv D=>∃u y,v= .int u/\Lv D ((e,.list [yO (Int.ofNat a),yO (Int.ofNat b)])::(g,.list [.int y])::H)) (Y':=λv=>uJ q (some (.c tl)) (some (.int (Int.ofNat p))) (some (.c g)) (some (hd0 [.int (Int.ofNat z),.c e])) (some (hd0 [V.c e])) (some v)) (λK' hK=>lU.mk g y 4 rfl rfl (L.get 1 rfl) λi y hi=> ?_) rfl (λJ=>rfl) λv D hv=> ?_
 ·obtain⟨u,e⟩:∃u:Int,[V.int 0,.int 700,.int 1,.int 90000][i]?=some (.int u):=tW (P:=λi=>∃u:Int,[V.int 0,.int 700,.int 1,.int 90000][i]?=some (.int u)) ⟨_,rfl⟩ ⟨_,rfl⟩ ⟨_,rfl⟩ ⟨_,rfl⟩ hi
  exact zE (giT (Nat.lt_trans hi (by decide)) e) (hK _ _ ⟨_,y,rfl,L.Q6 1 rfl⟩)
 refine vE hv λu y e_2 L=> ?_
 subst e_2
 have hj2:((e,zU.list [yO (Int.ofNat a),yO (Int.ofNat b)])::(g,.list [.int y])::H)[j+2]?=some (tl,.list ks):=hj
 refine zC (zE (moL (L.get (j+2) hj2)) ?_)
 have L2:=L.new (o:=tkD p ⟨z,a,b,u⟩ e)
 exact zE (cmL (L2.get (j+3) hj2) hz) (uI (zI (zT (h _ ⟨z,a,b,u⟩ D.fr e g y _ _ _ _ (L2.Q6 (j+3) hj2)))))
end
section
variable{n:Nat}{U:St}
theorem c9{W:jY}{Φ:Orc}{m:Nat}{tg:List Nat}{b:Bool}{Y:Env}{K:KF}{it:IR}{body:List IS}{vs:List V}{lo:Option Loc}{x:V}(h1:∀K':V->St->Prop,K' x U->ev W Φ m Y it U K')(hi:qM x U=some (vs,lo))(h:aE (exs (ex W Φ m) body) (jI U lo) tg b vs Y U K):ex W Φ (m+1) (.QL tg b it body) Y U K:=h1 _ (zE hi h)
theorem Ih{vs:List V}{K:V->St->Prop}(h:KG vs U K):z9 P.j (orc P (n+1)) N4 vs U K:=by
 obtain⟨F,q,i,n0,n1,n2,n3,rfl,hq,L,h⟩:=h
 refine z8 (Y:=uJ q none none none none none none) rfl (uE (v:= .c U.fr) (U':=U.new (.list [])) (Y':=uJ q (some (.c U.fr)) none none none none none) (λJ h=>h) rfl rfl ?_)
 have L:=L.new (o:= .list [])
 generalize U.new (.list [])=s0 at L ⊢
 generalize U.fr=tl at L ⊢
 have hq:((tl,zU.list [])::F)[i+1]?=some (q,.list [.int n0,.int n1,.int n2,.int n3]):=hq
 refine zC (c9 (x:= .Rt 4) (vs:=[.int (Int.ofNat 0),.int (Int.ofNat 1),.int (Int.ofNat 2),.int (Int.ofNat 3)]) (lo:=none) (λJ h=>h) rfl ?_)
 refine zR (Y':=uJ q (some (.c tl)) (some (.int (Int.ofNat 0))) none none none none) rfl (gJ (i:=i+1) (j:=0) (x:=n0) L hq rfl (by decide) rfl (by decide) λD s0 k0 e0 g0 y0 v3 v4 v5 v6 L=>zY rfl ?_)
 refine zR (Y':=uJ q (some (.c tl)) (some (.int (Int.ofNat 1))) v3 v4 v5 v6) rfl (gJ (i:=i+4) (j:=3) (x:=n1) L hq rfl (by decide) rfl (by simp) λD s1 k1 e1 g1 y1 v3 v4 v5 v6 L=>zY rfl ?_)
 refine zR (Y':=uJ q (some (.c tl)) (some (.int (Int.ofNat 2))) v3 v4 v5 v6) rfl (gJ (i:=i+7) (j:=6) (x:=n2) L hq rfl (by decide) rfl (by simp) λD s2 k2 e2 g2 y2 v3 v4 v5 v6 L=>zY rfl ?_)
 refine zR (Y':=uJ q (some (.c tl)) (some (.int (Int.ofNat 3))) v3 v4 v5 v6) rfl (gJ (i:=i+10) (j:=9) (x:=n3) L hq rfl (by decide) rfl (by simp) λD s3 k3 e3 g3 y3 v3 v4 v5 v6 L=>zY rfl (yT (zI ?_)))
 exact h _ _ _ _ _ _ tl s0 s1 s2 s3 k0 e0 g0 y0 k1 e1 g1 y1 k2 e2 g2 y2 k3 e3 g3 y3 ((((((show Lv D (tkL 3 s3 k3 e3 g3 y3 (tkL 2 s2 k2 e2 g2 y2 (tkL 1 s1 k1 e1 g1 y1 (tkL 0 s0 k0 e0 g0 y0 ((tl,.list [.c k0,.c k1,.c k2,.c k3])::F))))) from L).new (o:= .list [])).new (o:= .list [])).new (o:= .list [])).new (o:= .list [])).new (o:=_))
end
section
variable{n:Nat}{U:St}
noncomputable abbrev wE(q:Loc)(v1 v2 v3 v4 v5 v6 v7 v8:Option V):Env:=[some (.c q),v1,v2,v3,v4,v5,v6,v7,v8,none,none,none,none,none,none,none,none]
theorem Lv.at{U D:St}{F:List (Loc×zU)}{l:Loc}{o:zU}(L:Lv U F)(A:At U l D o):Lv D ((l,o)::F) where
 g:=A.f.Q3
 nd:=List.nodup_cons.mpr ⟨λh=>by
  obtain⟨x,hx,e⟩:=List.mem_map.mp h
  exact(nomatch A.z.symm.trans ((alQ U.get e.symm).trans (L.at_ x hx))),L.nd⟩
 at_ x hx:=(alC hx).elim (λe=>e▸A.g) λh=>A.f.get _ _ rfl (L.at_ x h)
 k x hx:=(alC hx).elim (λe=>e▸A.k) (L.k x)
theorem Oo{step:V->St->Cp (Option V)}{chk:St->Bool}{Q:V->Prop}(hc:chk U=true):∀{vs:List V} {K:List V->St->Prop},(∀v∈vs,∀K':Option V->St->Prop,(∀u,Q u->K' (some u) U)->step v U K')->(∀us,us.length=vs.length->(∀u∈us,Q u)->K us U)->fQ step chk vs U K:=by
 intro vs
 induction vs with
 |nil=>intro K _ h;exact h [] rfl nofun
 |cons v vs ih=>intro K hs h;exact hs v (.head _) _ λu hu=>lS hc (ih (λw hw=>hs w (.tail _ hw)) λus e hus=>h (u::us) (alQ Nat.succ e) λw hw=>(alC hw).elim (λq=>q▸hu) (hus w))
theorem Ck{W:jY}{Φ:Orc}{m:Nat}{tg:List Nat}{b:Bool}{Y:Env}{elt it:IR}{ifs:List IR}{K:V->St->Prop}{vs:List V}{lo:Option Loc}{x:V}(h1:∀K':V->St->Prop,K' x U->ev W Φ m Y it U K')(hw:pP tg Y x U=some (vs,lo))(h:fQ (yV (ev W Φ m) tg b ifs elt Y) (jI U lo) vs U (pE eK K)):ev W Φ (m+1) Y (.comp elt tg b it ifs) U K:=h1 _ (yC hw h)
theorem sel{q:Loc}{s:List Int}{i:Nat}{B N:Prop}{F:V->Prop}(g:U.get q=some (.list (s.map V.int)))(hs:s.length<1000)(h0:B)(h:∀r,F (.int r)):
  @Bool.rec (λJ=>Prop) B (@Option.rec V (λJ=>Prop) N F (getItem (.c q) (.int ((12:Int)+Int.ofNat i)) U)) (decide ((12:Int)+Int.ofNat i<((s.map V.int).length:Int))):=by
 cases e:decide ((12:Int)+Int.ofNat i<((s.map V.int).length:Int)) with
 |false=>exact h0
 |true=>
  have e1:(12+i)<s.length:=by
   have:(12:Int)+(i:Int)<((s.map V.int).length:Int):=alH e
   rw[alF] at this;omega
  exact zE (giN g (k:=12+i) (w:= .int s[12+i]) (by omega) (by rw[List.getElem?_map,List.getElem?_eq_getElem e1];rfl) (by simp)) (h _)
theorem PT{q:Loc}{s:List Int}{K:KF}{r:List IS}(L:Lv U [(q,.list (s.map V.int))])(hs:s.length<1000)
  (h:∀n0 n1 n2 n3 l D,Lv D [(l,.list [.int n0,.int n1,.int n2,.int n3]),(q,.list (s.map V.int))]->exs (ex P.j (orc P n) 64) r (wE q none (some (.c l)) none none none none none none) D K):
  exs (ex P.j (orc P n) 64) ((.Q0 (.v 2) (.comp (.QB .Add (.sub (.l (.Q1 [(.int 252),(.int 254),(.int 253),(.int 126)])) (.v 9)) (.ite (.Q4 (.QB .Add (.l (.int 12)) (.v 9)) [.Lt] [(.call (.l (.bi "len")) [(.v 0)])]) (.sub (.v 0) (.QB .Add (.l (.int 12)) (.v 9))) (.l (.int 0)))) [9] false (.call (.l (.ty "range")) [(.l (.int 4))]) []))::r) (wE q none none none none none none none none) U K:=by
 have g:=L.get 0 rfl
 have hl:(s.map V.int).length<1000:=(alF _).symm▸hs
 refine m6 (Q:=λv D=>∃l n0 n1 n2 n3,v= .c l/\Lv D [(l,.list [.int n0,.int n1,.int n2,.int n3]),(q,.list (s.map V.int))]) (Y':=λv=>wE q none (some v) none none none none none none) (λK' hK=> ?_) rfl (λJ=>rfl) λv D hv=> ?_
 ·refine Ck (x:= .Rt 4) (λJ h=>h) (vs:=[.int (Int.ofNat 0),.int (Int.ofNat 1),.int (Int.ofNat 2),.int (Int.ofNat 3)]) (lo:=none) (wU (s:= .Rt 4) (r:=([.int (Int.ofNat 0),.int (Int.ofNat 1),.int (Int.ofNat 2),.int (Int.ofNat 3)],none)) rfl rfl (alE rfl)) (Oo (Q:=λu=>∃r,u= .int r) rfl (λv hv K2 hk=> ?_) λus e hu=> ?_)
  ·rcases alC hv with rfl|hv
   ·exact zE (GF g hl) (sel g hs (hk _ ⟨_,rfl⟩) λr=>hk _ ⟨_,rfl⟩)
   rcases alC hv with rfl|hv
   ·exact zE (GF g hl) (sel g hs (hk _ ⟨_,rfl⟩) λr=>hk _ ⟨_,rfl⟩)
   rcases alC hv with rfl|hv
   ·exact zE (GF g hl) (sel g hs (hk _ ⟨_,rfl⟩) λr=>hk _ ⟨_,rfl⟩)
   rcases alC hv with rfl|hv
   ·exact zE (GF g hl) (sel g hs (hk _ ⟨_,rfl⟩) λr=>hk _ ⟨_,rfl⟩)
   exact nomatch hv
  ·match us,e with
   |[a,b,c,d],_=>
    refine xE (hu a (.head _)) λn0 e_1=> ?_
    subst e_1
    refine xE (hu b (.tail _ (.head _))) λn1 e_1=> ?_
    subst e_1
    refine xE (hu c (.tail _ (.tail _ (.head _)))) λn2 e_1=> ?_
    subst e_1
    refine xE (hu d (.tail _ (.tail _ (.tail _ (.head _))))) λn3 e_1=> ?_
    subst e_1
    exact hK _ _ ⟨_,n0,n1,n2,n3,rfl,L.new⟩
 refine qI hv λl n0 n1 n2 n3 e_5 L=> ?_
 subst e_5
 exact h n0 n1 n2 n3 l D L
end
section
variable{n:Nat}{U:St}
noncomputable abbrev nth{α:Type}(d:α):List α->Nat->α:=List.rec (λJ=>d) λa J f i=> @Nat.rec (λJ=>α) a (λi J=>f i) i
noncomputable abbrev bkL(f:Nat->Loc)(F:List (Loc×zU)):List (Loc×zU):=(f 15,.dict [(.int (-1),.c (f 11))])::(f 11,trk 326 354)::(f 14,.dict [(.int 6,.c (f 10))])::(f 10,trk 606 627)::(f 13,.dict [(.int 1,.c (f 8)),(.int 58,.c (f 9))])::(f 9,lW 340 347 382)::(f 8,lW 340 347 375)::(f 12,.dict [(.int 17,.c (f 7))])::(f 7,trk 326 333)::(f 6,.dict [(.int 17,.c (f 7)),(.int 1,.c (f 8)),(.int 58,.c (f 9)),(.int 6,.c (f 10)),(.int (-1),.c (f 11))])::
   (f 0,.Qz 240 [(41,.int 9),(51,.int 0),(52,.int 128),(19,.c (f 1)),(21,.c (f 2)),(43,.int 0),(39,.c (f 6)),(23,.c (f 4)),(22,.c (f 3)),(53,.bool true)])::(f 3,.dict [])::(f 4,.list [])::(f 5,.dict [])::(f 2,.dict [])::(f 1,.dict [])::F
noncomputable abbrev wdL(w:Nat->Loc)(s:Nat->Tk)(y:Nat->Int)(F:List (Loc×zU)):List (Loc×zU):=(w 0,.dict [(.str 29,.int 1000),(.str 21,.c (w 5)),(.str 47,.c (w 1)),(.str 48,.c (w 2)),(.str 22,.c (w 3)),(.str 23,.c (w 4))])::(w 4,.list [])::(w 3,.list [])::(w 2,.list [])::(w 1,.list [])::tkL 3 (s 3) (w 15) (w 16) (w 17) (y 3) (tkL 2 (s 2) (w 12) (w 13) (w 14) (y 2) (tkL 1 (s 1) (w 9) (w 10) (w 11) (y 1) (tkL 0 (s 0) (w 6) (w 7) (w 8) (y 0) ((w 5,.list [.c (w 6),.c (w 9),.c (w 12),.c (w 15)])::F))))
noncomputable abbrev gW(p:Nat)(t:Tk)(u:Int):zU:= .Qz 218 [(20,.int (Int.ofNat p+1)),(17,yO (Int.ofNat t.a)),(16,yO (Int.ofNat t.b)),(18,.int (Int.ofNat t.z)),(26,.int u),(27,.int 0),(2,.int 0),(25,.int 0),(31,.int 0),(50,.none),(24,.int 0)]
theorem PZ{q l:Loc}{F:List (Loc×zU)}{n0 n1 n2 n3:Int}{K:KF}{r:List IS}(L:Lv U ((l,.list [.int n0,.int n1,.int n2,.int n3])::F))
  (h:∀r0 f w s y D,Lv D ((r0,.list [])::wdL w s y (bkL f ((l,.list [.int n0,.int n1,.int n2,.int n3])::F)))->
   exs (ex P.j (orc P (n+3)) 64) r (wE q none (some (.c l)) (some (.c (f 0))) (some (.c (w 0))) (some (.c r0)) none none none) D K):
  exs (ex P.j (orc P (n+3)) 64) ((.Q0 (.Q1 [(.v 3),(.v 4),(.v 5)]) (.Q1 [(.call (.l (.obj 656)) [(.l (.int 9))]),(.call (.l (.obj 765)) [(.v 2)]),(.QN [])]))::r) (wE q none (some (.c l)) none none none none none none) U K:=by
 refine Bn (Q:=λvs D=>∃r0 f w s y,vs=[.c (f 0),.c (w 0),.c r0]/\Lv D ((r0,.list [])::wdL w s y (bkL f ((l,.list [.int n0,.int n1,.int n2,.int n3])::F))))
  (Y':=λvs=>wE q none (some (.c l)) (some (hd0 vs)) (some (hd0 vs.tail)) (some (hd0 vs.tail.tail)) none none none) (λK' hK=> ?_) (λvs D hv K' h=> ?_) λvs D hv=> ?_
 ·refine M5.mk _ rfl L λD b0 b1 b2 b3 bx y t0 t4 t5 t6 t7 t8 o1 o2 o3 o4 L=> ?_
  have M:Lv D (bkL (nth b0 [b0,b1,b2,b3,bx,y,t0,t4,t5,t6,t7,t8,o1,o2,o3,o4]) ((l,.list [.int n0,.int n1,.int n2,.int n3])::F)):=L
  show KG _ D _
  have e:b0=nth b0 [b0,b1,b2,b3,bx,y,t0,t4,t5,t6,t7,t8,o1,o2,o3,o4] 0:=rfl
  generalize nth b0 [b0,b1,b2,b3,bx,y,t0,t4,t5,t6,t7,t8,o1,o2,o3,o4]=f at M e
  subst e
  refine KG.mk _ l 16 n0 n1 n2 n3 rfl rfl M λD w0 wi wk wl wx tl s0 s1 s2 s3 k0 e0 g0 y0 k1 e1 g1 y1 k2 e2 g2 y2 k3 e3 g3 y3 L=> ?_
  exact hK _ _ ⟨D.fr,f,nth w0 [w0,wi,wk,wl,wx,tl,k0,e0,g0,k1,e1,g1,k2,e2,g2,k3,e3,g3],nth s0 [s0,s1,s2,s3],nth y0 [y0,y1,y2,y3],rfl,Lv.new (F:=wdL (nth w0 [w0,wi,wk,wl,wx,tl,k0,e0,g0,k1,e1,g1,k2,e2,g2,k3,e3,g3]) (nth s0 [s0,s1,s2,s3]) (nth y0 [y0,y1,y2,y3]) (bkL f ((l,.list [.int n0,.int n1,.int n2,.int n3])::F))) L⟩
 ·refine qI hv λr0 f w s y e_5 J=> ?_
  subst e_5
  exact h
 refine qI hv λr0 f w s y e_5 L=> ?_
 subst e_5
 exact h _ _ _ _ _ _ L
end
section
variable{n:Nat}{U:St}
noncomputable abbrev qA(q l b w r:Loc)(v6 v7:Option V):Env:=wE q none (some (.c l)) (some (.c b)) (some (.c w)) (some (.c r)) v6 v7 none
noncomputable abbrev Kr:List IS:=[(.Q0 (.v 7) (.call (.l (.obj 218)) [(.sub (.v 6) (.l (.str 20))),(.sub (.sub (.v 6) (.l (.str 46))) (.l (.int 0))),(.sub (.sub (.v 6) (.l (.str 46))) (.l (.int 1))),(.sub (.v 6) (.l (.str 18)))])),(.Q0 (.Qy (.v 7) 26) (.sub (.v 6) (.l (.str 26)))),(.expr (.Rs (.v 5) 0 [(.v 7)]))]
theorem gA{H:List (Loc×zU)}{q l b w r k e:Loc}{i j m p:Nat}{t:Tk}{rs:List V}{v7:Option V}{K:KF}(L:Lv U H)(hk:H[i]?=some (k,tkD p t e))(he:H[j]?=some (e,tkE t))(hr:H[m]?=some (r,.list rs))(hz:rs.length<1000)
  (h:∀D x,Lv D ((x,gW p t t.u)::H.set m (r,.list (rs++[.c x])))->K .next (qA q l b w r (some (.c k)) (some (.c x))) D):
  exs (ex P.j (orc P (n+1)) 63) Kr (qA q l b w r (some (.c k)) v7) U K:=by
 have gk:=L.get i hk
 have ge:=L.get j he
 refine zC (j6 (zE (giD (k:= .str 20) gk rfl rfl) (zE (giD (k:= .str 46) gk rfl rfl) (zE (giL (k:=0) ge (by decide) rfl) (zE (giD (k:= .str 46) gk rfl rfl) (zE (giL (k:=1) ge (by decide) rfl) (zE (giD (k:= .str 18) gk rfl rfl) ?_)))))))
 refine KQ.mk _ _ _ _ rfl L.g λD x A=>jC (Y':=qA q l b w r (some (.c k)) (some (.c x))) rfl rfl ?_
 have L1:=L.at A
 refine stU (v:= .int t.u) rfl A.g rfl (λJ h=>zE (giD (k:= .str 26) (L1.get (i+1) hk) rfl rfl) h) ?_
 have L2:Lv (D.Q6 x (gW p t t.u)) ((x,gW p t t.u)::H):=L1.Q6 (o':=gW p t t.u) 0 rfl
 refine zC (zE (moL (L2.get (m+1) hr)) (zE (cmL (L2.get (m+1) hr) hz) (uI (zI (zT (h _ _ (L2.Q6 (m+1) hr)))))))
noncomputable abbrev Gu(x f w:Nat->Loc)(s:Nat->Tk)(y:Nat->Int)(r0:Loc)(F:List (Loc×zU)):List (Loc×zU):=(x 3,gW 3 (s 3) (s 3).u)::(x 2,gW 2 (s 2) (s 2).u)::(x 1,gW 1 (s 1) (s 1).u)::(x 0,gW 0 (s 0) (s 0).u)::(r0,.list [.c (x 0),.c (x 1),.c (x 2),.c (x 3)])::wdL w s y (bkL f F)
theorem PY{q l r0:Loc}{f w:Nat->Loc}{s:Nat->Tk}{y:Nat->Int}{F:List (Loc×zU)}{K:KF}{r:List IS}(L:Lv U ((r0,.list [])::wdL w s y (bkL f F)))
  (h:∀x v6 v7 D,Lv D (Gu x f w s y r0 F)->exs (ex P.j (orc P (n+1)) 64) r (qA q l (f 0) (w 0) r0 v6 v7) D K):
  exs (ex P.j (orc P (n+1)) 64) ((.QL [6] false (.sub (.v 4) (.l (.str 21))) Kr)::r) (qA q l (f 0) (w 0) r0 none none) U K:=by
 have g:=L.get 18 rfl
 have c:∀{D:St} {o:zU},D.get (w 5)=some o->o= .list [.c (w 6),.c (w 9),.c (w 12),.c (w 15)]->jI U (some (w 5)) D=true:=λe q=>alG ((q▸e).trans g.symm)
 refine zC (uO (zE (giD (k:= .str 21) (L.get 1 rfl) rfl rfl) (q8 (itL g) ?_)))
 refine zR (Y':=qA q l (f 0) (w 0) r0 (some (.c (w 6))) none) rfl (gA (i:=15) (j:=16) (m:=0) (p:=0) L rfl rfl rfl (alE rfl) λD x0 L=>zY (c (L.get 19 rfl) rfl) ?_)
 refine zR (Y':=qA q l (f 0) (w 0) r0 (some (.c (w 9))) (some (.c x0))) rfl (gA (i:=13) (j:=14) (m:=1) (p:=1) L rfl rfl rfl (alE rfl) λD x1 L=>zY (c (L.get 20 rfl) rfl) ?_)
 refine zR (Y':=qA q l (f 0) (w 0) r0 (some (.c (w 12))) (some (.c x1))) rfl (gA (i:=11) (j:=12) (m:=2) (p:=2) L rfl rfl rfl (alE rfl) λD x2 L=>zY (c (L.get 21 rfl) rfl) ?_)
 refine zR (Y':=qA q l (f 0) (w 0) r0 (some (.c (w 15))) (some (.c x2))) rfl (gA (i:=9) (j:=10) (m:=3) (p:=3) L rfl rfl rfl (alE rfl) λD x3 L=>zY (c (L.get 22 rfl) rfl) (yT (zI ?_)))
 exact h (nth x0 [x0,x1,x2,x3]) _ _ _ L
end
end
section
noncomputable def lk(a:Loc):List (Loc×Loc)->Option Loc:=List.rec none λe J h=> @Bool.rec (λJ=>Option Loc) h (some e.2) (e.1.R3 a)
theorem pU{a b:Loc}:∀{l:List (Loc×Loc)},lk a l=some b->(a,b)∈l
 |[],h=>nomatch h
 |e::r,h=>by
  have h: @Bool.rec (λJ=>Option Loc) (lk a r) (some e.2) (e.1.R3 a)=some b:=h
  cases q:e.1.R3 a with
  |true=>rw[q] at h;rw[<-alS h,<-(Loc.eqb_iff _ _).mp q];exact .head _
  |false=>rw[q] at h;exact .tail _ (pU h)
theorem CU{a b:Loc}:∀{l:List (Loc×Loc)},(l.map (·.1)).Nodup->(a,b)∈l->lk a l=some b
 |e::r,n,h=>by
  have n:=List.nodup_cons.mp n
  show @Bool.rec (λJ=>Option Loc) (lk a r) (some e.2) (e.1.R3 a)=some b
  cases q:e.1.R3 a with
  |true=>
   refine(alC h).elim (λq'=>q'▸rfl) λh=>(n.1 ?_).elim
   exact List.mem_map.mpr ⟨_,h,((Loc.eqb_iff _ _).mp q).symm⟩
  |false=>exact CU n.2 ((alC h).elim (λq'=>by subst q';exact nomatch q.symm.trans (Loc.eqb_self a)) id)
structure Ren(l:List (Loc×Loc)):Prop where
 n:(l.map (·.1)).Nodup
 o:(l.map (·.2)).Nodup
 k:∀e∈l,e.1.k<10/\e.1.k≠0
noncomputable def swp(l:List (Loc×Loc)):List (Loc×Loc):=l.map λe=>(e.2,e.1)
noncomputable def gn(l:List (Loc×Loc))(a:Loc):Loc:=(lk a (swp l)).getD ⟨20+a.k,a.i⟩
noncomputable def rnS(l:List (Loc×Loc))(D:St):St:=⟨0,0,λa=>(lk a l).bind λb=>(D.get b).map (zU.rn (gn l))⟩
variable{l:List (Loc×Loc)}
theorem Ren.gn(R:Ren l){a b:Loc}(h:(a,b)∈l):gn l b=a:=by
 have:lk b (swp l)=some a:=CU (by rw[swp,List.map_map];exact R.o) (List.mem_map.mpr ⟨_,h,rfl⟩)
 rw[Internal.gn,this];rfl
theorem Ren.at(R:Ren l){D:St}{a b:Loc}{o:zU}(h:(a,b)∈l)(g:D.get b=some o):(rnS l D).get a=some (o.rn (Internal.gn l)):=by
 show(lk a l).bind _=_
 rw[CU R.n h]
 show(D.get b).map _=_
 rw[g];rfl
theorem Ren.Rc(R:Ren l){D:St}{a:Loc}{o:zU}(h:(rnS l D).get a=some o):∃b o',(a,b)∈l/\D.get b=some o'/\o=o'.rn (Internal.gn l):=by
 refine xEA (Option.bind_eq_some_iff.mp (show(lk a l).bind _=some o from h)) λb h1 h2=> ?_
 refine xEA (alD h2) λo' h3 h4=> ?_
 exact⟨b,o',pU h1,h3,h4.symm⟩
theorem Ren.none(R:Ren l){D:St}{a:Loc}(h:a.k=0\/10<=a.k):(rnS l D).get a=none:=by
 cases e:(rnS l D).get a with
 |none=>rfl
 |some o=>
  refine vE (R.Rc e) λb o' h1 J=> ?_
  have:=R.k _ h1
  rcases h with h|h
  ·exact(this.2 h).elim
  ·exact(Nat.not_lt.mpr h this.1).elim
end
section
open PySem (Operator CmpOp BoolOp)
theorem pF{g:Loc->Loc}:∀{l:List Int},V.RV g (l.map V.int)=l.map V.int
 |[]=>rfl
 |a::r=>alQ (V.int a:: ·) pF
noncomputable abbrev prL(x f w:Nat->Loc)(r0 l q:Loc):List (Loc×Loc):=[(⟨2,3⟩,x 3),(⟨2,2⟩,x 2),(⟨2,1⟩,x 1),(⟨2,0⟩,x 0),(⟨9,1⟩,r0),(⟨3,0⟩,w 0),(⟨3,4⟩,w 4),(⟨3,3⟩,w 3),(⟨3,2⟩,w 2),(⟨3,1⟩,w 1),
 (⟨4,3⟩,w 15),(⟨5,3⟩,w 16),(⟨8,3⟩,w 17),(⟨4,2⟩,w 12),(⟨5,2⟩,w 13),(⟨8,2⟩,w 14),(⟨4,1⟩,w 9),(⟨5,1⟩,w 10),(⟨8,1⟩,w 11),(⟨4,0⟩,w 6),(⟨5,0⟩,w 7),(⟨8,0⟩,w 8),(⟨9,2⟩,w 5),
 (⟨8,15⟩,f 15),(⟨9,8⟩,f 11),(⟨8,14⟩,f 14),(⟨9,7⟩,f 10),(⟨8,13⟩,f 13),(⟨9,6⟩,f 9),(⟨9,5⟩,f 8),(⟨8,12⟩,f 12),(⟨9,4⟩,f 7),(⟨9,0⟩,f 6),(⟨1,0⟩,f 0),(⟨1,3⟩,f 3),(⟨1,4⟩,f 4),(⟨8,5⟩,f 5),(⟨1,2⟩,f 2),(⟨1,1⟩,f 1),(⟨8,20⟩,l),(⟨9,3⟩,q)]
noncomputable abbrev kc0(s:Nat->Tk):Kc:=⟨λp=>Int.ofNat (s p).z,λp=>Int.ofNat (s p).a,λp=>Int.ofNat (s p).b,λp=>(s p).u,λJ=>false⟩
noncomputable abbrev dt0:Dt:=⟨1000,0,λJ=>(false,false),[],[],[],[],[]⟩
theorem lne{a b:Loc}(h:a.R3 b=false):a≠b:=λe=>by subst e;exact nomatch h.symm.trans (Loc.eqb_self a)
theorem H1{P:Loc->Prop}{a b c d:Loc}(h1:P a)(h2:P b)(h3:P c)(h4:P d):∀l∈[a,b,c,d],P l:=λl h=>
 (alC h).elim (· ▸h1) λh=>(alC h).elim (· ▸h2) λh=>(alC h).elim (· ▸h3) λh=>(alC h).elim (· ▸h4) λh=>(List.not_mem_nil h).elim
section
variable{x f w:Nat->Loc}{s:Nat->Tk}{y:Nat->Int}{r0 l q:Loc}{sc:List Int}{o1:zU}{U:St}{g:Loc->Loc}
theorem Nx(A:∀i,Nat.blt i 41=true->U.get (nth (r0,r0) (prL x f w r0 l q) i).1=some ((nth (r0,o1) (Gu x f w s y r0 [(l,o1),(q,.list (sc.map V.int))]) i).2.rn g))(N:∀i,Nat.blt i 41=true->g (nth (r0,r0) (prL x f w r0 l q) i).2=(nth (r0,r0) (prL x f w r0 l q) i).1)(G:y8 U):Tn U (kc0 s) sc dt0 0:=by
 refine⟨⟨⟨1,4⟩,⟨3,1⟩,⟨3,2⟩,⟨3,3⟩,⟨3,4⟩,⟨?_,A 38 rfl,A 37 rfl,A 34 rfl,A 35 rfl,⟨rfl,lne rfl,lne rfl,lne rfl,lne rfl,λh=>Nat.noConfusion (Nat.succ.inj h)⟩,λJ h=>(List.not_mem_nil h).elim,λp hp=> ?_,rfl,λJ h=>(Bool.false_ne_true h).elim⟩,⟨?_,A 9 rfl,A 8 rfl,A 7 rfl,A 6 rfl,H1 ⟨rfl,lne rfl,λh=>Nat.noConfusion (Nat.succ.inj (Nat.succ.inj (Nat.succ.inj h)))⟩ ⟨rfl,lne rfl,λh=>Nat.noConfusion (Nat.succ.inj (Nat.succ.inj (Nat.succ.inj h)))⟩ ⟨rfl,lne rfl,λh=>Nat.noConfusion (Nat.succ.inj (Nat.succ.inj (Nat.succ.inj h)))⟩ ⟨rfl,lne rfl,λh=>Nat.noConfusion (Nat.succ.inj (Nat.succ.inj (Nat.succ.inj h)))⟩,λJ h=>(List.not_mem_nil h).elim,λp hp=> ?_,⟨lne rfl,lne rfl,lne rfl⟩,λJ J=>rfl,λJ h=>(Bool.false_ne_true h).elim⟩,λh=>H1 (P:=λm=>(⟨1,4⟩:Loc)≠m) (lne rfl) (lne rfl) (lne rfl) (lne rfl) _ h rfl⟩,⟨?_,?_,?_,?_,?_,?_,?_,?_,?_,λp hp=> ?_⟩,G,?_,Nat.zero_le _,λJ=>rfl⟩
 ·refine(A 33 rfl).trans ?_
  show some (zU.Qz 240 [(41,.int 9),(51,.int 0),(52,.int 128),(19,.c (g (f 1))),(21,.c (g (f 2))),(43,.int 0),(39,.c (g (f 6))),(23,.c (g (f 4))),(22,.c (g (f 3))),(53,.bool true)])=_
  rw[(show g (f 1)=⟨1,1⟩ from N 38 rfl),(show g (f 2)=⟨1,2⟩ from N 37 rfl),(show g (f 6)=⟨9,0⟩ from N 32 rfl),(show g (f 4)=⟨1,4⟩ from N 35 rfl),(show g (f 3)=⟨1,3⟩ from N 34 rfl)]
 ·exact tW (P:=λp=>U.get ⟨2,p⟩=some (.Qz 218 (yX (kc0 s) p (false,false)))) (A 3 rfl) (A 2 rfl) (A 1 rfl) (A 0 rfl) hp
 ·refine(A 5 rfl).trans ?_
  show some (zU.dict [(.str 29,.int 1000),(.str 21,.c (g (w 5))),(.str 47,.c (g (w 1))),(.str 48,.c (g (w 2))),(.str 22,.c (g (w 3))),(.str 23,.c (g (w 4)))])=_
  rw[(show g (w 5)=⟨9,2⟩ from N 22 rfl),(show g (w 1)=⟨3,1⟩ from N 9 rfl),(show g (w 2)=⟨3,2⟩ from N 8 rfl),(show g (w 3)=⟨3,3⟩ from N 7 rfl),(show g (w 4)=⟨3,4⟩ from N 6 rfl)]
 ·have h:∀p,p<4->U.get ⟨4,p⟩=some (.dict [(.str 20,jA p),(.str 18,.int (Int.ofNat (s p).z)),(.str 46,.c (g (w (3*p+7)))),(.str 26,.int (s p).u),(.str 25,.int 0)]):=λp hp=>
   tW (P:=λp=>U.get ⟨4,p⟩=some (.dict [(.str 20,jA p),(.str 18,.int (Int.ofNat (s p).z)),(.str 46,.c (g (w (3*p+7)))),(.str 26,.int (s p).u),(.str 25,.int 0)])) (A 19 rfl) (A 16 rfl) (A 13 rfl) (A 10 rfl) hp
  have e:g (w (3*p+7))=⟨5,p⟩:=tW (P:=λp=>g (w (3*p+7))=⟨5,p⟩) (N 20 rfl) (N 17 rfl) (N 14 rfl) (N 11 rfl) hp
  exact(h p hp).trans (alQ (λm=>some (zU.dict [(.str 20,jA p),(.str 18,.int (Int.ofNat (s p).z)),(.str 46,.c m),(.str 26,.int (s p).u),(.str 25,.int 0)])) e)
 ·refine(A 32 rfl).trans ?_
  show some (zU.dict [(.int 17,.c (g (f 7))),(.int 1,.c (g (f 8))),(.int 58,.c (g (f 9))),(.int 6,.c (g (f 10))),(.int (-1),.c (g (f 11)))])=_
  rw[show g (f 7)=⟨9,4⟩ from N 31 rfl,show g (f 8)=⟨9,5⟩ from N 29 rfl,show g (f 9)=⟨9,6⟩ from N 28 rfl,show g (f 10)=⟨9,7⟩ from N 26 rfl,show g (f 11)=⟨9,8⟩ from N 24 rfl]
 ·exact A 31 rfl
 ·exact A 29 rfl
 ·exact A 28 rfl
 ·exact A 26 rfl
 ·exact A 24 rfl
 ·refine(A 4 rfl).trans ?_
  show some (zU.list [.c (g (x 0)),.c (g (x 1)),.c (g (x 2)),.c (g (x 3))])=_
  rw[(show g (x 0)=⟨2,0⟩ from N 3 rfl),(show g (x 1)=⟨2,1⟩ from N 2 rfl),(show g (x 2)=⟨2,2⟩ from N 1 rfl),(show g (x 3)=⟨2,3⟩ from N 0 rfl)]
 ·refine(A 22 rfl).trans ?_
  show some (zU.list [.c (g (w 6)),.c (g (w 9)),.c (g (w 12)),.c (g (w 15))])=_
  rw[(show g (w 6)=⟨4,0⟩ from N 19 rfl),(show g (w 9)=⟨4,1⟩ from N 16 rfl),(show g (w 12)=⟨4,2⟩ from N 13 rfl),(show g (w 15)=⟨4,3⟩ from N 10 rfl)]
 ·exact(A 40 rfl).trans (alQ (λz=>some (zU.list z)) pF)
 ·exact tW (P:=λp=>U.get ⟨5,p⟩=some (.list [yO (Int.ofNat (s p).a),yO (Int.ofNat (s p).b)])) (A 20 rfl) (A 17 rfl) (A 14 rfl) (A 11 rfl) hp
 ·exact⟨.nil,λJ h=>(List.not_mem_nil h).elim,λJ h=>(List.not_mem_nil h).elim,.nil,λJ h=>(List.not_mem_nil h).elim,λJ h=>(List.not_mem_nil h).elim,.nil,.nil,λJ h=>(List.not_mem_nil h).elim,λJ=>Iff.rfl,Nat.zero_le _,Nat.zero_le _,Nat.zero_le _,Nat.zero_le _,Nat.zero_le _,.nil,.nil⟩
theorem fZ{α:Type}{d:α}:∀{l:List α} {i:Nat},i<l.length->l[i]?=some (nth d l i)
 |[],_,h=>(Nat.not_lt_zero _ h).elim
 |_::_,0,_=>rfl
 |_::r,i+1,h=>fZ (l:=r) (Nat.lt_of_succ_lt_succ h)
theorem Nz{D:St}(L:Lv D (Gu x f w s y r0 [(l,o1),(q,.list (sc.map V.int))])):Ren (prL x f w r0 l q)/\Tn (rnS (prL x f w r0 l q) D) (kc0 s) sc dt0 0:=by
 have R:Ren (prL x f w r0 l q):=⟨?_,L.nd,λe he=> ?_⟩
 ·refine⟨R,Nx (x:=x) (f:=f) (w:=w) (r0:=r0) (l:=l) (q:=q) (y:=y) (o1:=o1) (g:=gn (prL x f w r0 l q)) (λi hi=> ?_) (λi hi=> ?_) ⟨λn J=>R.none (.inl rfl),rfl⟩⟩
  ·have h1:(prL x f w r0 l q)[i]?=_:=fZ (d:=(r0,r0)) (alE hi)
   have h2:(Gu x f w s y r0 [(l,o1),(q,.list (sc.map V.int))])[i]?=_:=fZ (d:=(r0,o1)) (alE hi)
   have e:((prL x f w r0 l q).map (·.2))[i]?=((Gu x f w s y r0 [(l,o1),(q,.list (sc.map V.int))]).map (·.1))[i]?:=rfl
   rw[List.getElem?_map,List.getElem?_map,h1,h2] at e
   exact R.at (List.mem_of_getElem? h1) ((alQ D.get (alS e)).trans (L.at_ _ (List.mem_of_getElem? h2)))
  ·exact R.gn (List.mem_of_getElem? (fZ (d:=(r0,r0)) (alE hi)))
 ·have:(((prL x f w r0 l q).map (·.1)).map λa=>a.k*100+a.i).Nodup:=show [203,202,201,200,901,300,304,303,302,301,403,503,803,402,502,802,401,501,801,400,500,800,902,815,908,814,907,813,906,905,812,904,900,100,103,104,805,102,101,820,903].Nodup by decide
  exact List.Pairwise.of_map _ (λJ J h e=>h (alQ (λa:Loc=>a.k*100+a.i) e)) this
 ·have:=alN (show((prL x f w r0 l q).all λe=>Nat.blt e.1.k 10&&Nat.blt 0 e.1.k)=true from rfl) e he
  have:=alA this
  exact⟨alE this.1,Nat.ne_of_gt (alE this.2)⟩
end
section
variable{n:Nat}{U:St}
noncomputable abbrev Gg:List IS:=[(.Q0 (.v 8) (.QB .Add (.sub (.l (.Q1 [(.int 2),(.int 10),(.int 779),(.int 303),(.int 6),(.int 582),(.int 270),(.int 8),(.int 779),(.int 452),(.int 26),(.int 0)])) (.v 1)) (.ite (.Q4 (.v 1) [.Lt] [(.call (.l (.bi "len")) [(.v 0)])]) (.sub (.v 0) (.v 1)) (.l (.int 0))))),(.QC (.QT .Or [(.not (.call (.l (.obj 837)) [(.v 3),(.v 5),(.v 4),(.v 8)])),(.not (.call (.l (.obj 842)) [(.v 3),(.v 5),(.v 4)]))]) [(.ret (.l (.bool false)))] [])]
noncomputable abbrev Cf(v1 v2 v6 v7 v8:Option V):Env:=wE ⟨9,3⟩ v1 v2 (some (.c ⟨1,0⟩)) (some (.c ⟨3,0⟩)) (some (.c ⟨9,1⟩)) v6 v7 v8
theorem Qb{q:Loc}{s:List Int}{i:Nat}{B N:Prop}{F:V->Prop}(g:U.get q=some (.list (s.map V.int)))(hi:i<12)(h0:B)(h:∀r,F (.int r)):
  @Bool.rec (λJ=>Prop) B (@Option.rec V (λJ=>Prop) N F (getItem (.c q) (.int (Int.ofNat i)) U)) (decide (Int.ofNat i<((s.map V.int).length:Int))):=by
 cases e:decide (Int.ofNat i<((s.map V.int).length:Int)) with
 |false=>exact h0
 |true=>
  have e1:i<s.length:=by
   have:(i:Int)<((s.map V.int).length:Int):=alH e
   rw[alF] at this;omega
  exact zE (giL g (k:=i) (w:= .int s[i]) (by omega) (by rw[List.getElem?_map,List.getElem?_eq_getElem e1];rfl)) (h _)
theorem N8{c:Kc}{sc:List Int}{d:Dt}{k i:Nat}{v2 v6 v7 v8:Option V}{K:KF}(T:Tn U c sc d k)(hs:sc.length<1000)(hk:k<400)(hi:i<12)
  (h:∀D d r,Tn D c sc d (k+1)->K .next (Cf (some (.int (Int.ofNat i))) v2 v6 v7 (some (.int r))) D):
  exs (ex P.j (orc P (n+11)) 63) Gg (Cf (some (.int (Int.ofNat i))) v2 v6 v7 v8) U K:=by
 have g:=T.S.sc
 have hl:(sc.map V.int).length<1000:=(alF _).symm▸hs
 obtain⟨u,hu⟩:∃u:Int,[V.int 2,.int 10,.int 779,.int 303,.int 6,.int 582,.int 270,.int 8,.int 779,.int 452,.int 26,.int 0][i]?=some (.int u):=by
  have:([2,10,779,303,6,582,270,8,779,452,26,0]:List Int).map V.int=[V.int 2,.int 10,.int 779,.int 303,.int 6,.int 582,.int 270,.int 8,.int 779,.int 452,.int 26,.int 0]:=rfl
  rw[<-this,List.getElem?_map,List.getElem?_eq_getElem hi];exact⟨_,rfl⟩
 refine m6 (Q:=λv D=>∃r,v= .int r/\D=U) (Y':=λv=>Cf (some (.int (Int.ofNat i))) v2 v6 v7 (some v)) (λK' hK=> ?_) rfl (λJ=>rfl) λv D hv=> ?_
 ·exact zE (giT (Nat.lt_trans hi (by decide)) hu) (zE (GF g hl) (Qb g hi (hK _ _ ⟨_,rfl,rfl⟩) λr=>hK _ _ ⟨_,rfl,rfl⟩))
 refine xEA hv λr e_1 e_2=> ?_
 subst e_1
 subst e_2
 refine zC (hJ (Q:=λD=>∃d,Tn D c sc d (k+1)) (λK' h=> ?_) λD hτ=>zT (zI ?_))
 ·exact MU.mk c sc d k r rfl hk T λD d' T=>Ms.mk c sc d' (k+1) rfl T λD2 F=>h _ ⟨d',T.fr F⟩
 ·refine xE hτ λd' T=> ?_
  exact zT (h D d' r T)
theorem MD{c:Kc}{sc:List Int}{v2 v6 v7:Option V}{K:KF}{chk:St->Bool}(hc:∀D,chk D=true)(hs:sc.length<1000):∀{is:List Nat} {d:Dt} {k:Nat} {v1 v8:Option V} {U:St},(∀i∈is,i<12)->k+is.length<=400->Tn U c sc d k->
  (∀D d k v1 v8,Tn D c sc d k->K .next (Cf v1 v2 v6 v7 v8) D)->aE (exs (ex P.j (orc P (n+11)) 63) Gg) chk [1] false (is.map λi=> .int (Int.ofNat i)) (Cf v1 v2 v6 v7 v8) U K:=by
 intro is
 induction is with
 |nil=>intro d k v1 v8 U _ _ T h;exact yT (h _ _ _ _ _ T)
 |cons i r ih=>
  intro d k v1 v8 U hi hk T h
  have z:k+(r.length+1)<=400:=hk
  exact zR (Y':=Cf (some (.int (Int.ofNat i))) v2 v6 v7 v8) rfl (N8 T hs (by omega) (hi i (.head _)) λD d' x T=>zY (hc D) (ih (λj hj=>hi j (.tail _ hj)) (by omega) T h))
theorem Qu{c:Kc}{sc:List Int}{d:Dt}{v2 v6 v7:Option V}{K:KF}{r:List IS}(T:Tn U c sc d 0)(hs:sc.length<1000)
  (h:∀D Y d k,Tn D c sc d k->exs (ex P.j (orc P (n+11)) 64) r Y D K):
  exs (ex P.j (orc P (n+11)) 64) ((.QL [1] false (.call (.l (.ty "range")) [(.l (.int 12))]) Gg)::r) (Cf none v2 v6 v7 none) U K:=
 zC (c9 (x:= .Rt 12) (vs:=([0,1,2,3,4,5,6,7,8,9,10,11]:List Nat).map λi=> .int (Int.ofNat i)) (lo:=none) (λJ h=>h) rfl (MD (λJ=>rfl) hs (λi hi=>List.mem_range.mp (show i∈List.range 12 from hi)) (alE rfl) T λD d k v1 v8 T=>zI (h D _ d k T)))
theorem LS{q:Loc}{s:List Int}{K:KF}(L:Lv U [(q,.list (s.map V.int))])(hs:s.length<1000)
  (h:∀l n0 n1 n2 n3 r0 x f w t y v6 v7 D,Lv D (Gu x f w t y r0 [(l,.list [.int n0,.int n1,.int n2,.int n3]),(q,.list (s.map V.int))])->K .next (qA q l (f 0) (w 0) r0 v6 v7) D):
  exs (ex P.j (orc P (n+3)) 64) ((fH.drop 1).take 3) (wE q none none none none none none none none) U K:=
 PT L hs λn0 n1 n2 n3 l D L=>PZ L λr0 f w t y D L=>PY L λx v6 v7 D L=>zT (h _ _ _ _ _ _ _ _ _ _ _ _ _ _ L)
theorem PS{c:Kc}{sc:List Int}{d:Dt}{v2 v6 v7:Option V}{K:KF}(T:Tn U c sc d 0)(hs:sc.length<1000)(h:∀D Y,K .next Y D):
  exs (ex P.j (orc P (n+11)) 64) ((fH.drop 4).take 1) (Cf none v2 v6 v7 none) U K:=
 Qu T hs λD Y J J J=>zT (h D Y)
end
section
variable{n:Nat}{U:St}
theorem in1(x:Int): -(-x-1)-1=x:=by omega
theorem in2(x:Nat):decide (0<= -(x:Int)-1)=false:=decide_eq_false (by omega)
theorem in3(x:Nat):(-(-(x:Int)-1)-1).toNat=x:=(alQ Int.toNat (in1 x)).trans rfl
theorem IQ{m b:Nat}(h:b<256):PySem.Builtin.bitOr (Int.ofNat m*2 ^((8:Int).toNat)) (Int.ofNat b)=Int.ofNat (m*256+b):=by
 have o:m*256|||b=m*256+b:=((Nat.mul_comm (2 ^ 8) m)▸Nat.two_pow_add_eq_or_of_lt (i:=8) h m).symm
 show PySem.Builtin.bitNot (PySem.Builtin.bitAnd (-((m*256:Nat):Int)-1) (-((b:Nat):Int)-1))=_
 unfold PySem.Builtin.bitAnd
 rw[in2,in2]
 show-(-((((-(-((m*256:Nat):Int)-1)-1).toNat|||(-(-((b:Nat):Int)-1)-1).toNat:Nat)):Int)-1)-1=((m*256+b:Nat):Int)
 rw[in3,in3,o,in1]
noncomputable abbrev sB(v:V)(v1 v2:Option V):Env:=[some v,v1,v2,none,none,none,none,none,none,none,none]
theorem JP{m:Nat}(h:m<256 ^ 16):(if(0:Int)<=8/\(8:Int)<=1000/\PySem.Builtin.Int.intBits (Int.ofNat m)<=1000 then some (V.int (Int.ofNat m*2 ^((8:Int).toNat)),U) else none)=some (V.int (Int.ofNat m*2 ^((8:Int).toNat)),U):=
 if_pos ⟨by decide,by decide,alJ (PySem.intBits_le_iff (m:=128).mpr (show m<2 ^ 128 from h)) (by decide)⟩
theorem Kt{v:V}{lo:Option Loc}{K:KF}:∀{bs:List Nat} {m:Nat} {v2:Option V},(∀b∈bs,b<256)->bs.length<=16->m<256 ^(16-bs.length)->(∀v2,K .next (sB v (some (.int (Int.ofNat (Mg bs m)))) v2) U)->
  aE (exs (ex P.j (orc P n) 63) [.Q0 (.v 1) (.QB .BitOr (.QB .LShift (.v 1) (.l (.int 8))) (.v 2))]) (jI U lo) [2] false (bs.map wT) (sB v (some (.int (Int.ofNat m))) v2) U K:=by
 intro bs
 induction bs with
 |nil=>intro m v2 _ _ _ h;exact yT (h _)
 |cons b r ih=>
  intro m v2 hb hl hm h
  have b1:b<256:=hb b (.head _)
  have hl:r.length+1<=16:=hl
  have p:16-r.length=(16-(r.length+1))+1:=(Nat.sub_add_cancel (Nat.sub_pos_of_lt hl)).symm
  have hm:m<256 ^(16-(r.length+1)):=hm
  have m16:m<256 ^ 16:=Nat.lt_of_lt_of_le hm (Nat.pow_le_pow_right (by decide) (Nat.sub_le _ _))
  refine zR (Y':=sB v (some (.int (Int.ofNat m))) (some (.int (Int.ofNat b)))) rfl (uE (v:= .int (Int.ofNat (m*256+b))) (Y':=sB v (some (.int (Int.ofNat (m*256+b)))) (some (.int (Int.ofNat b)))) (λK' h=>zE (JP m16) ?_) rfl rfl (zT (zY q9 (ih (λc hc=>hb c (.tail _ hc)) (Nat.le_of_succ_le hl) ?_ h))))
  ·exact(alQ (λi=>K' (.int i) U) (IQ (m:=m) b1)).mpr h
  ·rw[p,Nat.pow_succ];exact Nat.lt_of_lt_of_le (Nat.add_lt_add_left b1 _) (Nat.succ_mul m 256▸Nat.mul_le_mul_right 256 hm)
theorem BN{v:V}{bs:List Nat}(e:(v.pick no some no no λl=>jV (U.get l) no no some)=some bs):∃lo,qM v U=some (bs.map wT,lo):=by
 cases v with
 |bytes b=>cases e;exact⟨none,rfl⟩
 |c x=>
  have e:jV (U.get x) no no some=some bs:=e
  cases g:U.get x with
  |none=>rw[g] at e;exact nomatch e
  |some o=>
   rw[g] at e
   cases o with
   |QA b=>cases e;exact⟨some x,by show jV (U.get x) _ _ _=_;rw[g];rfl⟩
   |_=>exact nomatch e
 |_=>exact nomatch e
theorem Mb{vs:List V}{K:V->St->Prop}(h:S21 vs U K):z9 P.j (orc P n) f21 vs U K:=by
 refine zQ h λbs e hh=>yU e λv hv e=>zB e λbs' hp ee=> ?_
 subst hv
 cases q:(Nat.ble bs'.length 16&&bs'.all λb=>Nat.ble b 255) with
 |false=>rw[q] at ee;exact nomatch ee
 |true=>
  rw[q] at ee
  cases alS ee
  refine xE (BN hp) λlo hi=> ?_
  have q:=alA q
  refine z8 (Y:=sB v none none) rfl (uE (v:= .int (Int.ofNat 0)) (U':=U) (Y':=sB v (some (.int (Int.ofNat 0))) none) (λK' h=>h) rfl rfl (zC (uO (q8 hi (Kt (λb hb=>Nat.lt_succ_of_le (alE (alN q.2 b hb))) (alE q.1) (Nat.pow_pos (by decide)) λv2=>zI ?_)))))
  exact hh
end
end
section
theorem qR{a k:Nat}{f:FI}{S:List V->St->Cp V}(hf:P.fn a=some f)(h:∀n vs U K,S vs U K->z9 P.j (orc P (n+k)) f vs U K):wJ P a k S:= .run λn vs U K hk hs=>by
 have e:n-k+k=n:=Nat.sub_add_cancel hk
 unfold wL;rw[hf];exact e▸h (n-k) vs U K hs
theorem x6{a k:Nat}{S:List V->St->Cp V}(h:∀n vs U K,S vs U K->wL P (orc P (n+k)) a vs U K):wJ P a k S:= .run λn vs U K hk hs=>by
 have e:n-k+k=n:=Nat.sub_add_cancel hk
 exact e▸h (n-k) vs U K hs
theorem J2:wJ P 799 0 (CS AB sK):= .own λn vs K J hp h=>show wL P (orc P n) 799 vs .Rg K from HD hp h
theorem fc{α:Type}{Q:α->Prop}{a:α}{r:List α}(h:Q a)(hs:∀e∈r,Q e):∀e∈a::r,Q e:=λe he=>(alC he).elim (λq=>q▸h) (hs e)
theorem GG:∀e∈OO,wJ P e.1 e.2.1 e.2.2:=
 fc (qR (f:=f21) rfl λJ J J J h=>Mb h)<|
 fc (qR (f:=LF) rfl λJ J J J h=>HY h)<|
 fc (qR (f:=Le) rfl λJ J J J h=>Kn h)<|
 fc (qR (f:=Oj) rfl λJ J J J h=>Iw h)<|
 fc (qR (f:=NX) rfl λJ J J J h=>Hq h)<|
 fc (qR (f:=LE) rfl λJ J J J h=>Ko h)<|
 fc (qR (f:=MZ) rfl λJ J J J h=>JB h)<|
 fc (qR (f:=MQ) rfl λJ J J J h=>Jo h)<|
 fc J2 <|
 fc (qR (f:=f95) rfl λJ J J J h=>ND h)<|
 fc (qR (f:=f28) rfl λJ J J J h=>N1 h)<|
 fc (qR (f:=f56) rfl λJ J J J h=>Mp h)<|
 fc (x6 λJ J J J h=>Jn h)<|
 fc (qR (f:=Nh) rfl λJ J J J h=>Hp h)<|
 fc (qR (f:=MJ) rfl λJ J J J h=>J3 h)<|
 fc (x6 λJ J J J h=>Ji h)<|
 fc (qR (f:=Nf) rfl λJ J J J h=>JR h)<|
 fc (qR (f:=KA) rfl λJ J J J h=>Ja h)<|
 fc (qR (f:=LU) rfl λJ J J J h=>Jw h)<|
 fc (qR (f:=MY) rfl λJ J J J h=>IL h)<|
 fc (qR (f:=LZ) rfl λJ J J J h=>JJ h)<|
 fc (qR (f:=ME) rfl λJ J J J h=>Hf h)<|
 fc (qR (f:=Mq) rfl λJ J J J h=>JN h)<|
 fc (x6 λJ J J J h=>Ic h)<|
 fc (x6 λJ J J J h=>HK h)<|
 fc (qR (f:=NA) rfl λJ J J J h=>HM h)<|
 fc (qR (f:=Ol) rfl λJ J J J h=>Ju h)<|
 fc (qR (f:=Na) rfl λJ J J J h=>Jd h)<|
 fc (qR (f:=Ls) rfl λJ J J J h=>Kv h)<|
 fc (qR (f:=Nu) rfl λJ J J J h=>Ka h)<|
 fc (qR (f:=LD) rfl λJ J J J h=>Im h)<|
 fc (qR (f:=Nc) rfl λJ J J J h=>Jl h)<|
 fc (qR (f:=Lh) rfl λJ J J J h=>Kf h)<|
 fc (qR (f:=LA) rfl λJ J J J h=>II h)<|
 fc (qR (f:=Nk) rfl λJ J J J h=>Hg h)<|
 fc (qR (f:=Mu) rfl λJ J J J h=>Hi h)<|
 fc (qR (f:=MK) rfl λJ J J J h=>J1 h)<|
 fc (qR (f:=NY) rfl λJ J J J h=>Jh h)<|
 fc (qR (f:=MM) rfl λJ J J J h=>JT h)<|
 fc (qR (f:=O0) rfl λJ J J J h=>JY h)<|
 fc (qR (f:=LX) rfl λJ J J J h=>J5 h)<|
 fc (qR (f:=Lm) rfl λJ J J J h=>IT h)<|
 fc (qR (f:=Lr) rfl λJ J J J h=>ID h)<|
 fc (qR (f:=Lf) rfl λJ J J J h=>Hh h)<|
 fc (qR (f:=Ov) rfl λJ J J J h=>J0 h)<|
 fc (qR (f:=LN) rfl λJ J J J h=>JU h)<|
 fc (qR (f:=LL) rfl λJ J J J h=>Jm h)<|
 fc (x6 λJ J J J h=>IK h)<|
 fc (qR (f:=Lw) rfl λJ J J J h=>IH h)<|
 fc (qR (f:=Ld) rfl λJ J J J h=>I6 h)<|
 fc (qR (f:=N4) rfl λJ J J J h=>Ih h)<|
 fc (qR (f:=Op) rfl λJ J J J h=>JV h)<|
 λJ h=>(List.not_mem_nil h).elim
theorem Hx:GE P:=λa k S h=>GG (a,(k,S)) (eY h)
theorem Gb:GE P0:=λJ J J h=>nomatch h
theorem Nt{C:Cx}(H:aJ C P):aJ C P0:=⟨H.X,H.fn,H.cls,H.wA,H.wG,H.ne⟩
theorem Dq{C:Cx}(H:aJ C P)(n:Nat):Calls C n P.j (orc P n):=⟨H.X,DZ H Hx n,H.wA,H.wG,H.ne⟩
theorem Bt{C:Cx}(H:aJ C P)(n:Nat):Calls C n P0.j (orc P0 n):=⟨H.X,DZ (Nt H) Gb n,H.wA,H.wG,H.ne⟩
end
section
open PySem (Operator CmpOp BoolOp)
section
variable{U:St}
theorem OS{y:Loc}{v:V}{k:Int}(g:U.get y=some (.dict [(.int 17,v)]))(hk:k≠17):cG .In (.int k) (.c y) U=some false:=
 (inD g rfl).trans (alQ some (Bool.or_eq_false_iff.mpr ⟨decide_eq_false λq=>hk (V.int.inj q).symm,rfl⟩))
noncomputable abbrev Eo(b:Loc):Env:=[some (.c b),some (.int 6),none,none,none,none,none,none,none,none]
theorem sL{Φ:Orc}{b y:Loc}{fs:List (Nat×V)}{v:V}{K:KF}(h1:U.get b=some (.Qz 240 fs))(h2:kR fs 39=some (.c y))(h3:U.get y=some (.dict [(.int 17,v)]))(h:K .next (Eo b) U):exs (ex P.j Φ 64) (Dk.take 2) (Eo b) U K:=
 zC (sW (U':=U) (λK' h=>zE (ga h1 h2) (zE (OS h3 (by decide)) h)) (zT (zI (zC (sW (U':=U) (λK' h=>zE (ga h1 h2) (zE (OS h3 (by decide)) h)) (zT (zI (zT h))))))))
end
end
section
open PySem PySem.W PySem.Calls
open PySem.Sem (wp)
section
variable{M:Model}{A:Around}{E:Value->Shared->Prop}{s:Shared}
theorem gQ{α:Type}{m:Sem α}{Q:Except Value α->Shared->Prop}(h:wpC M A m (λa s'=>Q (.ok a) s') (λe s'=>Q (.error e) s') s):wpC M A m.attempt Q E s:=λΓ p hΓ hc=>by
 rw[Sem.wp_attempt];exact h Γ p hΓ hc
end
section
variable{prog:Program}{w:World}{A:Around}{R:Result->Shared->Prop}{s:Shared}
theorem m8{body:List Stmt}{env:PySem.Env}(h:wpC (model prog w) (A.deeper env) (execs body env) (λf s'=>R (.ok (.ret (match f with| .ret v=>v|_=> .none))) s')
   (λe s'=>wpC (model prog w) (A.deeper env) (leaving env e) (λJ s''=>R (.error e) s'') (λe' s''=>R (.error e') s'') s') s):jK (model prog w) A (.func body env) R s:=by
 refine zZ ?_ (λJ J=>rfl)
 show wpC _ (A.deeper env) (do point;match<-(execs body env).onRaise (leaving env) with| .ret v=>ret v|_=>ret .none) _ _ s
 refine zM (wpAny_point (zA ?_))
 refineλΓ p hΓ hc=> ?_
 rw[Sem.wp_onRaise]
 refine Sem.wp_mono _ Γ _ (λf p' s' h'=> ?_) (λe p' s' h'=>h' Γ p' hΓ hc) p s (h Γ p hΓ hc)
 cases f<;>exact zD h'
end
section
variable{C:Cx}{n:Nat}{env:PySem.Env}{N:z7}
theorem pJ{r:List Stmt}{F:IS->BdF}{K:KF}{l:List Stmt}{irs:List IS}(hK:∀fl Y U,K fl Y U->fl= .next)(h:Two (λst ir=>SX C n env N (exec st env) (F ir)) l irs):∀{A:Around} {s:Shared} {Z:Emb} {U:St} {Y:Env} {Q:Flow->Shared->Prop} {E:Value->Shared->Prop},
  kO n A->Rel C Z U s.heap->FrI C Z U s.heap env N Y->exs F irs Y U K->
  (∀Y' U' s' Z',K .next Y' U'->zV C (Own env) Z U s Z' U' s'->FrI C Z' U' s'.heap env N Y'->wpC (Mo C) A (execs r env) Q E s')->wpC (Mo C) A (execs (l++r) env) Q E s:=by
 induction h with
 |nil=>exactλO R F h q=>q _ _ _ _ h (zV.refl R) F
 |cons h1 _ ih=>
  intro A s Z U Y Q E O R Fr h q
  rw[List.cons_append,arm_execs_cons]
  refine zA (h1 O R Fr h λx Y1 U1 s1 Z1 w h S1 F1 r1=> ?_)
  cases r1 with
  |next=>exact ih O S1.Q8 F1 h λY2 U2 s2 Z2 hk S2 F2=>q _ _ _ _ hk (S1.trans S2) F2
  |brk=>exact nomatch hK _ _ _ h
  |ret r1=>exact nomatch hK _ _ _ h
def Frs(C:Cx)(Z:Emb)(U:St)(h:Heap)(l:List PySem.Env):Prop:=∀env∈l,env.scope.kind≠ .module/\env.frame=some env.locals/\C.h0.get? env.locals=none/\¬own Z U env.locals/\∃o,h.get? env.locals=some o/\∀vs,o.data≠ .fields vs
theorem Frs.Q5{Z U s Z' U' s' l}(F:Frs C Z U s.heap l)(S:zV C Nil Z U s Z' U' s'):Frs C Z' U' s'.heap l:=λenv he=>by
 refine xK (F env he) λh1 h2 h3 h4 o h5 h6=> ?_
 refine⟨h1,h2,h3,λq=> ?_,o,S.keep _ _ h5 h4 id,h6⟩
 rcases S.QY _ q with q|q
 ·exact h4 q
 ·exact absurd (Heap.lt_size h5) (Nat.not_lt.mpr q)
theorem Frs.fun{Z U h}:∀{l},Frs C Z U h l->h.FunFrames C.h0 l
 |[],_=>trivial
 |env::l,F=>by
  refine xK (F env (.head _)) λh1 h2 h3 J o h5 h6=> ?_
  exact⟨h1,⟨_,o,h2,h3,h5,h6⟩,Frs.fun (λe he=>F e (.tail _ he))⟩
theorem FrI.frs{Z U h Y}{gl:List Str}(F:FrI C Z U h env N Y)(O:jP env N gl)(hf:env.frame=some env.locals){l:List PySem.Env}(Fl:Frs C Z U h l):Frs C Z U h (env::l):=λe he=>by
 rcases alC he with rfl|he
 ·obtain⟨m,⟨o,es,ep,ho,hd,_⟩,_⟩:=F.ns
  exact⟨by rw[O.kind];decide,hf,F.h0,F.RU,o,ho,λvs q=>by rw[hd] at q;cases q⟩
 ·exact Fl e he
theorem rE{h h':Heap}{a:Addr}{m:Str->Option Value}(x:h.UpToSlots h')(hn:h.Ns1 a m):h'.Ns1 a m:=by
 refine oN hn λo es ep ho hd r=> ?_
 obtain⟨sl,hs⟩:=x a o ho λvs q=>by rw[hd] at q;cases q
 exact⟨_,es,ep,hs,hd,r⟩
theorem jP.in{gl:List Str}(O:jP env N gl):nA env:=⟨O.kind,O.RZ,O.bl⟩
end
end
section
open PySem PySem.W PySem.Calls
noncomputable abbrev yB:Str:=Str.ofString "the book of talks has no tracker for the protocol"
inductive nY:Stmt->Prop
 |mk (np k kp cpos pos):nY (.Raise (some (.Call (.Name "Misused" np) [.Constant (.str yB) k kp] [] cpos)) none pos)
structure Ax(C:Cx)(fd:FuncData)(body:List Stmt):Prop where
 RD:nJ C 641 fd body
 pre:∃pre st,body=pre++[st]/\nY st/\
  pre.mapM (cS C.T (zO 0 fd.scope.names).length ⟨zO 0 fd.scope.names,jH fd.scope.names⟩ 40)=some (Dk.take 2)
 ps:fd.params.args.mapM (λx=>qN (zO 0 fd.scope.names) x.arg)=some [0,1]
 len:(zO 0 fd.scope.names).length=2
 kx:fd.scope.names.lookup ("Misused":Str)=some .globalImplicit
structure sZ(C:Cx):Prop where
 fn:∃fd body,Jf C fd body
 RY:vX C.K
 gE:C.mg "Exception"=none
 bE:C.mb "Exception"=some (.type "Exception")
 gM:C.mg "Misused"=some (.ref 86)
 keep:keepIn C.K (.ref 86)=true
section
variable{C:Cx}
theorem CI{n:Nat}{fd:FuncData}{body:List Stmt}{Φ:Orc}(H:Calls C n P.j Φ)(X:y9 C)(EX:sZ C)(HF:Ax C fd body){A:Around}(hA:tV n A){outer:List PySem.Env}(hfr:A.frames=some outer){s:Shared}{Z:Emb}{U:St}{R:Result->Shared->Prop}
  (hrel:Rel C Z U s.heap)(Fo:Frs C Z U s.heap outer){b y:Loc}{fs:List (Nat×V)}{v:V}(h1:U.get b=some (.Qz 240 fs))(h2:kR fs 39=some (.c y))(h3:U.get y=some (.dict [(.int 17,v)]))
  {yals:List Value}(hv:zW C Z s.heap [.c b,.int 6] yals)
  (q:∀s' e tm dx mA s2 Z2 U2,zV C Nil Z U s Z2 U2 s2->s2.heap.UpToSlots s'.heap->Cg C.h0 outer e dx .none s'.heap->dx≠e->s2.heap.get? dx=none->s'.heap.Ns1 dx mA->mA "why"=some (.str yB tm)->s'.gens=s.gens->s'.os=s.os->R (.error (.ref e)) s'):
  jK (Mo C) A (.call (.ref 641) ⟨yals,[]⟩) R s:=by
 obtain⟨hraw,⟨pre,st,rfl,⟨np,k,kp,cpos,pos⟩,hpre⟩,hps,hlen,kx⟩:=HF
 refine xEE EX.fn λfd70 EK H70=> ?_
 refine KT (id hA) λr1 r2 r3 r4=> ?_
 refine cZ X hraw.toAt hps hA.lt hrel hv rfl λenv s1' OE S0 FE hef hes kp0 hloc=> ?_
 refine m8 ?_
 rw[hlen] at FE
 have OkE:kO n (A.deeper env):=hA.okay env
 refine pJ (F:=ex P.j Φ 64) (K:=λfl J D=>fl= .next/\U=D) (λJ J J h=>h.1) ((jF hpre).map λst ir hir=>cH H OE 40 hir) OkE S0.Q8 FE (sL h1 h2 h3 ⟨rfl,rfl⟩) λY3 U3 s3 Z3 hk S3 F3=> ?_
 refine xA hk λJ e_1=> ?_
 subst e_1
 have S:zV C Nil Z U s Z3 U s3:=((S0.Q7 (jjY:=Own env) λJ f=>f.elim).trans S3).Q7 λy hy=> .inr (hloc y hy)
 have Fs:Frs C Z3 U s3.heap (env::outer):=F3.frs OE hef (Fo.Q5 S)
 rw[arm_execs_cons]
 obtain⟨hh,g,d,t,os⟩:=s3
 have hgens:=S.gens
 have hos:=S.os
 dsimp only at hgens hos
 refine zA (zL (Ao X H70 EX.RY EX.gE EX.bE EX.gM EX.keep OE.in ?_ ?_ OkE.1 (λb o hb=>S.Q8.keep b o hb) λh' tk e tm kp1 ma he0=> ?_))
 ·show env.scope.names.lookup _=_
  rw[hes];exact kx
 ·show A.depth+1+10<1000
  omega
 ·refine bL ma.ex λt1 dx mA e1 e2 e3 e4 e5=> ?_
  have Fh:h'.FunFrames C.h0 (env::outer):=Fs.fun.of_keeps λb o hb J=>⟨o,kp1 _ _ hb,rfl⟩
  refine zL (HI (base:=C.h0) (s:=⟨h',g,d,tk,os⟩) (Around.frames_deeper hfr) Fh hef e1 (λb o hb=>kp1 _ _ (S.Q8.keep b o hb)) he0 rfl (by rfl) rfl rfl λh2 F2 jU2=> ?_)
  exact q _ e tm dx mA _ Z3 _ S ((Heap.UpToSlots.of_keeps kp1).trans jU2) F2 e2 e5 (rE jU2 e3) e4 hgens hos
end
section
variable{C:Cx}{A:Around}{E:Value->Shared->Prop}{env:PySem.Env}{h:Heap}{g:Array GenState}{d:Drawn}{t:Nat}{os:OsState}{outer:List PySem.Env}{e dx:Addr}{m mA:Str->Option Value}{tm:Tok}
theorem CR{h h':Heap}{a:Addr}{m:Str->Option Value}(hn:h.Ns1 a m)(k:h'.get? a=h.get? a):h'.Ns1 a m:=
 let⟨o,es,ep,e,r⟩:=hn;⟨o,es,ep,k.trans e,r⟩
theorem DG{M:Model}{vs:List Value}{m:Sem Value}{Q:Value->Shared->Prop}{s:Shared}(h:wpAny M A m Q E s):wpAny M A (operate vs m) Q E s:=λΓ p hΓ=>by
 rw[Sem.wp_operate];exact h Γ p hΓ
theorem mR{p5 ap p6 cp rp:Pos}{k:Nat}{Q:Flow->Shared->Prop}(X:y9 C)(EX:sZ C)(O:nA env)(kf:env.kindOf "fault"=some .local)(kp:∀b o,C.h0.get? b=some o->h.get? b=some o)
  (hm:h.Ns env.locals m)(mf:m "fault"=some (.ref e))(I:h.Inst e 86 mA)(hw:mA "why"=some (.str yB tm))(q:∀tk,Q (.ret (.bool true)) ⟨h,g,d,tk,os⟩):
  wpAny (Mo C) A (execs [.Return (some (.Compare (.Attribute (.Name "fault" p5) "why" ap) [.Eq] [.Constant (.str yB) k p6] cp)) rp] env) Q E ⟨h,g,d,t,os⟩:=by
 rw[arm_execs_cons,arm_exec_Return]
 refine wpAny_bind (wpAny_bind (wpAny_standAt ?_))
 show wpAny _ _ (eval _ env>>=_) _ _ _
 refine wpAny_bind ?_
 rw[arm_eval_Compare]
 refine wpAny_bind ?_
 rw[arm_eval_Attribute,bF (by rfl)]
 refine wpAny_bind (uW O kf hm mf (by decide) (wpAny_bind (wpAny_standAt (wpAny_bind (wpAny_holding ?_)))))
 refine xE (qZ (X.KX.keeps kp) EX.RY.obj) λcc hC=> ?_
 refine Db (X.KX.keeps kp) (by rfl) hC EX.RY.why EX.RY.ga EX.RY.gt I hw (by rfl) ?_
 refine wpAny_bind (wpAny_letTemporaryGo (wpAny_pure ?_))
 show wpAny (Mo C) A (compareChain cp _ [.Eq] [mkText yB]) _ _ _
 refine wpAny_bind (wpAny_holding (wpAny_mkText (wpAny_bind (wpAny_standAt ?_))))
 refine DG (PySem.P.eq_str ?_)
 refine wpAny_pure (wpAny_pure ?_)
 have:(yB.cps.toList==yB.cps.toList)=true:=by simp
 rw[this]
 exact q _
theorem rW{p4 p5 ap p6 cp rp hp:Pos}{k:Nat}{Q:Flow->Shared->Prop}(X:y9 C)(EX:sZ C)(O:nA env)(kx:env.kindOf "Misused"=some .globalImplicit)(kf:env.kindOf "fault"=some .local)
  (F:Cg C.h0 (env::outer) e dx .none h)(hm:h.Ns env.locals m)(hn:h.Ns1 dx mA)(hw:mA "why"=some (.str yB tm))(dne:dx≠e)(dnl:dx≠env.locals)(hef:env.frame=some env.locals)
  (q:∀h' tk,(∀b o,C.h0.get? b=some o->h'.get? b=some o)->Q (.ret (.bool true)) ⟨h',g,d,tk,os⟩):
  wpAny (Mo C) A (handleBy (.ref e) env [.ExceptHandler (some (.Name "Misused" p4)) (some "fault") [.Return (some (.Compare (.Attribute (.Name "fault" p5) "why" ap) [.Eq] [.Constant (.str yB) k p6] cp)) rp] hp]) Q E ⟨h,g,d,t,os⟩:=by
 refine wpAny_handleBy_cons (codeAny_handlers_test (oB (X.g.keeps F.stays) EX.gM O.kind kx O.RZ (by decide) ?_)) (by intro q;cases q)
 refine xE (qZ (X.KX.keeps F.stays) EX.RY.obj) λcc hC=> ?_
 refine dH (id F.tr) λoe vs T oT ts he hc hx hd h1 hnT hTe hT hdT h3=> ?_
 refine wpAny_excMatches_sub_self hC he hc (by rfl) (codeAny_handlers_suite_as ?_)
 refine mX F λh2 F2 jU2=> ?_
 refine wpAny_storeName_local (s:=⟨h2,g,d,t,os⟩) kf (jU2.ns hm) (λh4 hn4 hs4=> ?_) (by rw[O.kind];rfl)
 refine tH F2.tr λoe2 vs2 T2 oT2 ts2 he2 hc2 hx2 hd2 J=> ?_
 have el:e≠env.locals:=by
  rintro rfl
  obtain⟨o',_,_,ho',hdd,_⟩:=jU2.ns hm
  rw[he2] at ho';cases ho';rw[hd2] at hdd;cases hdd
 have hL0:C.h0.get? env.locals=none:=by
  obtain⟨_,⟨L',_,hf',hn',_⟩,_⟩:=F2.frames
  rw[hef] at hf';cases hf';exact hn'
 have kp4:∀b o,C.h0.get? b=some o->h4.get? b=some o:=λb o hb=>(hs4.2 b (by rintro rfl;rw[hL0] at hb;cases hb)).trans (F2.stays _ _ hb)
 have I4:h4.Inst e 86 mA:=⟨oe2,(hs4.2 e el).trans he2,hc2,(λc q=>by rw[hd2] at q;cases q),.inr ⟨dx,hx2,dne,CR (rE jU2 hn) (hs4.2 dx dnl)⟩⟩
 refine mR X EX O kf kp4 hn4 (by simp) I4 hw λtk=> ?_
 show wpAny _ _ _ _ _ _
 exact wpAny_nameGoes kf hn4 (by rw[O.kind];rfl) λh5 m5 hn5 hs5=>q h5 _ λb o hb=>(hs5.2 b (by rintro rfl;rw[hL0] at hb;cases hb)).trans (kp4 _ _ hb)
end
theorem gG{prog:Program}{w:World}{A:Around}{E:Value->Shared->Prop}{s:Shared}{env:PySem.Env}{body:List Stmt}{h₀:ExceptHandler}{hs:List ExceptHandler}{pos:Pos}{Q:Flow->Shared->Prop}
  (h:wpC (model prog w) A (execs body env) (λJ J=>False)
   (λe s₁=>wpAny (model prog w) A (noteFrame e env) (λJ s₂=>wpAny (model prog w) A (setFlight e none) (λJ s₃=>wpAny (model prog w) A (handleBy e env (h₀::hs)) Q E s₃) E s₂) E s₁) s):
  wpC (model prog w) A (exec (.Try body (h₀::hs) [] [] pos) env) Q E s:=by
 rw[arm_exec_Try]
 refine z6 ?_
 unfold tryStmt
 simp-iota only[List.isEmpty_nil,if_true,List.isEmpty_cons,Bool.false_and,Bool.false_eq_true,if_false]
 refine zA (gQ (u2 h (λf s₁ h₁=>h₁.elim) λe s₁ h₁=> ?_))
 exact zL (wpAny_bind (wpAny_mono h₁ (λJ J h₂=>wpAny_bind h₂) λJ J x=>x))
section
variable{C:Cx}{A:Around}{E:Value->Shared->Prop}{env:PySem.Env}{N:z7}{gl:List Str}
theorem Dh{n:Nat}{Φ:Orc}(H:Calls C n P.j Φ)(X:y9 C)(EX:sZ C){fd:FuncData}{body:List Stmt}(HF:Ax C fd body)(hk641:keepIn C.K (.ref 641)=true)(hg641:(C.T.QV.find? λy=>y.1==("tracker_of":Str)).map (·.2)=some (.obj 641))
  {p1 p2 p3 cp sp:Pos}{k:Nat}{outer:List PySem.Env}{s:Shared}{Z:Emb}{U:St}{Y:Env}{Q:Flow->Shared->Prop}{Ej:Value->Shared->Prop}
  (hA:tV n A)(hAo:kO n A)(hfr:A.frames=some (env::outer))(O:jP env N gl)(hef:env.frame=some env.locals)(kb:(("bare":Str),NameKind.local,3)∈N)(kg:("tracker_of":Str)∈gl)
  (R:Rel C Z U s.heap)(F:FrI C Z U s.heap env N Y)(Fo:Frs C Z U s.heap outer){b y:Loc}{fs:List (Nat×V)}{v:V}(B:M1 Y U b y fs v)
  (q:∀{s' e tm dx mA s3 Z3 s4 Z4 U4},zV C Nil Z U s Z3 U s3->zV C Nil Z3 U s3 Z4 U4 s4->s4.heap.UpToSlots s'.heap->Cg C.h0 (env::outer) e dx .none s'.heap->dx≠e->s4.heap.get? dx=none->s'.heap.Ns1 dx mA->mA "why"=some (.str yB tm)->s'.gens=s.gens->s'.os=s.os->Ej (.ref e) s'):
  wpC (Mo C) A (execs [.Expr (.Call (.Name "tracker_of" p1) [.Name "bare" p2,.Constant (.int 6) k p3] [] cp) sp] env) Q Ej s:=by
 rw[arm_execs_cons,arm_exec_Expr,eP (by rfl)]
 have hint:interactive env=false:=by unfold interactive;rw[O.kind];rfl
 refine zA (z6 ?_)
 simp-iota only[hint,Bool.false_eq_true,if_false]
 refine zA (zD ?_)
 simp-iota only[Bool.false_eq_true,if_false]
 refine zA ?_
 rw[wZ (by rfl)]
 refine zA (cQ X O kg hg641 (by decide) (K:=λv D=>v= .obj 641/\U=D) hAo R F ⟨rfl,rfl⟩ λJ J s1 Z1 vx e S1 r1=> ?_)
 refine xA e λe_0 e_1=> ?_
 subst e_0
 subst e_1
 refine u0 (by rfl) ?_
 show wpC _ _ (spliced [(false,eval (.Name "bare" p2) env),(false,eval (.Constant (.int 6) k p3) env)]) _ _ _
 refine vQ (fU O kb (by decide) (K:=λw D=>w= .c b/\U=D) hAo S1.Q8 (F.Q5 S1) (zE B.a ⟨rfl,rfl⟩) λJ J s2 Z2 vb e S2 r2=> ?_)
 refine xA e λe_0 e_1=> ?_
 subst e_0
 subst e_1
 refine vQ (b5 (K:=λw D=>w= .int 6/\U=D) hAo S2.Q8 ((F.Q5 S1).Q5 S2) ⟨rfl,rfl⟩ λJ J s3 Z3 v6 e S3 r3=> ?_)
 refine xA e λe_0 e_1=> ?_
 subst e_0
 subst e_1
 refine uK ?_
 have S:=(S1.trans S2).trans S3
 have r1':=(r1.keeps S2.ext S2.QH).keeps S3.ext S3.QH
 cases r1' with|obj e641=>
 refine xEA (looks_keep (M:=Mo C) hk641 (X.KX.keeps λb o e=>S.Q8.keep b o e)) λkk hkk L=> ?_
 refine⟨kk,hkk,λA' Q' hq=>L.here hq,vP ?_⟩
 have Fs:Frs C Z3 U s3.heap (env::outer):=(F.Q5 S).frs O hef (Fo.Q5 S)
 refine CI H X EX HF hA hfr S.Q8 Fs B.b B.f B.y (.cons (r2.keeps S3.ext S3.QH) (.cons r3 .nil)) λs' e tm dx mA s4 Z4 U4 S4 jU4 FD dne dnn hn1 hwhy hgens hos=>q S S4 jU4 FD dne dnn hn1 hwhy (hgens.trans S.gens) (hos.trans S.os)
theorem Ii{n:Nat}{Φ:Orc}(H:Calls C n P.j Φ)(X:y9 C)(EX:sZ C){fd:FuncData}{body:List Stmt}(HF:Ax C fd body)(hk641:keepIn C.K (.ref 641)=true)(hg641:(C.T.QV.find? λy=>y.1==("tracker_of":Str)).map (·.2)=some (.obj 641))
  {p1 p2 p3 cp sp p4 p5 ap p6 cp2 rp hp pos:Pos}{k k2:Nat}{outer:List PySem.Env}{s:Shared}{Z:Emb}{U:St}{Y:Env}{Q:Flow->Shared->Prop}
  (hA:tV n A)(hAo:kO n A)(hfr:A.frames=some (env::outer))(O:jP env N gl)(hef:env.frame=some env.locals)(kb:(("bare":Str),NameKind.local,3)∈N)(kg:("tracker_of":Str)∈gl)(kx:env.kindOf "Misused"=some .globalImplicit)(kf:env.kindOf "fault"=some .local)
  (R:Rel C Z U s.heap)(F:FrI C Z U s.heap env N Y)(Fo:Frs C Z U s.heap outer){b y:Loc}{fs:List (Nat×V)}{v:V}(B:M1 Y U b y fs v)
  (q:∀s',(∀b o,C.h0.get? b=some o->s'.heap.get? b=some o)->s'.gens=s.gens->s'.os=s.os->Q (.ret (.bool true)) s'):
  wpC (Mo C) A (exec (.Try [.Expr (.Call (.Name "tracker_of" p1) [.Name "bare" p2,.Constant (.int 6) k p3] [] cp) sp]
   [.ExceptHandler (some (.Name "Misused" p4)) (some "fault") [.Return (some (.Compare (.Attribute (.Name "fault" p5) "why" ap) [.Eq] [.Constant (.str yB) k2 p6] cp2)) rp] hp] [] [] pos) env) Q E s:=by
 refine gG (Dh H X EX HF hk641 hg641 hA hAo hfr O hef kb kg R F Fo B λ{s'} {e} {tm} {dx} {mA} {s3} {Z3} {s4} {Z4} {U4} S S4 jU4 FD dne dnn hn1 hwhy hgens hos=> ?_)
 obtain⟨h',g',d',t',os'⟩:=s'
 have F4:=(F.Q5 S).Q5 S4
 refine xEA F4.ns λm hm J=> ?_
 have hm':=jU4.ns hm
 refine xG hfr hef FD λh5 FD5 jU5=> ?_
 refine mX FD5 λh6 FD6 jU6=> ?_
 refine rW X EX O.in kx kf FD6 (jU6.ns (jU5.ns hm')) (rE jU6 (rE jU5 hn1)) hwhy dne (by rintro rfl;obtain⟨o,_,_,ho,_⟩:=hm;rw[dnn] at ho;cases ho) hef λh7 tk kp7=> ?_
 exact q _ kp7 hgens hos
end
inductive GH:Stmt->Prop
 |mk (p1 p2 p3 cp sp p4 p5 ap p6 cp2 rp hp pos k k2):GH (.Try [.Expr (.Call (.Name "tracker_of" p1) [.Name "bare" p2,.Constant (.int 6) k p3] [] cp) sp]
   [.ExceptHandler (some (.Name "Misused" p4)) (some "fault") [.Return (some (.Compare (.Attribute (.Name "fault" p5) "why" ap) [.Eq] [.Constant (.str yB) k2 p6] cp2)) rp] hp] [] [] pos)
structure G7(C:Cx)(fd:FuncData)(body:List Stmt):Prop where
 RD:nJ C 849 fd body
 pre:∃pre st last,body=pre++[st,last]/\GH st/\pre.mapM (cS C.T (zO 0 fd.scope.names).length ⟨zO 0 fd.scope.names,jH fd.scope.names⟩ 40)=some nG
 ps:fd.params.args.mapM (λx=>qN (zO 0 fd.scope.names) x.arg)=some []
 len:(zO 0 fd.scope.names).length=6
 bare:(("bare":Str),NameKind.local,3)∈zO 0 fd.scope.names
 QV:("tracker_of":Str)∈jH fd.scope.names
 kx:fd.scope.names.lookup ("Misused":Str)=some .globalImplicit
 kf:fd.scope.names.lookup ("fault":Str)=some .local
structure I9(C:Cx):Prop where
 exc:sZ C
 fn:∃fd body,Ax C fd body
 keep:keepIn C.K (.ref 641)=true
 name:(C.T.QV.find? λy=>y.1==("tracker_of":Str)).map (·.2)=some (.obj 641)
section
variable{C:Cx}
theorem fL{n:Nat}{env:PySem.Env}{N:z7}{r:List Stmt}{F:IS->BdF}{K:KF}{l:List Stmt}{irs:List IS}(hK:∀fl Y U,K fl Y U->fl= .next)(h:Two (λst ir=>SX C n env N (exec st env) (F ir)) l irs){A:Around}{s:Shared}{Z:Emb}{U:St}{Y:Env}{Q:Flow->Shared->Prop}{E:Value->Shared->Prop}
  (O:kO n A)(R:Rel C Z U s.heap)(Fr:FrI C Z U s.heap env N Y)(H:Ran F irs Y U K)
  (q:∀Y' U' s' Z',K .next Y' U'->zV C (Own env) Z U s Z' U' s'->FrI C Z' U' s'.heap env N Y'->wpC (Mo C) A (execs r env) Q E s'):wpC (Mo C) A (execs (l++r) env) Q E s:=pJ hK h O R Fr H.run q
theorem Gi(H:Calls C 9 P0.j (orc P0 9))(X:y9 C)(TO:I9 C){fd:FuncData}{body:List Stmt}(HF:G7 C fd body){A:Around}(hA:tV 10 A){outer:List PySem.Env}(hfr:A.frames=some outer){s:Shared}{Z:Emb}{U:St}{R:Result->Shared->Prop}
  (hrel:Rel C Z U s.heap)(e0:U=⟨0,0,λJ=>none⟩)(Fo:Frs C Z U s.heap outer)
  (q:∀s',(∀b o,C.h0.get? b=some o->s'.heap.get? b=some o)->s'.gens=s.gens->s'.os=s.os->R (.ok (.ret (.bool true))) s'):
  jK (Mo C) A (.call (.ref 849) ⟨[],[]⟩) R s:=by
 obtain⟨hraw,⟨pre,st,last,rfl,htry,hpre⟩,hps,hlen,hbare,hglob,kx,kf⟩:=HF
 cases htry with|mk p1 p2 p3 cp sp p4 p5 ap p6 cp2 rp hp pos k k2=>
 refine xEE TO.fn λfd641 body641 H641=> ?_
 refine KT (id hA) λr1 r2 r3 r4=> ?_
 refine cZ X hraw.toAt hps hA.lt hrel .nil rfl λenv s1' OE S0 FE hef hes kp0 hloc=> ?_
 rw[hlen] at FE
 have OA:=hA.okay env
 have RA:=mE OA
 have OA:=cC OA
 refine kS ?_
 subst e0
 have FE:FrI C Z ⟨0,0,λJ=>none⟩ s1'.heap env (zO 0 fd.scope.names) Er:=FE
 refine fL (λJ J J h=>(AL h).1) ((jF hpre).map λst ir hir=>cH H OE 40 hir) OA S0.Q8 FE Kh λY3 D s3 Z3 hk S3 F3=> ?_
 refine Ki (AL hk) λJ b y fs v B=> ?_
 have S:zV C Nil Z _ s Z3 D s3:=((S0.Q7 (jjY:=Own env) λJ f=>f.elim).trans S3).Q7 λy hy=> .inr (hloc y hy)
 rw[arm_execs_cons]
 refine zA (Ii H X TO.exc H641 TO.keep TO.name RA OA (Around.frames_deeper hfr) OE hef hbare hglob (by show env.scope.names.lookup _=_;rw[hes];exact kx) (by show env.scope.names.lookup _=_;rw[hes];exact kf) S3.Q8 F3 (Fo.Q5 S) B λs' kp g o=> ?_)
 exact zD (q s' kp (g.trans S.gens) (o.trans S.os))
end
end
section
open PySem PySem.W PyProof.Rows PySem.Calls
section
variable{C:Cx}{n:Nat}{env:PySem.Env}{N:z7}{gl:List Str}
theorem xF(O:jP env N gl){x:Str}{k:NameKind}{i kk:Nat}{p1 p2 p3 p4:Pos}(hx:(x,k,i)∈N)(hd:(x==("__debug__":Str))=false){a:Nat}{xs:Array Value}{vs:List V}
  (ho:C.h0.IsList a xs)(hv:∀Z h,zW C Z h vs xs.toList)(hlen:vs.length<=63)
  {A:Around}{s:Shared}{Z:Emb}{U:St}{Y:Env}{Q:Value->Shared->Prop}{E:Value->Shared->Prop}(Ok:kO n A)(R:Rel C Z U s.heap)(F:FrI C Z U s.heap env N Y)(hρ:kP Y i=some (.obj a))
  (q:vY C Z U s (.c U.fr) (U.new (.list vs)) Q):wpC (Mo C) A (eval (.Subscript (.Name x p1) (.Slice none (some (.Constant (.int 63) kk p2)) none p3) p4) env) Q E s:=by
 rw[arm_eval_Subscript]
 refine zA (fU O hx hd (K:=λw D=>w= .obj a/\U=D) Ok R F (zE hρ ⟨rfl,rfl⟩) λJ J s1 Z1 vx e S1 r1=> ?_)
 refine xA e λe_0 e_1=> ?_
 subst e_0
 subst e_1
 cases r1 with|obj e1=>
 rw[arm_eval_Slice]
 refine zA (zF (zA (zD ?_)))
 refine zA (zF ?_)
 show wpC _ _ (valueOrNone (some (eval (.Constant (.int 63) kk p2) env))) _ _ _
 refine b5 (k:=kk) (pos:=p2) (K:=λw D=>w= .int 63/\U=D) Ok S1.Q8 (F.Q5 S1) ⟨rfl,rfl⟩ λJ J s3 Z3 vz e S3 r3=> ?_
 refine xA e λe_0 e_1=> ?_
 subst e_0
 subst e_1
 refine zA (zF (zD ?_))
 refine zL (wpAny_newObj_type (T:="slice") ?_)
 have S4:zV C Nil Z3 U s3 Z3 U {s3 with heap:=s3.heap.push {cls:= .type "slice",data:= .fields #[.none,vz,.none]}}:=q4 (t:=s3.toks) _ S3.Q8
 have S:=(S1.trans S3).trans S4
 refine z6 (zL ?_)
 have ho4:(s3.heap.push {cls:= .type "slice",data:= .fields #[.none,vz,.none]}).IsList a xs:=let⟨o,h1,h2⟩:=ho;⟨o,S.Q8.keep _ _ h1,h2⟩
 refine xEA (cV (d:=xs.toList.length) (p:=63) r3 (by rfl)) λhi' ih ch=> ?_
 have hl:=(hv Z s.heap).length
 have hg:=λ(q':_)=>wpAny_getItem_list_slice (prog:=C.prog) (w:=C.w) (A:=A) (E:=E) (Q:=Q) (s:={s3 with heap:=s3.heap.push {cls:= .type "slice",data:= .fields #[.none,vz,.none]}}) ho4 (Heap.IsSliceOf.new s3.heap .none vz .none) .none ih .none (by simp) q' (by rw[sizeLine_eq];simp at hl;omega)
 refine tail_any (T:="list") (let⟨o,h1,h2,_⟩:=ho4;⟨o,h1,h2⟩) slot_list_getitem.lookup (hg ?_) rfl
 refine q _ _ _ (S.trans (kK (vs:=vs) (t:=s3.toks) (k:=0) S4.Q8 ?_)) (.c yG)
 have:=fN xs.toList (p:=0) (q:=63) (lo:=none) (hi:=hi') (.inl ⟨rfl,rfl⟩) ch
 rw[show xs.toList.length=xs.size from Array.length_toList] at this
 have e2:(slicePick xs none hi' none).toList=cut xs.toList 0 63:=by
  rw[<-this]
  unfold slicePick
  rw[sliceBounds_plain]
  simp only[sliceRange_one,pick_run]
 have e3:cut xs.toList 0 63=xs.toList:=by
  unfold cut
  rw[List.drop_zero]
  exact List.take_of_length_le (by omega)
 rw[e2,e3]
 exact hv _ _
theorem xI(O:jP env N gl){x:Str}{k:NameKind}{i kk:Nat}{p1 p2 p3 p4 px pos:Pos}(hx:(x,k,i)∈N)(hd:(x==("__debug__":Str))=false){a:Nat}{xs:Array Value}{vs:List V}
  (ho:C.h0.IsList a xs)(hv:∀Z h,zW C Z h vs xs.toList)(hlen:vs.length<=63)
  {A:Around}{s:Shared}{Z:Emb}{U:St}{Y:Env}{Q:Flow->Shared->Prop}{E:Value->Shared->Prop}(Ok:kO n A)(R:Rel C Z U s.heap)(F:FrI C Z U s.heap env N Y)(hρ:kP Y i=some (.obj a))
  (q:∀s' Z',zV C (Own env) Z U s Z' (U.new (.list vs)) s'->FrI C Z' (U.new (.list vs)) s'.heap env N (Y.set i (some (.c U.fr)))->Q .next s'):
  wpC (Mo C) A (exec (.Assign [.Name x px] (.Subscript (.Name x p1) (.Slice none (some (.Constant (.int 63) kk p2)) none p3) p4) pos) env) Q E s:=by
 rw[arm_exec_Assign]
 refine z6 ?_
 rw[show swapsWithSole [.Name x px] (.Subscript (.Name x p1) (.Slice none (some (.Constant (.int 63) kk p2)) none p3) p4) pos.line env=pure false from rfl]
 refine zA (zD ?_)
 simp only[Bool.false_eq_true,if_false]
 refine zA (xF O hx hd ho hv hlen Ok R F hρ λs1 Z1 y S1 r1=> ?_)
 rw[show swappedStores [.Name x px] (.Subscript (.Name x p1) (.Slice none (some (.Constant (.int 63) kk p2)) none p3) p4) env=pure none from rfl]
 refine zA (zD ?_)
 unfold assignStores
 dsimp only
 show wpC _ _ (assign (.Name x px) env y>>=λJ=>pure Flow.next) _ _ _
 exact zA (zL (yS (yJ O S1.Q8 (F.Q5 S1) hx r1 λs2 S2 F2=>zD (q _ _ ((w3 S1).trans S2) F2))))
end
end
section
open PySem PySem.W PyProof.Rows
noncomputable def tX(l:List (Loc×Loc))(Z:Emb):Emb:=λa=> @Option.rec Loc (λJ=>Option (Addr×Addr)) (@Bool.rec (λJ=>Option (Addr×Addr)) none (Z ⟨a.k-20,a.i⟩) (Nat.ble 20 a.k)) Z (lk a l)
variable{C:Cx}{Z:Emb}{D:St}{h:Heap}{l:List (Loc×Loc)}(N:Ren l)
include N
theorem Ren.lk0{a:Loc}(q:a.k=0\/10<=a.k):lk a l=Option.none:=by
 cases e:lk a l with
 |none=>rfl
 |some b=>
  have:=N.k _ (pU e)
  rcases q with q|q
  ·exact(this.2 q).elim
  ·exact(Nat.not_lt.mpr q this.1).elim
theorem bP{a b:Loc}(q:(a,b)∈l):tX l Z a=Z b:=by unfold tX;rw[CU N.n q]
theorem BY(b:Loc)(p:Addr×Addr)(q:Z b=some p):tX l Z (gn l b)=some p:=by
 cases e:lk b (swp l) with
 |some a=>
  have m:(a,b)∈l:=by
   refine xEA (List.mem_map.mp (pU e)) λx hx q=> ?_
   cases q;exact hx
  rw[N.gn m,bP N m];exact q
 |none=>
  have z:gn l b=⟨20+b.k,b.i⟩:=by rw[gn,e];rfl
  rw[z];unfold tX
  rw[N.lk0 (.inr (alJ (by decide) (Nat.le_add_right 20 b.k)))]
  show @Bool.rec (λJ=>Option (Addr×Addr)) none (Z ⟨20+b.k-20,b.i⟩) (Nat.ble 20 (20+b.k))=_
  rw[Nat.ble_eq_true_of_le (Nat.le_add_right 20 b.k),Nat.add_sub_cancel_left];exact q
theorem GB(R:Rel C Z D h):Rel C (tX l Z) (rnS l D) h where
 size:=R.size
 keep:=R.keep
 objs a o e:=by
  refine yW (N.Rc e) λb o' m g e_4=> ?_
  subst e_4
  refine yW (R.objs b o' g) λx y h1 h2 h3=> ?_
  exact⟨x,y,(bP N m).trans h1,o7 (BY N) h2,h3⟩
 inj a a' p p' ha ha' hp hp' ne:=by
  refine xE (Option.ne_none_iff_exists'.mp ha) λo e=> ?_
  refine xE (Option.ne_none_iff_exists'.mp ha') λo' e'=> ?_
  refine yW (N.Rc e) λb J m g J=> ?_
  refine yW (N.Rc e') λb' J m' g' J=> ?_
  refine R.inj b b' p p' (λq=>nomatch q.symm.trans g) (λq=>nomatch q.symm.trans g') ((bP N m).symm.trans hp) ((bP N m').symm.trans hp') λq=>ne ?_
  exact(N.gn m).symm.trans ((alQ (gn l) q).trans (N.gn m'))
 fresh n _:=by
  show tX l Z ⟨0,n⟩=none
  unfold tX;rw[N.lk0 (.inl rfl)];rfl
 R6 n _:=N.none (.inl rfl)
 RX _ n:=by unfold tX;rw[N.lk0 (.inr (Nat.le_refl 10))];rfl
theorem Ga{v:V}{x:Value}(r:zS C Z h v x):zS C (tX l Z) h (v.rn (gn l)) x:=eG (BY N) r
end
section
open PySem PySem.W PyProof.Rows PySem.Calls
inductive BC:Stmt->Prop
 |mk (px p1 p2 p3 p4 pos kk):BC (.Assign [.Name "script" px] (.Subscript (.Name "script" p1) (.Slice none (some (.Constant (.int 63) kk p2)) none p3) p4) pos)
inductive BS:Stmt->Prop
 |mk (p1 p2 p3):BS (.Return (some (.Call (.Name "_law_empty_books" p1) [] [] p2)) p3)
structure JA(C:Cx)(fd:FuncData)(body:List Stmt):Prop where
 RD:nJ C 854 fd body
 pre:∃st m1 m2 last,body=st::(m1++(m2++[last]))/\BC st/\BS last/\m1.mapM (cS C.T (zO 0 fd.scope.names).length ⟨zO 0 fd.scope.names,jH fd.scope.names⟩ 40)=some ((fH.drop 1).take 3)
  /\m2.mapM (cS C.T (zO 0 fd.scope.names).length ⟨zO 0 fd.scope.names,jH fd.scope.names⟩ 40)=some ((fH.drop 4).take 1)
 ps:fd.params.args.mapM (λx=>qN (zO 0 fd.scope.names) x.arg)=some [0]
 len:(zO 0 fd.scope.names).length=9
 script:∃k,(("script":Str),k,0)∈zO 0 fd.scope.names
 QV:("_law_empty_books":Str)∈jH fd.scope.names
structure H4(C:Cx):Prop where
 try_:I9 C
 last:∃fd body,G7 C fd body
 keep:keepIn C.K (.ref 849)=true
 name:(C.T.QV.find? λy=>y.1==("_law_empty_books":Str)).map (·.2)=some (.obj 849)
noncomputable abbrev U00:St:=⟨0,0,λJ=>none⟩
theorem Cw{C:Cx}{Z:Emb}{U:St}{h:Heap}(R:Rel C Z U h):Rel C (λJ=>none) U00 h:=⟨R.size,R.keep,λJ J e=>(nomatch e),λJ J J J h=>absurd rfl h,λJ J=>rfl,λJ J=>rfl,λJ J=>rfl⟩
theorem Mc{C:Cx}:Rel C (λJ=>none) U00 C.h0:=⟨Nat.le_refl _,λJ J e=>e,λJ J e=>(nomatch e),λJ J J J h=>absurd rfl h,λJ J=>rfl,λJ J=>rfl,λJ J=>rfl⟩
section
variable{C:Cx}{Z:Emb}{D:St}{h:Heap}{l:List (Loc×Loc)}{env:PySem.Env}{N:z7}{Y:Env}
theorem B9(R:Ren l){a:Addr}(o:own (tX l Z) (rnS l D) a):own Z D a:=by
 refine yW o λx p hx hp e=> ?_
 obtain⟨ob,hb⟩:=Option.ne_none_iff_exists'.mp hx
 refine yW (R.Rc hb) λb o' m g J=> ?_
 exact⟨b,p,qL g,(bP R m).symm.trans hp,e⟩
theorem g7(R:Ren l){i:Nat}{o:Option Value}(b:bX C Z h Y i o):bX C (tX l Z) h (Y.map (Option.map (V.rn (gn l)))) i o:=λv hv=>by
 rw[List.getElem?_map] at hv
 refine xEA (alD hv) λov h1 h2=> ?_
 refine xEA (alD h2) λu e_1 e_2=> ?_
 subst e_1
 subst e_2
 exact(b u h1).imp λJ q=>⟨q.1,Ga R q.2⟩
theorem FrI.ren(R:Ren l)(F:FrI C Z D h env N Y):FrI C (tX l Z) (rnS l D) h env N (Y.map (Option.map (V.rn (gn l)))) where
 above:=F.above
 ns:=F.ns.imp λJ q=>⟨q.1,λx i hx=>g7 R (q.2 x i hx)⟩
 RU:=λo=>F.RU (B9 R o)
 low:=F.low
 cells:=λx k i hx hk=>(F.cells x k i hx hk).imp λJ=>Exists.imp λJ q=>⟨q.1,q.2.1,λo=>q.2.2.1 (B9 R o),q.2.2.2.1,q.2.2.2.2.1,g7 R q.2.2.2.2.2⟩
theorem Frs.bare{U:St}{L:List PySem.Env}(F:Frs C Z U h L):Frs C (λJ=>none) U00 h L:=λenv he=>(F env he).imp id λq=>⟨q.1,q.2.1,λo=>by obtain⟨_,_,hx,_⟩:=o;exact hx rfl,q.2.2.2⟩
theorem HH{g:Loc->Loc}{q l b w r:Loc}{v6 v7:Option V}(h1:g q=⟨9,3⟩)(h2:g b=⟨1,0⟩)(h3:g w=⟨3,0⟩)(h4:g r=⟨9,1⟩):(qA q l b w r v6 v7).map (Option.map (V.rn g))=Cf none (some (.c (g l))) (v6.map (V.rn g)) (v7.map (V.rn g)) none:=by
 show [some (V.c (g q)),none,some (.c (g l)),some (.c (g b)),some (.c (g w)),some (.c (g r)),_,_,_,_,_,_,_,_,_,_,_]=_
 rw[h1,h2,h3,h4]
 rfl
end
noncomputable def Mid(s:List Int)(q:Loc):KF:=λfl Y D=>fl= .next/\∃l n0 n1 n2 n3 r0 x f w t y v6 v7,Lv D (Gu x f w t y r0 [(l,.list [.int n0,.int n1,.int n2,.int n3]),(q,.list (s.map V.int))])/\Y=qA q l (f 0) (w 0) r0 v6 v7
theorem N2{q:Loc}{s:List Int}{U:St}(L:Lv U [(q,.list (s.map V.int))])(hs:s.length<1000):Ran (ex P.j (orc P 11) 64) ((fH.drop 1).take 3) (wE q none none none none none none none none) U (Mid s q):=
 ⟨LS (n:=8) L hs λl n0 n1 n2 n3 r0 x f w t y v6 v7 D L=>⟨rfl,l,n0,n1,n2,n3,r0,x,f,w,t,y,v6,v7,L,rfl⟩⟩
theorem Pw{c:Kc}{sc:List Int}{d:Dt}{U:St}{v2 v6 v7:Option V}(T:Tn U c sc d 0)(hs:sc.length<1000):Ran (ex P.j (orc P 11) 64) ((fH.drop 4).take 1) (Cf none v2 v6 v7 none) U (λfl J J=>fl= .next):=
 ⟨PS (n:=0) T hs λJ J=>rfl⟩
section
variable{C:Cx}
theorem Gx(PO:aJ C P)(LO:H4 C){fd:FuncData}{body:List Stmt}(HF:JA C fd body){A:Around}(hA:tV 13 A)(hfr:A.frames=some []){s:Shared}(hs:s.heap=C.h0)
  {a:Nat}{xs:Array Value}{l:List Int}(ho:C.h0.IsList a xs)(hv:∀Z h,zW C Z h (l.map V.int) xs.toList)(hlen:l.length<=63){R:Result->Shared->Prop}
  (q:∀s',(∀b o,C.h0.get? b=some o->s'.heap.get? b=some o)->s'.gens=s.gens->s'.os=s.os->R (.ok (.ret (.bool true))) s'):
  jK (Mo C) A (.call (.ref 854) ⟨[.ref a],[]⟩) R s:=by
 have X:=PO.X
 have H:=Dq PO 11
 obtain⟨hraw,⟨st,m1,m2,last,rfl,hst,hla,hm1,hm2⟩,hps,hlen9,⟨ks,hks⟩,hglob⟩:=HF
 cases hst with|mk px p1 p2 p3 p4 pos kk=>
 cases hla with|mk q1 q2 q3=>
 refine xEE LO.last λfd849 body849 H849=> ?_
 refine KT (id hA) λr1 r2 r3 r4=> ?_
 have R0:Rel C (λJ=>none) U00 s.heap:=hs▸Mc
 refine cZ X hraw.toAt hps hA.lt R0 (vals:=[.obj a]) (.cons (let⟨_,h1,_⟩:=ho; .obj h1) .nil) rfl λenv s1' OE S0 FE hef hes kp0 hloc=> ?_
 rw[hlen9] at FE
 have OA:=cC (cC (hA.okay env))
 have RA:=mE OA
 refine kS ?_
 rw[arm_execs_cons]
 refine zA (xI OE hks (by decide) ho hv (by rw[alF];exact hlen) OA S0.Q8 FE (by rfl) λs2 Z2 S2 F2=> ?_)
 have hl:l.length<1000:=by omega
 have L0:Lv (U00.new (.list (l.map V.int))) [(U00.fr,.list (l.map V.int))]:=Lv.new (F:=[]) ⟨⟨λJ J=>rfl,rfl⟩,.nil,λJ h=>(List.not_mem_nil h).elim,λJ h=>(List.not_mem_nil h).elim⟩
 refine fL (K:=Mid l U00.fr) (λJ J J h=>h.1) ((jF hm1).map λst ir hir=>cH H OE 40 hir) OA S2.Q8 F2 (N2 L0 hl) λY3 D s3 Z3 hk S3 F3=> ?_
 refine aX hk λJ l1 n0 n1 n2 n3 r0 x f w t y v6 v7 L3 e_15=> ?_
 subst e_15
 refine xA (Nz (sc:=l) L3) λN T=> ?_
 have S:zV C Nil (λJ=>none) U00 s Z3 D s3:=(((S0.Q7 (jjY:=Own env) λJ f=>f.elim).trans S2).trans S3).Q7 λy hy=> .inr (hloc y hy)
 have F4:=F3.ren N
 rw[HH (N.gn (List.mem_of_getElem? (i:=40) rfl)) (N.gn (List.mem_of_getElem? (i:=33) rfl)) (N.gn (List.mem_of_getElem? (i:=5) rfl)) (N.gn (List.mem_of_getElem? (i:=4) rfl))] at F4
 refine fL (K:=λfl J J=>fl= .next) (λJ J J h=>h) ((jF hm2).map λst ir hir=>cH H OE 40 hir) OA (GB N S3.Q8) F4 (Pw T hl) λY5 D5 s5 Z5 J S5 F5=> ?_
 rw[arm_execs_cons,arm_exec_Return]
 refine zA (z6 ?_)
 show wpC _ _ (eval _ env>>=_) _ _ _
 refine zA ?_
 rw[wZ (by rfl)]
 refine zA (cQ X OE hglob LO.name (by decide) (K:=λv D=>v= .obj 849/\D5=D) OA S5.Q8 F5 ⟨rfl,rfl⟩ λJ J s6 Z6 vx e S6 r6=> ?_)
 refine xA e λe_0 e_1=> ?_
 subst e_0
 subst e_1
 refine u0 (by rfl) (uK ?_)
 cases r6 with|obj e849=>
 refine xEA (looks_keep (M:=Mo C) LO.keep (X.KX.keeps λb o e=>S6.Q8.keep b o e)) λkq hkk L=> ?_
 refine⟨kq,hkk,λA' Q' hq=>L.here hq,vP ?_⟩
 have Fs:Frs C Z6 D5 s6.heap [env]:=(F5.Q5 S6).frs OE hef (λJ h=>by cases h)
 refine Gi (Bt PO 9) X LO.try_ H849 RA (Around.frames_deeper hfr) (Cw S6.Q8) rfl Fs.bare λs' kp g o=> ?_
 exact zD (zD (q s' kp (((g.trans S6.gens).trans S5.gens).trans S.gens) (((o.trans S6.os).trans S5.os).trans S.os)))
end
end
section
open _root_.PySem _root_.PySem.W PyProof.Rows
noncomputable def KU:List Nat:=K3.map (·.1)
noncomputable def HQ(d:Data):Option FuncData:= @Data.casesOn (λJ=>Option FuncData) d none (λJ=>none) (λJ J=>none) (λJ J=>none) (λJ J J=>none) (λJ J=>none) (λJ=>none) some (λJ=>none) (λJ=>none) none
noncomputable def OW(d:Data):Option (Array Value×Nat):= @Data.casesOn (λJ=>Option (Array Value×Nat)) d none (λJ=>none) (λa n=>some (a,n)) (λJ J=>none) (λJ J J=>none) (λJ J=>none) (λJ=>none) (λJ=>none) (λJ=>none) (λJ=>none) none
noncomputable def Es(d:Data):Option (Array Value):= @Data.casesOn (λJ=>Option (Array Value)) d none (λJ=>none) (λJ J=>none) (λJ J=>none) (λJ J J=>none) (λJ J=>none) (λJ=>none) (λJ=>none) (λJ=>none) some none
theorem Ct{d:Data}{x:FuncData}(h:HQ d=some x):d= .func x:=by cases d<;>first|exact zG h|exact alS h▸rfl
theorem EQ{d:Data}{x:Array Value×Nat}(h:OW d=some x):d= .seq x.1 x.2:=by cases d<;>first|exact zG h|exact alS h▸rfl
theorem Cb{d:Data}{x:Array Value}(h:Es d=some x):d= .fields x:=by cases d<;>first|exact zG h|exact alS h▸rfl
noncomputable def JQ(b:FuncBody):Option (List Stmt):= @FuncBody.casesOn (λJ=>Option (List Stmt)) b some λJ=>none
theorem DM{b:FuncBody}{x:List Stmt}(h:JQ b=some x):b= .stmts x:=by cases b<;>first|exact zG h|exact alS h▸rfl
noncomputable def O7(v:Value):Option Addr:= @Value.casesOn (λJ=>Option Addr) v none none none (λJ=>none) (λJ J=>none) (λJ J=>none) (λJ J=>none) (λJ J=>none) (λJ=>none) (λJ=>none) some
theorem ES{v:Value}{x:Addr}(h:O7 v=some x):v= .ref x:=by cases v<;>first|exact zG h|exact alS h▸rfl
noncomputable def OQ(v:Value):Option (Str×Tok):= @Value.casesOn (λJ=>Option (Str×Tok)) v none none none (λJ=>none) (λJ J=>none) (λJ J=>none) (λx t=>some (x,t)) (λJ J=>none) (λJ=>none) (λJ=>none) (λJ=>none)
theorem GQ{v:Value}{x:Str×Tok}(h:OQ v=some x):v= .str x.1 x.2:=by cases v<;>first|exact zG h|exact alS h▸rfl
noncomputable def E0(o:Obj):Option (FuncData×List Stmt):=pur (HQ o.data) λfd=>pur (JQ fd.body) λb=>some (fd,b)
theorem BI{o:Obj}{x:FuncData×List Stmt}(h:E0 o=some x):o.data= .func x.1/\x.1.body= .stmts x.2:=
 zB h λJ a h=>zB h λJ b h=>alS h▸⟨Ct a,DM b⟩
noncomputable def Cz(K:Frag)(a:Nat):Option (FuncData×List Stmt):=(K.lookup a).bind E0
noncomputable def NR(K:Frag)(fd:FuncData):Option Str:=pur (O7 fd.code) λc=>pur (K.lookup c) λo=>pur (Es o.data) λvs=>pur vs[1]? λv=>(OQ v).map (·.1)
noncomputable def Ix(K:Frag)(fd:FuncData):Bool:=NR K fd==some fd.qualname
theorem Gz{K:Frag}{h:Heap}(X:K.In h){fd:FuncData}(e:Ix K fd=true):h.CodeRec fd.code fd.qualname:=
 zB (eq_of_beq e) λJ hc e=>zB e λJ hl e=>zB e λJ hf e=>zB e λJ hv e=>by
  refine xEA (alD e) λy hy e=> ?_
  exact e▸⟨_,_,_,_,ES hc,X _ _ hl,Cb hf,hv.trans (alQ some (GQ hy))⟩
noncomputable def La(K:Frag)(fd:FuncData):Bool:= !fd.scope.isCoroutine&&(!fd.scope.isGenerator&&(decide (fd.scope.kind= .function)&&(fd.closure.isEmpty&&(decide (fd.globals=mainGlobals)&&(decide (fd.builtins=builtinsNs)&&(Ix K fd&&
  (fd.params.posonlyargs.isEmpty&&(fd.params.kwonlyargs.isEmpty&&(fd.params.vararg.isNone&&(fd.params.kwarg.isNone&&(uL (fd.scope.names.map (·.1))&&uL (fd.params.args.map (·.arg)))))))))))))
noncomputable def rdV(T:bD)(y:Value):Option V:= @Value.casesOn (λJ=>Option V) y none none none (λJ=>none) (λj J=>some (.int j)) (λJ J=>none) (λx J=>(eE T x).map .str) (λb J=>some (.bytes (b.toList.map UInt8.toNat))) (λJ=>none) (λJ=>none) (λJ=>none)
noncomputable def I0(o:Obj):Option (List Value):=pur (OW o.data) λx=>some x.1.toList
theorem DI{o:Obj}{l:List Value}(h:I0 o=some l):∃xs n,o.data= .seq xs n/\l=xs.toList:=
 zB h λJ a h=>⟨_,_,EQ a,(alS h).symm⟩
noncomputable def K6(K:Frag)(T:bD)(t:Nat):Option (List V):=pur ((K.lookup t).bind I0) λl=>l.mapM (rdV T)
noncomputable def dfV(K:Frag)(T:bD)(d:Value):Option (List V):= @Value.casesOn (λJ=>Option (List V)) d (some []) none none (λJ=>none) (λJ J=>none) (λJ J=>none) (λJ J=>none) (λJ J=>none) (λJ=>none) (λJ=>none) (K6 K T)
theorem IM{K:Frag}{T:bD}{d:Value}{l:List V}(h:dfV K T d=some l):(d= .none/\l=[])\/∃t,d= .ref t/\K6 K T t=some l:=by
 cases d<;>first|exact zG h|exact .inl ⟨rfl,(alS h).symm⟩|exact .inr ⟨_,rfl,h⟩
section
variable{C:Cx}
theorem pA{y:Value}{v:V}(e:rdV C.T y=some v)(Z:Emb)(h:Heap):zS C Z h v y:=by
 cases y with
 |int j t=>exact alS e▸ .int _ _
 |str x t=>exact(alD e).elim λi q=>q.2▸ .str _ (dC q.1)
 |bytes b t=>exact alS e▸ .bytes _ rfl
 |_=>exact zG e
theorem FU{Z:Emb}{h:Heap}{vs:List V}{l:List Value}(r:Al2 (λy v=>rdV C.T y=some v) l vs):zW C Z h vs l:=by
 induction r with
 |nil=>exact .nil
 |cons a _ ih=>exact .cons (pA a _ _) ih
theorem Br{t:Nat}{vs:List V}(X:C.K.In C.h0)(e:K6 C.K C.T t=some vs):∃o xs n,C.K.lookup t=some o/\C.h0.get? t=some o/\o.data= .seq xs n/\∀Z h,zW C Z h vs xs.toList:=
 zB e λl hl e=>by
  refine xEA (Option.bind_eq_some_iff.mp hl) λo ho hs=> ?_
  refine vE (DI hs) λxs n hd e_3=> ?_
  subst e_3
  exact⟨o,xs,n,ho,X _ _ ho,hd,λZ h=>FU (jF e)⟩
theorem E2(X:C.K.In C.h0){a:Nat}{x:FuncData×List Stmt}(hf:Cz C.K a=some x){dv:List V}(h:La C.K x.1=true)(hd:dfV C.K C.T x.1.defaults=some dv):H6 C a x.1 x.2 dv:=by
 refine xEA (Option.bind_eq_some_iff.mp hf) λo ho he=> ?_
 have he:=BI he
 unfold La at h
 simp only[Bool.and_eq_true,Bool.not_eq_true',decide_eq_true_eq,List.isEmpty_iff,Option.isNone_iff_eq_none] at h
 refine eZ h λp1 p2 p3 p4 p5 p6 p7 p8 p9 p10 p11 p12 p13=> ?_
 refine⟨⟨o,X _ _ ho,he.1⟩,he.2,p1,p2,p3,p4,p5,p6,Gz X p7,⟨p8,p9,p10,p11⟩,p12,p13,?_⟩
 exact(IM hd).imp id λ⟨_,a,hd⟩=>e8 (Br X hd) λo xs n J h1 h2 h3=>⟨_,o,xs,n,a,h1,h2,h3⟩
noncomputable def Pa(K:Frag)(T:bD)(a:Nat):Option FI:=pur (Cz K a) λx=>if La K x.1&&keepIn K (.ref a) then pur (dfV K T x.1.defaults) λdv=>if dv.length<=x.1.params.args.length then cF T x.1.params x.1.scope dv x.2 else none else none
theorem Gh(X:C.K.In C.h0){a:Nat}{f:FI}(h:Pa C.K C.T a=some f):NB C a f:=
 zB h λx hx h=>zK h λhr h=>zB h λdv hd h=>zK h λhl h=>by
  have hr:=alA hr
  have h':=h
  unfold cF at h'
  refine zB h' λps hps h'=>zB h' λb hb h'=> ?_
  cases h'
  exact⟨⟨x.1,x.2,E2 X hx hr.1 hd,h,fC hps▸hl⟩,hr.2⟩
noncomputable def OK(K:Frag)(T:bD)(y:Value):Option V:=match y with
 | .ref t=>pur (K.lookup t) λo=>if o.cls= .type "tuple" then(K6 K T t).map .Q1 else some (.obj t)
 |y=>rdV T y
noncomputable def OG(x:Str):Option V:=if x="__name__" then none else pur (bootBuiltins x) λv=> @Value.casesOn (λJ=>Option V) v none none none (λJ=>none) (λJ J=>none) (λJ J=>none) (λJ J=>none) (λJ J=>none) (λn=>some (.ty n)) (λn=>if(withoutEnding? n "#data").isNone then some (.bi n) else none) (λJ=>none)
noncomputable def J9(K:Frag)(T:bD)(x:Str):Option V:=pur (nsIn K mainGlobals x) λo=> @Option.rec Value (λJ=>Option V) (OG x) (OK K T) o
theorem Gs(X:C.K.In C.h0)(G:C.h0.Ns mainGlobals C.mg)(B:∀x:Str,x≠"__name__"->C.mb x=bootBuiltins x)(h:C.T.QV.map (λy=>J9 C.K C.T y.1)=C.T.QV.map λy=>some y.2)(hc:(C.T.QV.all λy=> !(y.1==("__classdict__":Str)))=true):DT C:=by
 intro x v hx
 refine xEA (alD hx) λy hy e_2=> ?_
 subst e_2
 have hm:=List.mem_of_find?_eq_some hy
 have hxy:y.1=x:=eq_of_beq (List.find?_some (p:=λy:Str×V=>y.1==x) hy)
 subst hxy
 refine⟨(Bool.not_eq_true' _).mp (alN hc y hm),zB (List.map_inj_left.mp h y hm) λo ho e=> ?_⟩
 cases o with
 |none=>
  have e:OG y.1=some y.2:=e
  refine kE e λhn e=>zB e λv hb e=> ?_
  refine⟨v,.inr ⟨mg_none_of X G ho,(B _ hn).trans hb⟩,λZ h J=> ?_⟩
  cases v with
  |type n=>exact alS e▸ .ty _
  |builtin n=>exact zK e λhq e=>alS e▸ .bi _ hq
  |_=>exact zG e
 |some w=>
  have e:OK C.K C.T w=some y.2:=e
  refine⟨w,.inl (mg_of X G ho),λZ h hk=> ?_⟩
  cases w with
  |ref t=>
   refine zB e λo ho e=>j8 e (λhc e=> ?_) λJ e=>alS e▸ .obj (X _ _ ho)
   refine xEA (alD e) λvs hvs e=> ?_
   refine e8 (Br X hvs) λo' xs n h1 h2 h3 h4=> ?_
   cases h1.symm.trans ho
   exact e▸ .Q1 ⟨_,hk _ _ h2,hc,_,h3⟩ (h4 Z h)
  |int j t=>exact pA (y:= .int j t) e _ _
  |str x t=>exact pA (y:= .str x t) e _ _
  |bytes b t=>exact pA (y:= .bytes b t) e _ _
  |_=>exact zG e
noncomputable def Li(K:Frag)(a i:Nat):Bool:=makesIn K a&&(decide (findIn K (.ref a) "__init__"=some (some (.ref i)))&&(decide (typeIn K (.ref i)=some (.type "function"))&&keepIn K (.ref a)))
theorem Ho{a i:Nat}(h:Li C.K a i=true)(hm:a∈C.cls):Iu C a i:=by
 unfold Li at h
 simp only[Bool.and_eq_true,decide_eq_true_eq] at h
 exact⟨h.1,h.2.1,h.2.2.1,h.2.2.2,hm⟩
noncomputable def BL(K:Frag)(T:bD)(a:Nat)(p:FuncData->List Stmt->Bool)(f:List Stmt->List (List Stmt)):Option (List (List IS)):=
 pur (Cz K a) λx=>if La K x.1&&(decide (x.1.defaults= .none)&&p x.1 x.2) then(f x.2).mapM λl=>l.mapM (cS T (zO 0 x.1.scope.names).length ⟨zO 0 x.1.scope.names,jH x.1.scope.names⟩ 40) else none
theorem bA(X:C.K.In C.h0){a:Nat}{p:FuncData->List Stmt->Bool}{f:List Stmt->List (List Stmt)}{r:List (List IS)}(h:BL C.K C.T a p f=some r):
  ∃fd b,Cz C.K a=some (fd,b)/\nJ C a fd b/\p fd b=true/\(f b).mapM (λl=>l.mapM (cS C.T (zO 0 fd.scope.names).length ⟨zO 0 fd.scope.names,jH fd.scope.names⟩ 40))=some r:=
 zB h λx hx h=>zK h λhr h=>by
  have hr:=alA hr
  have hq:=alA hr.2
  have hd:=alH hq.1
  obtain⟨p1,p2,p3,p4,p5,p6,p7,p8,p9,p10,p11,p12,_⟩:=E2 X hx hr.1 (dv:=[]) (by rw[hd];rfl)
  exact⟨x.1,x.2,hx,⟨p1,p2,p3,p4,p5,p6,p7,p8,p9,p10,p11,p12,hd⟩,hq.2,h⟩
noncomputable def w9(fd:FuncData)(x:Str)(k:NameKind):Bool:=decide (fd.scope.names.lookup x=some k)
noncomputable def k8(fd:FuncData)(l:List Nat)(n:Nat):Bool:=decide (fd.params.args.mapM (λx=>qN (zO 0 fd.scope.names) x.arg)=some l)&&decide ((zO 0 fd.scope.names).length=n)
noncomputable def p70(fd:FuncData)(_:List Stmt):Bool:=decide (fd.params.args.map (·.arg)=[("self":Str),("why":Str)])&&(w9 fd "self" .local&&(w9 fd "why" .local&&(w9 fd "Exception" .globalImplicit&&fd.scope.names.all λx=>decide (x.2≠ .cell))))
noncomputable def Pg(fd:FuncData)(_:List Stmt):Bool:=k8 fd [0,1] 2&&w9 fd "Misused" .globalImplicit
noncomputable def O6(fd:FuncData)(_:List Stmt):Bool:=k8 fd [] 6&&(decide ((("bare":Str),NameKind.local,3)∈zO 0 fd.scope.names)&&(decide (("tracker_of":Str)∈jH fd.scope.names)&&(w9 fd "Misused" .globalImplicit&&w9 fd "fault" .local)))
noncomputable def OM(fd:FuncData)(_:List Stmt):Bool:=k8 fd [0] 9&&((zO 0 fd.scope.names).any (λy=>decide (y.1=("script":Str))&&decide (y.2.2=0))&&decide (("_law_empty_books":Str)∈jH fd.scope.names))
structure LB(K:Frag):Prop where
 attrs:(KU.all λcl=>j.all λx=>Bv K cl x)=true
 Sc:Sc.map (λe=>Pa K T e.1)=Sc.map λe=>some e.2
 cls:(K3.all λp=>Li K p.1 p.2)=true
 QV:T.QV.map (λy=>J9 K T y.1)=T.QV.map λy=>some y.2
 c70:BL K T 70 p70 (λJ=>[])=some []
 c641:BL K T 641 Pg (λb=>[b.take 2])=some [Dk.take 2]
 c849:BL K T 849 O6 (λb=>[b.take 10])=some [nG]
 c854:BL K T 854 OM (λb=>[(b.drop 1).take 3,(b.drop 4).take 1])=some [(fH.drop 1).take 3,(fH.drop 4).take 1]
 b70:∃b,(Cz K 70).map (·.2)=some b/\KW b
 b641:∃st,(Cz K 641).map (λx=>x.2.drop 2)=some [st]/\nY st
 b849:∃st last,(Cz K 849).map (λx=>x.2.drop 10)=some [st,last]/\GH st
 b854:∃st,(Cz K 854).map (λx=>x.2.take 1)=some [st]/\BC st
 e854:∃st,(Cz K 854).map (λx=>x.2.drop 5)=some [st]/\BS st
 RY:vX K
 k86:keepIn K (.ref 86)=true
 k641:keepIn K (.ref 641)=true
 k849:keepIn K (.ref 849)=true
 gE:nsIn K mainGlobals "Exception"=some none
 gM:nsIn K mainGlobals "Misused"=some (some (.ref 86))
 gL:nsIn K mainGlobals "law"=some (some (.ref 854))
theorem Pe:j.Nodup/\(j.all λx=>PyData.strOk x)=true:=by decide+kernel
theorem PA:(T.QV.all λy=> !(y.1==("__classdict__":Str)))=true:=by decide+kernel
theorem Mh:(T.QV.find? λy=>y.1==("tracker_of":Str)).map (·.2)=some (.obj 641):=by kernel_rfl
theorem Oy:(T.QV.find? λy=>y.1==("_law_empty_books":Str)).map (·.2)=some (.obj 849):=by kernel_rfl
theorem Pq:bootBuiltins ("Exception":Str)=some (.type "Exception"):=by kernel_rfl
section
variable{C:Cx}(X:C.K.In C.h0)(F:LB C.K)(hT:C.T=T)
include X F hT
theorem FH:∃fd body,Jf C fd body:=by
 refine eJ (bA X (hT▸F.c70)) λfd b hx hr hp J=> ?_
 refine xEA F.b70 λb' hb his=> ?_
 rw[hx] at hb
 cases hb
 unfold p70 w9 at hp
 simp only[Bool.and_eq_true,decide_eq_true_eq,List.all_eq_true] at hp
 exact⟨fd,b,hr,his,hp.1,hp.2.1,hp.2.2.1,hp.2.2.2.1,hp.2.2.2.2⟩
theorem CX:∃fd body,Ax C fd body:=by
 refine eJ (bA X (hT▸F.c641)) λfd b hx hr hp hc=> ?_
 refine xEA F.b641 λst hb his=> ?_
 rw[hx] at hb
 unfold Pg k8 w9 at hp
 simp only[Bool.and_eq_true,decide_eq_true_eq] at hp
 have e:=(List.take_append_drop 2 b).symm
 rw[show b.drop 2=_ from alS hb] at e
 cases jF hc with|cons hc _=>exact⟨fd,b,hr,⟨_,st,e,his,hc⟩,hp.1.1,hp.1.2,hp.2⟩
theorem C0:∃fd body,G7 C fd body:=by
 refine eJ (bA X (hT▸F.c849)) λfd b hx hr hp hc=> ?_
 refine vE F.b849 λst last hb his=> ?_
 rw[hx] at hb
 unfold O6 k8 w9 at hp
 simp only[Bool.and_eq_true,decide_eq_true_eq] at hp
 have e:=(List.take_append_drop 10 b).symm
 rw[show b.drop 10=_ from alS hb] at e
 cases jF hc with|cons hc _=>exact⟨fd,b,hr,⟨_,st,last,e,his,hc⟩,hp.1.1,hp.1.2,hp.2.1,hp.2.2.1,hp.2.2.2.1,hp.2.2.2.2⟩
theorem C4:∃fd body,JA C fd body:=by
 refine eJ (bA X (hT▸F.c854)) λfd b hx hr hp hc=> ?_
 refine xEA F.b854 λst hb his=> ?_
 refine xEA F.e854 λlast hb' his'=> ?_
 rw[hx] at hb hb'
 unfold OM k8 at hp
 simp only[Bool.and_eq_true,decide_eq_true_eq,List.any_eq_true] at hp
 obtain⟨⟨q2,q3⟩,⟨⟨x,k,i⟩,hm,rfl,rfl⟩,q5⟩:=hp
 have e:=(List.take_append_drop 1 b).symm
 have hb2:=List.take_append_drop 3 (b.drop 1)
 have hb3:=List.take_append_drop 1 (b.drop 4)
 rw[List.drop_drop] at hb2 hb3
 rw[show b.drop (4+1)=_ from alS hb'] at hb3
 rw[<-hb2,show b.drop (1+3)=_ from hb3.symm,show b.take 1=_ from alS hb] at e
 cases jF hc with|cons hc1 hc=>cases hc with|cons hc2 _=>exact⟨fd,b,hr,⟨st,_,_,last,e,his,his',hc1,hc2⟩,q2,q3,⟨k,hm⟩,q5⟩
theorem IV(G:C.h0.Ns mainGlobals C.mg)(B:∀x:Str,x≠"__name__"->C.mb x=bootBuiltins x):H4 C where
 try_:=⟨⟨FH X F hT,F.RY,mg_none_of X G F.gE,(B _ (by decide)).trans Pq,mg_of X G F.gM,F.k86⟩,CX X F hT,F.k641,hT▸Mh⟩
 last:=C0 X F hT
 keep:=F.k849
 name:=hT▸Oy
theorem Gy(hc:C.cls=KU)(g:C.h0.Ns mainGlobals C.mg)(b:C.h0.Ns builtinsNs C.mb)(nl:C.h0.NoLimit)(B:∀x:Str,x≠"__name__"->C.mb x=bootBuiltins x)(low:sysModules<C.h0.objs.size):aJ C P where
 X:={
  attrs:=λcl hcl x hx=>alN (alN F.attrs cl (hc▸hcl)) x (by rw[hT] at hx;exact hx)
  KX:=X
  g:=g
  b:=b
  nolimit:=nl
  globs:=Gs X g B (hT.symm▸F.QV) (hT.symm▸PA)
  j:=by unfold j9;rw[hT];exact⟨Pe.1,λx hx=>alN Pe.2 x hx⟩
  sysm:=low}
 fn:=λa f h=>Gh X (hT.symm▸List.map_inj_left.mp F.Sc (a,f) (eY h))
 cls:=λa i h=>by
  have m:=eY (show inL K3 a=some i from h)
  refine Ho (alN F.cls (a,i) m) ?_
  rw[hc]
  exact List.mem_map.mpr ⟨_,m,rfl⟩
 wA:=hT▸rfl
 wG:=hT▸rfl
 ne:=by decide
theorem CM(hc:C.cls=KU)(g:C.h0.Ns mainGlobals C.mg)(b:C.h0.Ns builtinsNs C.mb)(nl:C.h0.NoLimit)(B:∀x:Str,x≠"__name__"->C.mb x=bootBuiltins x){f:Addr}(hf:C.mg "law"=some (.ref f)){s:Shared}(hs:s.heap=C.h0)
  {a:Nat}{xs:Array Value}{l:List Int}(ho:C.h0.IsList a xs)(hv:∀Z h,zW C Z h (l.map V.int) xs.toList)(hlen:l.length<=63){Q E:Value->Shared->Prop}
  (q:∀s',(∀b o,C.h0.get? b=some o->s'.heap.get? b=some o)->s'.gens=s.gens->s'.os=s.os->Q (.bool true) s'):
  wpC (Mo C) callerA (PySem.call (.ref f) [.ref a]) Q E s:=by
 obtain rfl:f=854:=by cases hf.symm.trans (mg_of X g F.gL);rfl
 refine xEE (C4 X F hT) λfd body HF=> ?_
 have low:sysModules<C.h0.objs.size:=by
  refine xEA HF.RD.at_ λo ho J=> ?_
  exact Nat.lt_trans (by decide:sysModules<854) (Heap.lt_size ho)
 exact vP (Gx (Gy X F hT hc g b nl B low) (IV X F hT g B) HF ⟨rfl,rfl,by decide,by decide⟩ rfl hs ho hv hlen q)
end
end
end
section
open PySem PySem.W PyProof.Rows PySem.Calls
open PySem.Sem (wp)
theorem Dc{M:Model}{A:Around}{Γ:Ctx}{t:Sem Fin}{R:Result->Shared->Prop}{s:Shared}(hin:Γ.In A)(hcl:AA Γ)
  (h:wpC M A t (λfin s'=>∃f,fin= .done f/\R (.ok f) s') (λe s'=>R (.error e) s') s)(p:Pos):wp M Γ t (Sem.finPost M Γ R) (λe J s'=>R (.error e) s') p s:=by
 refine Sem.wp_mono M Γ t (λfin p' s' h'=> ?_) (λJ J J h'=>h') p s (h Γ p hin hcl)
 refine xEA h' λf e_1 hf=> ?_
 subst e_1
 exact hf
theorem i7:AA ⟨.builtin "claim.caller" {},none,none,[],none⟩:=⟨λJ J=>rfl,λJ h=>nomatch h⟩
theorem g8{prog:Program}{w:World}{t:Sem Fin}{s:Shared}{R:Result->Shared->Prop}(hreg:s.asleep)
  (h:wpC (model prog w) callerA t (λfin s'=>∃f,fin= .done f/\(R (.ok f) s'/\leftWithCleanup s'.gens=false)) (λe s'=>R (.error e) s'/\leftWithCleanup s'.gens=false) s):
  ∃n r s' s'',runN (denote table) prog w n s ⟨t,.builtin "claim.caller" {},default,[]⟩= .halted (outcomeOf r) s'/\
   schedN (denote table) prog w n (.single s ⟨t,.builtin "claim.caller" {},default,[]⟩)= .halted (outcomeOf r) s'/\s'.forget=s''.forget/\R r s'':=by
 refine rG (wp_halts_full (M:=model prog w) (R:=R) hreg (Dc (R:=λr s'=>R r s'/\leftWithCleanup s'.gens=false) caller_in i7 h default)) λn r s₁ s₂ hs hn hfo hR=> ?_
 exact⟨n,r,s₂,s₁,hn,hs,hfo,hR⟩
theorem Bi{c:ClaimW}{tree:List Value->Sem Fin}{w:World}{s:Shared}{free:Addr->Prop}{gens:Prop}{kept:Heap->Prop}(hz:s.asleep)(hgens:s.gens= #[])
  (hspec:∀args,c.pre args=true->WData.layableAll args=true->
   ∀ord:List DictEntry->List DictEntry,(∀l,(ord l).Perm l)->
   ∃vs s₁,layAllW c.records (classAt s.heap) w.params ord args s=some (vs,s₁)/\
    wpC (model c.prog w) callerA (tree vs) (λfin s'=>∃f,fin= .done f/\(c.Ends s args vs s₁ (.ok f) s'/\s'.os=s.os/\AllBare s'.gens/\kept s'.heap))
     (λe s'=>c.Ends s args vs s₁ (.error e) s'/\s'.os=s.os/\AllBare s'.gens/\kept s'.heap) s₁):
  c.CallFrom (λvs=>⟨tree vs,.builtin "claim.caller" {},default,[]⟩) w free gens kept s:=by
 intro args hpre hlay ord hord
 refine vE (hspec args hpre hlay ord hord) λvs s₁ hlaid hcode=>⟨vs,s₁,hlaid,?_⟩
 have hal:=layAllW_rest _ _ _ hlaid
 refine(g8 (prog:=c.prog) (w:=w) (t:=tree vs) (s:=s₁) (R:=λr s'=>c.Ends s args vs s₁ r s'/\s'.os=s.os/\kept s'.heap) (Shared.asleep_of_life hal.2.2.2 hz)
  (u2 hcode (λJ J=>Exists.imp λJ q=>⟨q.1,⟨q.2.1,q.2.2.1,q.2.2.2.2⟩,leftWithCleanup_false_of_bare q.2.2.2.1⟩) λJ J q=>⟨⟨q.1,q.2.1,q.2.2.2⟩,leftWithCleanup_false_of_bare q.2.2.1⟩)).imp λk z=> ?_
 refine bL z λr s' s'' hrun hsched hfo hcase hr=> ?_
 have f:=Shared.forget_eq hfo
 have eh:=f.1
 exact⟨_,s',hsched,(hcase.congr eh).imp (Exists.imp λJ q=>⟨alQ outcomeOf q.1,q.2.1,q.2.2.1,q.2.2.2.1,λb o y J=>q.2.2.2.2.1 b o y,q.2.2.2.2.2⟩) (Exists.imp λJ=>Exists.imp λJ=>Exists.imp λJ q=>⟨alQ outcomeOf q.1,q.2.1,q.2.2.1,q.2.2.2.1,q.2.2.2.2.1,λb o y J=>q.2.2.2.2.2 b o y⟩),
  λJ i x hx=>(nomatch ((alQ (λa:Array GenState=>a[i]?) hgens).symm.trans hx)),eh.symm▸hr.2,alQ _ ((runN_life _ _ _ hrun).trans hal.2.2.2),Shared.rest_eq (f.2.2.2.1.trans hr.1)⟩
theorem LQ{r:RowW}{run:Value->List Value->Sem Value}{tree:List Value->Sem Fin}{q:Program}{loose defs kps:List Str}{writes:Bool}{Xt:Shared->Bool}{XP:(Str->Option Value)->Heap->Prop}{α:Type}{Yf:Shared->α}{Ya:World->α}{YP:World->Heap->Prop}{N:Nat}
  (left:LeftO r.prog q loose Xt Yf Ya N)(hY:∀w s,Yf s=Ya w->YP w s.heap)(hYk:∀w h h',YP w h->(∀b o,h.get? b=some o->h'.get? b=some o)->YP w h')(hX:∀s,Xt s=true->XP (s.heap.nsMap mainGlobals) s.heap)(hXk:∀mg h h',XP mg h->(∀b o,h.get? b=some o->h'.get? b=some o)->XP mg h')
  (hRf:∀s,Xt s=true->RecFacts r.records s.heap)(hwr:(!writes||r.records.isEmpty)=true)(ok:(chainsOk q&&opensWell r.prog&&(frees r&&r.within.isEmpty))=true)(hb:r.prog.bare)(hw:r.promised)
  (ht:∀vs (w:World) (s:Shared) mg f (Q:Fin->Shared->Prop) (E:Value->Shared->Prop),s.heap.Ns mainGlobals mg->mg r.name=some f->wpC (model r.prog w) callerA (run f vs) (λv s'=>Q (.done (.ret v)) s') E s->wpC (model r.prog w) callerA (tree vs) Q E s)
  (pin:∀w s,s.heap.isNs mainGlobals=true->Ground q loose [] XP w s (s.heap.nsMap mainGlobals) (s.heap.nsMap builtinsNs) s.heap->∀n∈defs,isTheDefsW r.prog s.heap n)
  (call:∀(w:World) (s₀ s₁:Shared) (mg mb:Str->Option Value),Ground q loose r.records XP w s₀ mg mb s₀.heap->YP w s₀.heap->Ground q loose r.records XP w s₀ mg mb s₁.heap->YP w s₁.heap->∀(args:List WData) (vs:List Value) (as:List Addr),
   r.claim.pre args=true->WData.layableAll args=true->Laid r.records w s₀ s₁ args vs as->sysModules<s₀.heap.objs.size->∃f,mg r.name=some f/\
    wpC (model r.prog w) callerA (run f vs) (λv s'=>GoodWG r.claim (classAt s₀.heap) (ExcName.means s₀.heap) args s₁ (.ok (.ret v)) s')
     (λe s'=>GoodWG r.claim (classAt s₀.heap) (ExcName.means s₀.heap) args s₁ (.error e) s') s₁):r.claim.HoldsOpenBy (λvs=>⟨tree vs,.builtin "claim.caller" {},default,[]⟩) defs kps writes:=by
 refine xA (alA ok) λok k5=> ?_
 refine xA (alA ok) λhch o1=> ?_
 refine xA (alA k5) λk5 k6=> ?_
 refine Od (frees_parts k5) λhsame hu ha hap hm=> ?_
 refine⟨⟨hb,o1,by show r.makers.map _=[];rw[hm];rfl⟩,hw.witness,λw=>⟨(left.behind hX hch w).1,λs' hs'=> ?_⟩⟩
 refine tL ((left.behind (XP:=λmg h=>XP mg h/\RecFacts r.records h) (λs hs=>⟨hX s hs,hRf s hs⟩) hch w).2 s' hs') λs₀ hf hg0 s hT hz hgens hg G00 y=> ?_
 have G0:Ground q loose [] XP w s (s.heap.nsMap mainGlobals) (s.heap.nsMap builtinsNs) s.heap:=⟨G00.T,G00.B,G00.D,G00.TE,G00.TD,G00.W,G00.X.1,G00.cls,G00.has,G00.apart,G00.once,G00.K⟩
 have RF:=G00.X.2
 have hT':=hT
 refine⟨s₀,hf,hg0,s,hT,pin w s hg G0,RF.1,RF.2.1,?_⟩
 have hgens:s.gens= #[]:=Array.eq_empty_of_size_eq_zero (beq_iff_eq.mp hgens)
 have G:Ground q loose r.records XP w s _ _ s.heap:=RF.ground G0
 refine Bi (c:=r.claim) hz hgens λargs hpre hlay ord hord=> ?_
 obtain⟨⟨vs,s₁⟩,hlaid⟩:=Option.isSome_iff_exists.mp (layAllW_isSome (P:=w.params) (ord:=ord) G.has args r.args s (pre_splitW hpre).1)
 have keeps:=layAllW_keeps _ _ _ hlaid
 have hal:=layAllW_rest _ _ _ hlaid
 refine eO (reads_layAllW hord _ _ _ hlaid hlay s₁.heap (λJ J e=>e)) λas hrd hin Q9=> ?_
 have L:Laid r.records w s s₁ args vs as:=⟨⟨ord,hord,hlaid⟩,hrd,hin,Q9,keeps,hal.1.trans hgens,hal.2.2.1⟩
 have G₁:=G.keeps hXk keeps
 refine xEA (call w s s₁ _ _ G (hY w s y) G₁ (hYk _ _ _ (hY w s y) keeps) args vs as hpre hlay L G.low) λf hf h=> ?_
 have hi:=ident_freeW hu ha hap
 have hwi:r.claim.within=[]:=List.isEmpty_iff.mp k6
 exact⟨vs,s₁,hlaid,ht vs w s₁ _ f _ _ G₁.T.g hf (u2 h (λv s' g=>⟨_,rfl,have z:=g.laid (c:=r.claim) hsame hwi hi L;⟨z.1,z.2.1,z.2.2,λq=>⟨namesKept_of hT' hg kps keeps g.2.1.old,noTable hwr q⟩⟩⟩) λe s' g=>have z:=g.laid (c:=r.claim) hsame hwi hi L;⟨z.1,z.2.1,z.2.2,λq=>⟨namesKept_of hT' hg kps keeps g.2.1.old,noTable hwr q⟩⟩)⟩
abbrev Mv(q:Program)(loose:List Str)(XP:(Str->Option Value)->Heap->Prop)(YP:World->Heap->Prop)(r:RowW)(d:DefRec)(kwd:List (Str×Expr))(run:Value->List Value->Sem Value):Prop:=
 ∀(w:World) (s₀ s₁:Shared) (mg mb:Str->Option Value),Ground q loose r.records XP w s₀ mg mb s₀.heap->YP w s₀.heap->Ground q loose r.records XP w s₀ mg mb s₁.heap->YP w s₁.heap->∀(a:Addr) (o:Obj) (pm cd doc dV kV:Value),s₁.heap.get? a=some o->
  o.data= .func {docDef d.name d.params d.body d.scope pm cd doc with defaults:=dV,kwdefaults:=kV}->s₁.heap.CodeRec cd d.name->Dflts mg s₁.heap d.params kwd dV kV->mg d.name=some (.ref a)->s₁.gens= #[]->
  ∀(args:List WData) (vals:List Value) (as:List Addr),r.claim.pre args=true->WData.layableAll args=true->ReadsAllW r.records (classAt s₀.heap) s₁.heap vals args as->WellAll w.params s₁.heap vals args->(∀a∈as,(a==sysModules)=false)->Laid r.records w s₀ s₁ args vals as->sysModules<s₀.heap.objs.size->
   wpC (model r.prog w) callerA (run (.ref a) vals) (λv s'=>GoodWG r.claim (classAt s₀.heap) (ExcName.means s₀.heap) args s₁ (.ok (.ret v)) s')
    (λe s'=>GoodWG r.claim (classAt s₀.heap) (ExcName.means s₀.heap) args s₁ (.error e) s') s₁
theorem PySem.W.holds_open{r:OpenRow}{q:Program}{loose:List Str}{Xt:Shared->Bool}{XP:(Str->Option Value)->Heap->Prop}{α:Type}{Yf:Shared->α}{Ya:World->α}{YP:World->Heap->Prop}{d:DefRec}{kwd:List (Str×Expr)}{N:Nat}
  (left:LeftO r.prog q loose Xt Yf Ya N)(hY:∀w s,Yf s=Ya w->YP w s.heap)(hYk:∀w h h',YP w h->(∀b o,h.get? b=some o->h'.get? b=some o)->YP w h')
  (hX:∀s,Xt s=true->XP (s.heap.nsMap mainGlobals) s.heap)(hXk:∀mg h h',XP mg h->(∀b o,h.get? b=some o->h'.get? b=some o)->XP mg h')
  (hdef:defOf q r.name=some (d,kwd))(hp:r.prog.theDef r.name=some (d.params,d.body,d.scope))(hk:kwWritten? d.params.kwonlyargs d.params.kw_defaults=some kwd)(hRf:∀s,Xt s=true->RecFacts r.records s.heap)(hwr:(!r.writes||r.records.isEmpty)=true)
  (k1:r.wellSaid=true)(ok:(chainsOk q&&opensWell r.prog&&(frees r.toRowW&&r.within.isEmpty))=true)(hb:r.prog.bare)(hw:r.toRowW.promised)
  (call:Mv q loose XP YP r.toRowW d kwd λf vs=>PySem.call f vs):r.Holds:=by
 refine⟨k1,hw,LQ (r:=r.toRowW) (run:=λf vs=>PySem.call f vs) (tree:=λvs=>do match<-nsGet mainNs r.name with
   |some f=>do ret (<-PySem.call f vs)
   |none=>unsupported "claim.caller:no-such-global") left hY hYk hX hXk hRf hwr ok hb hw
  (λvs w s mg f Q E hg hf h=>zM (wpAny_nsGet hg (by rw[hf];exact zA (u2 h (λJ J x=>zD x) λJ J x=>x))))
  (λw s hg G n hn=> ?_) λw s₀ s₁ mg mb G₀ jY₀ G jjY args vs as hpre hlay L low=> ?_⟩
 ·obtain rfl:n=r.name:=by split at hn<;>simp_all
  exact pinned_of_view hg G hdef hp hk
 ·refine lE (G.fn hdef) λa o pm cd doc dV kV h1 h2 h3 h4 h5=> ?_
  exact⟨.ref a,h1,call w s₀ s₁ mg mb G₀ jY₀ G jjY a o pm cd doc dV kV h2 h3 h4 h5 (defOf_name hdef▸h1) L.gens args vs as hpre hlay L.reads L.well (L.low low) L low⟩
end
end Mine.Internal
section
open PySem PySem.W PyProof.Rows
namespace Mine.Internal
section
theorem Ar{C:Cx}{vs:List Value}{ns:List Int}(I:IntsAre vs ns)(Z:Emb)(h:Heap):zW C Z h (ns.map V.int) vs:=by
 induction I with
 |nil=>exact .nil
 |cons n t _ ih=>exact .cons (.int n t) ih
namespace all_holds
def tw5565959768561193678:=Nat
def tw13819569449826666040:=Nat
def tw14313396667174046407:=Nat
def tw17179649103114788282:=Nat
def tw16530816732616000818:=Nat
def tw4448231430529820490:=Nat
def tw11317525027538134994:=Nat
def tw10390298304618854379:=Nat
def tw2508380897263223666:=Nat
def tw1736103392213490231:=Nat
def tw2117627490973271566:=Nat
def tw7955173373976983009:=Nat
def tw14455895186473508493:=Nat
def tw12802688108733935713:=Nat
def tw4286536607193930929:=Nat
def tw16831226325393184065:=Nat
def tw11693431328922952239:=Nat
def tw13598810697218899639:=Nat
def tw1019484585152144929:=Nat
def tw17399825870094600687:=Nat
def tw13415694563929907845:=Nat
def tw16331532212697728551:=Nat
def tw9078288587254756059:=Nat
def tw12875828053005208270:=Nat
def tw12032878401045112521:=Nat
def tw7844060901719609502:=Nat
def tw12508438556166889616:=Nat
def tw12637956660823521066:=Nat
def tw2799773741249580618:=Nat
def tw2287271859422853023:=Nat
def tw6598164317663388268:=Nat
def tw9619243963167974764:=Nat
def tw2556307093642774789:=Nat
def tw807392469560542330:=Nat
def tw3666469109035882945:=Nat
def tw13886713788143012797:=Nat
def tw11963844763262096566:=Nat
def tw6026871309450808784:=Nat
def tw5878113326382728505:=Nat
def tw16516131832067063249:=Nat
def tw11546741288506488286:=Nat
def tw11976531356133433521:=Nat
def tw3797716220068213247:=Nat
def tw6019156652652481790:=Nat
def tw12549750643874965909:=Nat
def tw17864673443496623419:=Nat
def tw5732360131273144329:=Nat
def tw12551484803557408009:=Nat
def tw7583708549898217696:=Nat
def tw2025633898718979463:=Nat
def tw5799236330615247352:=Nat
def tw16490610995711921981:=Nat
def tw2301901717978724495:=Nat
def tw1423973705532786177:=Nat
def tw14547434079542919226:=Nat
def tw17523945708047573377:=Nat
def tw18437215320011025759:=Nat
def tw568841616345752334:=Nat
def tw2470343022132730849:=Nat
def tw5038674338918128437:=Nat
def tw3901404213289828029:=Nat
def tw6733366544295872575:=Nat
def tw598630398502769310:=Nat
def tw16885628467653121683:=Nat
def tw1368156371127788971:=Nat
def tw11671573191051241438:=Nat
def tw17396633878387508605:=Nat
def tw15435252009768915568:=Nat
def tw6569717113879820196:=Nat
def tw5999459592731802656:=Nat
def tw1014120509086863803:=Nat
def tw9475794310374816666:=Nat
def tw13156044012512105579:=Nat
def tw1081597076391987963:=Nat
def tw14124902660426417354:=Nat
def tw3688715817470364982:=Nat
def tw17016061263928686929:=Nat
def tw3367830054779014777:=Nat
def tw15504962450186740838:=Nat
def tw6397623574685993575:=Nat
def tw7422592387145855161:=Nat
def tw16792207762415937140:=Nat
def tw10266944377038251818:=Nat
def tw9194010574359068557:=Nat
def tw13193718134112928825:=Nat
def tw14608672701483526370:=Nat
def tw8049381114037667602:=Nat
def tw1314672979955802:=Nat
def tw18333623086513500211:=Nat
def tw4950116592063024779:=Nat
def tw15040726043257432746:=Nat
def tw13789343433409969164:=Nat
def tw8281393519536030165:=Nat
def tw11150592350109778861:=Nat
def tw6196634904913501445:=Nat
def tw3654351953157375300:=Nat
def tw16106625951084012628:=Nat
def tw13032806447732989803:=Nat
def tw14445524044204569677:=Nat
def tw11790811646555553705:=Nat
def tw472398749811053017:=Nat
def tw3885672060095194743:=Nat
def tw162198310205594194:=Nat
def tw4904821363647890086:=Nat
def tw2024980753599936328:=Nat
def tw18338130806695870209:=Nat
def tw8402904068841080756:=Nat
def tw10223523595254495492:=Nat
def tw16002249568453316731:=Nat
def tw1230911260148768837:=Nat
def tw1607401278998913369:=Nat
def tw5030793664416000068:=Nat
def tw15538646985360749216:=Nat
def tw3407877995288342816:=Nat
def tw11912064740729707724:=Nat
def tw884959082489518961:=Nat
def tw13072064091128606122:=Nat
def tw12876009115542528757:=Nat
def tw307321116601725178:=Nat
def tw10966120877934305382:=Nat
def tw17348948556356973510:=Nat
def tw4811074428958219923:=Nat
def tw2763653516629176497:=Nat
def tw15878240051600003858:=Nat
def tw6994899588909191017:=Nat
def tw9397239831674987837:=Nat
def tw261554628401362460:=Nat
def tw13240674694705926902:=Nat
def tw12684928836692844075:=Nat
def tw1176551187770504228:=Nat
def tw962111648678280373:=Nat
def tw5244858800377208660:=Nat
def tw15505504528966220993:=Nat
def tw1356102104510755264:=Nat
def tw16003870279401431880:=Nat
def tw1506506066820498873:=Nat
def tw1427537610411885927:=Nat
def tw2523468544360719786:=Nat
def tw13569540293121704270:=Nat
def tw4745343474111014268:=Nat
def tw4387973911660405165:=Nat
def tw7472696626283224601:=Nat
def tw1141358081211098714:=Nat
def tw6014824362342050674:=Nat
def tw7215546578228947639:=Nat
def tw11091134407441213270:=Nat
def tw9379453436627191774:=Nat
def tw11716921840561372332:=Nat
def tw840292703693108127:=Nat
def tw17004634146694686231:=Nat
def tw3541586528853816324:=Nat
def tw12074773462160305197:=Nat
def tw8286910232225063732:=Nat
def tw10324104865826708130:=Nat
def tw17386948148070360774:=Nat
def tw16674133496527151997:=Nat
def tw479570078300142193:=Nat
def tw2923511131676214097:=Nat
def tw11895361633722683644:=Nat
def tw602544203873236621:=Nat
def tw14140406257041921507:=Nat
def tw6427406111410398197:=Nat
def tw8863258709305762550:=Nat
def tw7496654613978478810:=Nat
def tw6687546219831426475:=Nat
def tw2598343893830106968:=Nat
def tw18054715586889246831:=Nat
def tw16584167287152275791:=Nat
def tw18022556641009994618:=Nat
def tw16004323461281028814:=Nat
def tw10905244608391453245:=Nat
def tw3077386744480035488:=Nat
def tw6354687336289687489:=Nat
def tw5338125557848818271:=Nat
def tw1312833882349202771:=Nat
def tw7659923188758819977:=Nat
def tw13638139938720849964:=Nat
def tw6286665865279374249:=Nat
def tw10230463656744992073:=Nat
def tw11441153846610119602:=Nat
def tw1716971510706234932:=Nat
def tw8022362734406958980:=Nat
def tw11396757268703961793:=Nat
def tw14353929265132075548:=Nat
def tw13627501176932248915:=Nat
def tw12663477138704022777:=Nat
def tw14050924026421051891:=Nat
def tw9012836767205069094:=Nat
def tw16975345028163346678:=Nat
def tw891122297747314870:=Nat
def tw14956542009120295317:=Nat
def tw7515691320249552847:=Nat
def tw16673407331575867001:=Nat
def tw8663929438195269754:=Nat
def tw15738578496603327641:=Nat
def tw16849635398326576039:=Nat
def tw16116935760159859072:=Nat
def tw13140580919611991029:=Nat
def tw15439350854515720898:=Nat
def tw13232067185769177389:=Nat
def tw15984002401539736395:=Nat
def tw3893318055433356109:=Nat
def tw3578113605715708592:=Nat
def tw17652033050040001276:=Nat
def tw5643347447950017273:=Nat
def tw11601608728291449105:=Nat
def tw4366400328000363483:=Nat
def tw15625955178674401703:=Nat
def tw813811117799906448:=Nat
def tw12964018453165749886:=Nat
def tw16999804318305262284:=Nat
def tw16857310137153957759:=Nat
def tw2914050560947927771:=Nat
def tw9990437467273039000:=Nat
def tw12704754582754833080:=Nat
def tw4594026884789269698:=Nat
def tw8187686425860624893:=Nat
def tw322713350346866021:=Nat
def tw3412269055290968076:=Nat
def tw17417978104743096120:=Nat
def tw7497686238119649039:=Nat
def tw16540863272807655741:=Nat
def tw2874408380971524296:=Nat
def tw18386249189767745245:=Nat
def tw17464892765417273670:=Nat
def tw11263118217152326179:=Nat
def tw3687030317092898197:=Nat
def tw7088705225601871472:=Nat
def tw10273987340868392487:=Nat
def tw13499636677099416374:=Nat
def tw15998001808151298108:=Nat
def tw8016644109537924632:=Nat
def tw3094002457625568044:=Nat
def tw1134369797899546815:=Nat
def tw1614262928581399748:=Nat
def tw3059175024310429015:=Nat
def tw11683305586978512770:=Nat
def tw6207601070439871701:=Nat
def tw10054326472233254246:=Nat
def tw7972550513761021914:=Nat
def tw9176475622080307299:=Nat
def tw7370630365615529440:=Nat
def tw7815865370487005786:=Nat
def tw5582937864917448921:=Nat
def tw6786154241270103792:=Nat
def tw6147715468515297422:=Nat
def tw6943315466216323827:=Nat
def tw2531279941980754061:=Nat
def tw10844493935037599589:=Nat
def tw1841610458366742744:=Nat
def tw16590267979657751403:=Nat
def tw16977837090937422495:=Nat
def tw4183599907576760745:=Nat
def tw12639126799824314066:=Nat
def tw4417371038612173891:=Nat
def tw4368914910711721544:=Nat
def tw10926792823715066289:=Nat
def tw8420406802450827308:=Nat
def tw686395285570200768:=Nat
def tw1381660436016258293:=Nat
def tw13417111421371164548:=Nat
def tw14187162925955201490:=Nat
def tw15435073113331084330:=Nat
def tw9775245996273851774:=Nat
def tw4063413006950800404:=Nat
def tw15743988902478419847:=Nat
def tw4672499856734571771:=Nat
def tw14903420280737903130:=Nat
def tw10378088548705743322:=Nat
def tw14779885735451865864:=Nat
def tw17683296252744720518:=Nat
def tw7884036077829280389:=Nat
def tw1120233604440866781:=Nat
def tw16748755746411561161:=Nat
def tw6973071044202431747:=Nat
def tw18321932886939937592:=Nat
def tw16854294667737198475:=Nat
def tw17159887297730525748:=Nat
def tw2656701045963446329:=Nat
def tw15019819597021414067:=Nat
def tw13767567537570040047:=Nat
def tw1405553091835033795:=Nat
def tw3957748165333642946:=Nat
def tw7260101467428357990:=Nat
def tw5519662217001267553:=Nat
def tw13261104153864897751:=Nat
def tw6972519049205405618:=Nat
def tw10738153215971738645:=Nat
def tw5221784621313037306:=Nat
def tw16339699139318690811:=Nat
def tw11388307989611035623:=Nat
def tw8147865852009485324:=Nat
def tw16880541357236879724:=Nat
def tw3545061521643500798:=Nat
def tw1154679635473455242:=Nat
def tw7563802755889458859:=Nat
def tw13218354462515604620:=Nat
def tw16432696431210779166:=Nat
def tw18232265900463563175:=Nat
def tw1136004362851716296:=Nat
def tw1757285385769971324:=Nat
def tw10818382321242804208:=Nat
def tw13962086743568087068:=Nat
def tw3298755769057867313:=Nat
def tw16002530960916679664:=Nat
def tw7625705302610092799:=Nat
def tw4332874576012411320:=Nat
def tw12776872474502295470:=Nat
def tw9682869796308525710:=Nat
def tw2606834833009290012:=Nat
def tw12113230257578857871:=Nat
def tw126394799844089970:=Nat
def tw13033989122906683059:=Nat
def tw16563854309668153902:=Nat
def tw2670997028761809228:=Nat
def tw2491086582107852834:=Nat
def tw14229192903585656663:=Nat
def tw12372092471008398076:=Nat
def tw8554570985596112595:=Nat
def tw11842029816957747753:=Nat
def tw2872063754235454970:=Nat
def tw14311434915371275283:=Nat
def tw15473329554980701218:=Nat
def tw8205263910143787180:=Nat
def tw9033281436709094117:=Nat
def tw4412290296591495176:=Nat
def tw5136838784758479271:=Nat
def tw7067550520255854691:=Nat
def tw5612473256931872624:=Nat
def tw9599374213581182123:=Nat
def tw5191272513243760666:=Nat
def tw15376511500455946654:=Nat
def tw7213170840750304189:=Nat
def tw4457780089867752171:=Nat
def tw3530812704842118955:=Nat
def tw9031846891965573030:=Nat
def tw14016976824031633491:=Nat
def tw13223648361190004792:=Nat
def tw2409965020989036218:=Nat
def tw16720500393029159884:=Nat
def tw15343959770233979426:=Nat
def tw12180992347560494081:=Nat
def tw799069398080813666:=Nat
def tw16408372849303466804:=Nat
def tw12880404220956636504:=Nat
def tw13522891664249300348:=Nat
def tw3345447631830004528:=Nat
def tw5581913136164814219:=Nat
def tw5122854813187709144:=Nat
def tw13046692384729922140:=Nat
def tw16969416495792731665:=Nat
def tw15104605174324035096:=Nat
def tw6355120080637512889:=Nat
def tw5726503622085874673:=Nat
def tw497339730695894026:=Nat
def tw6048121812319564628:=Nat
def tw11685762692989719391:=Nat
def tw13766762549007138003:=Nat
def tw17863184624920929868:=Nat
def tw4047105598774744007:=Nat
def tw2268575945695037266:=Nat
def tw4703812491981864009:=Nat
def tw4880088513989292810:=Nat
def tw15548178234517895055:=Nat
def tw6858844460122645219:=Nat
def tw16088116697609476015:=Nat
def tw4700988605985273007:=Nat
def tw17545108113232166717:=Nat
def tw9530569878789057011:=Nat
def tw3171078230975501368:=Nat
def tw6244229792522989627:=Nat
def tw1183745504730842918:=Nat
def tw935700073839844876:=Nat
def tw7922064076587565075:=Nat
def tw1387372800349795287:=Nat
def tw5900062852411666211:=Nat
def tw7369250895436783513:=Nat
def tw8041413507033446635:=Nat
def tw16063638757699986251:=Nat
def tw4029078753517420128:=Nat
def tw1168279365894849303:=Nat
def tw853361536814775551:=Nat
def tw876247278343455646:=Nat
def tw3109141310794620496:=Nat
def tw2176985235654901153:=Nat
def tw17747882196237265170:=Nat
def tw9060405758039948734:=Nat
def tw5658317328674221270:=Nat
def tw10589010855981578096:=Nat
def tw29477046365639660:=Nat
def tw8664030476508213227:=Nat
def tw8278762839465030261:=Nat
def tw4065982860969108198:=Nat
def tw9554420921303963455:=Nat
def tw13046896917620387000:=Nat
def tw8461231623561109932:=Nat
def tw2504001440281965115:=Nat
def tw9082214309603384650:=Nat
def tw3579527348901540913:=Nat
def tw1617463003546951018:=Nat
def tw13752291181344540795:=Nat
def tw10988598307536941632:=Nat
def tw13924156496964313214:=Nat
def tw13756230866078849933:=Nat
def tw2401798764592551359:=Nat
def tw15534006471451701711:=Nat
def tw5118799474863700646:=Nat
def tw7946182760783974008:=Nat
def tw13502879662252758398:=Nat
def tw14276432090042973523:=Nat
def tw9538956635877239761:=Nat
def tw2323343007792479496:=Nat
def tw4346793145874000050:=Nat
def tw14452266544976383732:=Nat
def tw847778618303263641:=Nat
def tw13741537289144287594:=Nat
def tw8692841526027754996:=Nat
def tw9445269309256913502:=Nat
def tw17919045588555875505:=Nat
def tw11416592408084284447:=Nat
def tw8109676260437418831:=Nat
def tw17492491543006717298:=Nat
def tw3712954789474861050:=Nat
def tw2346792512428515234:=Nat
def tw16438165348040251296:=Nat
def tw12163602360023894334:=Nat
def tw12825520305525159984:=Nat
def tw7538836964086024388:=Nat
def tw2180771127150581670:=Nat
def tw17183408456416154147:=Nat
def tw9047353974843884672:=Nat
def tw9744039766512656928:=Nat
def tw15494468398097370913:=Nat
def tw5042440058574045730:=Nat
def tw14964932450361428804:=Nat
def tw10125162548753692705:=Nat
def tw10433801053385266501:=Nat
def tw4701428837620671360:=Nat
def tw15761702585190030816:=Nat
def tw128401961014938759:=Nat
def tw7709405764500648769:=Nat
def tw11265226797220469226:=Nat
def tw13622829143200806187:=Nat
def tw5809499216208086319:=Nat
def tw11775837231802542385:=Nat
def tw9011905133161455810:=Nat
def tw10553381603473529912:=Nat
def tw17375078994120188081:=Nat
def tw9724114576291898902:=Nat
def tw10987221269457889601:=Nat
def tw8986900579801474440:=Nat
def tw9052107501953357284:=Nat
def tw12435654868972553493:=Nat
def tw8350597016625012811:=Nat
def tw7198336183210601245:=Nat
def tw1435309072685432196:=Nat
def tw3881037613874729233:=Nat
def tw4136128349098024552:=Nat
def tw5839872495027120883:=Nat
def tw17556811779944002454:=Nat
def tw6487906713905480749:=Nat
def tw10026952375582237941:=Nat
def tw15268970475106582762:=Nat
def tw10566765885476317911:=Nat
def tw13046265325391380075:=Nat
def tw5517784963690310195:=Nat
def tw16262957994707203105:=Nat
def tw15385286301111269918:=Nat
def tw16569309319992625225:=Nat
def tw4425984648836683828:=Nat
def tw5935589734718294617:=Nat
def tw5709471972707230087:=Nat
def tw4905421044684448936:=Nat
def tw1619783268915243844:=Nat
def tw4478602011695690017:=Nat
def tw8421688689885398054:=Nat
def tw10219085079585047368:=Nat
def tw15106285253592047083:=Nat
def tw15378826180960832872:=Nat
def tw16688887576488843693:=Nat
def tw16402701880918759461:=Nat
def tw3980172942774267049:=Nat
def tw514303479366744512:=Nat
def tw13177011047101685968:=Nat
def tw14956309055559592865:=Nat
def tw4399950895158891292:=Nat
def tw11063163574421436645:=Nat
def tw10560358513361999218:=Nat
def tw13371487055825259598:=Nat
def tw17577602315436846775:=Nat
def tw16826887272908813796:=Nat
def tw141247206238744413:=Nat
def tw7302860145399329512:=Nat
def tw7736435295030926217:=Nat
def tw18031587180625605367:=Nat
def tw13618811527650438408:=Nat
def tw13482579922419888457:=Nat
def tw10340408134258708870:=Nat
def tw9003846539761364074:=Nat
def tw7211956631790170889:=Nat
def tw17167188602545035225:=Nat
def tw1342462356474734447:=Nat
def tw363080216240731855:=Nat
def tw8180486789154863692:=Nat
def tw16643782482839044237:=Nat
def tw13471590371495798952:=Nat
def tw6187961216057054049:=Nat
def tw12720698514225278576:=Nat
def tw2366753582299492818:=Nat
def tw13151576495627431838:=Nat
def tw2931418169453298715:=Nat
def tw17296703058080664324:=Nat
def tw14718430357690910758:=Nat
def tw2061491358665033778:=Nat
def tw13177780325000925456:=Nat
def tw4758453250678298843:=Nat
def tw12888454153282026159:=Nat
def tw9585617743410315949:=Nat
def tw5676138379499697619:=Nat
def tw3745105680689983251:=Nat
def tw12331128625167412:=Nat
def tw3637374759856970987:=Nat
def tw12172721121946596145:=Nat
def tw8063406436991934671:=Nat
def tw7914280189931846491:=Nat
def tw16413509523625667417:=Nat
def tw2184127539135401658:=Nat
def tw16348194653257099565:=Nat
def tw11194394983712486715:=Nat
def tw17083780802964572250:=Nat
def tw3668487097171271829:=Nat
def tw16264797244783658298:=Nat
def tw234782712947324822:=Nat
def tw5186315041255710503:=Nat
def tw3256810307987496688:=Nat
def tw3615063597345506340:=Nat
def tw6554880166019229699:=Nat
def tw17290896550435240338:=Nat
def tw3599313533456935517:=Nat
def tw2930434936338789383:=Nat
def tw5475431057929800651:=Nat
def tw6334273739205333005:=Nat
def tw2365329603006015104:=Nat
def tw5014292080111941811:=Nat
def tw7995783613987829332:=Nat
def tw8100567582692458844:=Nat
def tw2386165516187200717:=Nat
def tw7796494018438689929:=Nat
def tw13993354276433526664:=Nat
def tw2660069187034180437:=Nat
end all_holds
set_option Elab.async true in
set_option tactic.hygienic true in
theorem all_holds:PySem.Challenge.rw_pq1118_01.Holds:=by
 w_on
 o_law
 k_head
 case hw=>w_witness2
 intro w s₀ s₁ mg mb G0 jY0 G jjY fa o pm cd doc dV kV ho hdd hcd hD hmg hgens args vals as hpre hlay hrd hwl hlo L low
 have KX:=kIn_of jjY
 wrow_args hpre hlay hrd hwl hlo
 have hm:mg (Str.ofString "law")=some (.ref fa):=hmg
 clear hdd ho hD hcd hmg G0 jY0
 rename_i ns hs hlay0 hL1 hr1 hl2 as1 as2 la vs as3 hIL ra w1 r0 hI hr hlen htr
 refine CM (C:=⟨PySem.Challenge.rw_pq1118_01.row.prog,w,s₁.heap,_root_.Mine.Internal.all_holds.heap_1_39 w.params,mg,mb,T,KU⟩) KX ?_ rfl rfl G.T.g G.T.b G.T.nolimit G.T.builtins hm rfl hIL (λZ h=>Ar hI Z h) (by omega) λs' kp hg hos=> ?_
 ·exact⟨by kernel_rfl,by kernel_rfl,by kernel_rfl,by kernel_rfl,by kernel_rfl,by kernel_rfl,by kernel_rfl,by kernel_rfl,
   ⟨_,rfl,.mk _ _ _ _ _ _ _ _ _ _ _ _ _ _ _ _ rfl⟩,⟨_,rfl,.mk _ _ _ _ _⟩,⟨_,_,rfl,.mk _ _ _ _ _ _ _ _ _ _ _ _ _ _ _⟩,⟨_,rfl,.mk _ _ _ _ _ _ _⟩,⟨_,rfl,.mk _ _ _⟩,
   ⟨⟨⟨_,_,_,_,_,_,_,_,_,_,_,_,_,_⟩,rfl⟩,by kernel_rfl,by kernel_rfl,by kernel_rfl,by kernel_rfl,by kernel_rfl,by kernel_rfl,by kernel_rfl,by kernel_rfl⟩,by kernel_rfl,by kernel_rfl,by kernel_rfl,by kernel_rfl,by kernel_rfl,by kernel_rfl⟩
 refine⟨.inl ⟨.bool true,.bool true,[],rfl,λcls=> ?_,.bool true,?_,λJ=>⟨List.nodup_nil,λa h=>by cases h⟩⟩,.of_keep kp,hos,.of_eq (hg.trans hgens)⟩
 ·rfl
 ·wrow_post
end
end Mine.Internal
end
theorem PySem.Challenge.cw_pq1118_01_holds : PySem.Challenge.rw_pq1118_01.Holds :=
 Mine.Internal.all_holds
