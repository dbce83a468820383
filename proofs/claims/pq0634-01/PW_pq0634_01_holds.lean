import PyProof.Rows.All
import PyProof.ExcBaseAll.Exception
import PyProof.ExcInit
import PyProof.InstStoreFacts
import Wide.All
import OpenK.AllK
import Wide.FinOn
import KE.KBytesWalk
import PySem.Challenge.RW_pq0634_01
set_option linter.all false
set_option bootstrap.genMatcherCode false
set_option genCtorIdx false
set_option tactic.hygienic false
open PySem PySem.W PyProof.Rows PySem.Calls PySem.SeqAt
set_option maxRecDepth 100000
namespace Mine.Internal
theorem vA{n m:Nat}(h:Nat.ble n m=true):n≤m:=Nat.le_of_ble_eq_true h
theorem vB{n m:Nat}(h:Nat.beq n m=true):n=m:=Nat.eq_of_beq_eq_true h
theorem vC{α:Type _}{a b:α}(h:some a=some b):a=b:=Option.some.inj h
theorem vD(n:Nat):n≤n:=Nat.le_refl n
theorem vE{n m k:Nat}(h:n≤m)(h':m≤k):n≤k:=Nat.le_trans h h'
theorem vF{α:Type _}{p:α→Bool}{l:List α}(h:l.all p=true):∀x,x∈l→p x=true:=List.all_eq_true.mp h
theorem vG{α:Type _}{p:α→Bool}{l:List α}(h:l.any p=true):∃x,x∈l∧p x=true:=List.any_eq_true.mp h
theorem vH{α:Type _}{l:Array α}:l.toList.length=l.size:=Array.length_toList
theorem vI{α:Type _}{a b:α}{l:List α}(h:a∈b::l):a=b∨a∈l:=List.mem_cons.mp h
theorem vJ{x y:Bool}(h:(x&&y)=true):x=true∧y=true:=Bool.and_eq_true_iff.mp h
theorem vK{x y:Bool}(h:(x||y)=true):x=true∨y=true:=Bool.or_eq_true_iff.mp h
theorem vL{n m:Nat}(h:m≤n):¬n<m:=Nat.not_lt.mpr h
theorem vM{α:Type _}{a b:α}(h:a∈[b]):a=b:=List.mem_singleton.mp h
theorem vN{α:Type _}{l:List α}{i:Nat}{a:α}(h:l[i]?=some a):a∈l:=List.mem_of_getElem? h
theorem vO{α:Type _}(l:List α):l++[]=l:=List.append_nil l
section
@[elab_as_elim] theorem rwG {α:Sort _} {a b:α} {P:α→Prop} (h:a=b) (k:P b):P a:=h▸k
@[elab_as_elim] theorem rwS {α:Sort _} {a b:α} {P:α→Prop} (h:a=b) (k:P a):P b:=h▸k
theorem absF{P:Prop}(h:false=true):P:=absurd h Bool.false_ne_true
theorem absT{P:Prop}(h:true=false):P:=absurd h.symm Bool.false_ne_true
theorem absN{α:Type _}{a:α}{P:Prop}(h:none=some a):P:=by cases h
theorem absS{α:Type _}{a:α}{P:Prop}(h:some a=none):P:=by cases h
theorem someI{α:Type _}{a b:α}{G:Prop}(h:some a=some b)(k:a=b→G):G:=k (vC h)
theorem iteS{β:Sort _}{c:Prop}{d:Decidable c}{x y z:β}{G:Prop}(h:@ite β c d x y=z)(k1:c→x=z→G)(k2:¬c→y=z→G):G:=by
 cases d with
 |isTrue q=>exact k1 q h
 |isFalse q=>exact k2 q h
noncomputable def ifS{α β:Type}(d:β)(o:Option α)(k:α→β):β:=@Option.rec α (λ_=>β) d k o
theorem ifSR{α β:Type}{G:Prop}{d r:β}{o:Option α}{k:α→β}(k1:∀a,o=some a→k a=r→G)(k2:o=none→d=r→G)(h:ifS d o k=r):G:=by
 cases o with
 |none=>exact k2 rfl h
 |some a=>exact k1 a rfl h
theorem x0_2{p0 p1:Prop}{G:Prop}(h:p0∧p1)(k:p0→p1→G):G:=by
 obtain⟨h0,h1⟩:=h
 exact k h0 h1
theorem x0_3{p0 p1 p2:Prop}{G:Prop}(h:p0∧p1∧p2)(k:p0→p1→p2→G):G:=by
 obtain⟨h0,h1,h2⟩:=h
 exact k h0 h1 h2
theorem x0_4{p0 p1 p2 p3:Prop}{G:Prop}(h:p0∧p1∧p2∧p3)(k:p0→p1→p2→p3→G):G:=by
 obtain⟨h0,h1,h2,h3⟩:=h
 exact k h0 h1 h2 h3
theorem x0_5{p0 p1 p2 p3 p4:Prop}{G:Prop}(h:p0∧p1∧p2∧p3∧p4)(k:p0→p1→p2→p3→p4→G):G:=by
 obtain⟨h0,h1,h2,h3,h4⟩:=h
 exact k h0 h1 h2 h3 h4
theorem x0_6{p0 p1 p2 p3 p4 p5:Prop}{G:Prop}(h:p0∧p1∧p2∧p3∧p4∧p5)(k:p0→p1→p2→p3→p4→p5→G):G:=by
 obtain⟨h0,h1,h2,h3,h4,h5⟩:=h
 exact k h0 h1 h2 h3 h4 h5
theorem x1_1{α0:Sort _}{p0:α0→Prop}{G:Prop}(h:∃a,p0 a)(k:∀a,p0 a→G):G:=by
 obtain⟨a,h0⟩:=h
 exact k a h0
theorem x1_2{α0:Sort _}{p0 p1:α0→Prop}{G:Prop}(h:∃a,p0 a∧p1 a)(k:∀a,p0 a→p1 a→G):G:=by
 obtain⟨a,h0,h1⟩:=h
 exact k a h0 h1
theorem x1_3{α0:Sort _}{p0 p1 p2:α0→Prop}{G:Prop}(h:∃a,p0 a∧p1 a∧p2 a)(k:∀a,p0 a→p1 a→p2 a→G):G:=by
 obtain⟨a,h0,h1,h2⟩:=h
 exact k a h0 h1 h2
theorem x1_4{α0:Sort _}{p0 p1 p2 p3:α0→Prop}{G:Prop}(h:∃a,p0 a∧p1 a∧p2 a∧p3 a)(k:∀a,p0 a→p1 a→p2 a→p3 a→G):G:=by
 obtain⟨a,h0,h1,h2,h3⟩:=h
 exact k a h0 h1 h2 h3
theorem x1_5{α0:Sort _}{p0 p1 p2 p3 p4:α0→Prop}{G:Prop}(h:∃a,p0 a∧p1 a∧p2 a∧p3 a∧p4 a)(k:∀a,p0 a→p1 a→p2 a→p3 a→p4 a→G):G:=by
 obtain⟨a,h0,h1,h2,h3,h4⟩:=h
 exact k a h0 h1 h2 h3 h4
theorem x1_6{α0:Sort _}{p0 p1 p2 p3 p4 p5:α0→Prop}{G:Prop}(h:∃a,p0 a∧p1 a∧p2 a∧p3 a∧p4 a∧p5 a)(k:∀a,p0 a→p1 a→p2 a→p3 a→p4 a→p5 a→G):G:=by
 obtain⟨a,h0,h1,h2,h3,h4,h5⟩:=h
 exact k a h0 h1 h2 h3 h4 h5
theorem x1_7{α0:Sort _}{p0 p1 p2 p3 p4 p5 p6:α0→Prop}{G:Prop}(h:∃a,p0 a∧p1 a∧p2 a∧p3 a∧p4 a∧p5 a∧p6 a)(k:∀a,p0 a→p1 a→p2 a→p3 a→p4 a→p5 a→p6 a→G):G:=by
 obtain⟨a,h0,h1,h2,h3,h4,h5,h6⟩:=h
 exact k a h0 h1 h2 h3 h4 h5 h6
theorem x2_1{α0:Sort _}{α1:Sort _}{p0:α0→α1→Prop}{G:Prop}(h:∃a,∃b,p0 a b)(k:∀a b,p0 a b→G):G:=by
 obtain⟨a,b,h0⟩:=h
 exact k a b h0
theorem x2_2{α0:Sort _}{α1:Sort _}{p0 p1:α0→α1→Prop}{G:Prop}(h:∃a,∃b,p0 a b∧p1 a b)(k:∀a b,p0 a b→p1 a b→G):G:=by
 obtain⟨a,b,h0,h1⟩:=h
 exact k a b h0 h1
theorem x2_3{α0:Sort _}{α1:Sort _}{p0 p1 p2:α0→α1→Prop}{G:Prop}(h:∃a,∃b,p0 a b∧p1 a b∧p2 a b)(k:∀a b,p0 a b→p1 a b→p2 a b→G):G:=by
 obtain⟨a,b,h0,h1,h2⟩:=h
 exact k a b h0 h1 h2
theorem x2_4{α0:Sort _}{α1:Sort _}{p0 p1 p2 p3:α0→α1→Prop}{G:Prop}(h:∃a,∃b,p0 a b∧p1 a b∧p2 a b∧p3 a b)(k:∀a b,p0 a b→p1 a b→p2 a b→p3 a b→G):G:=by
 obtain⟨a,b,h0,h1,h2,h3⟩:=h
 exact k a b h0 h1 h2 h3
theorem x2_5{α0:Sort _}{α1:Sort _}{p0 p1 p2 p3 p4:α0→α1→Prop}{G:Prop}(h:∃a,∃b,p0 a b∧p1 a b∧p2 a b∧p3 a b∧p4 a b)(k:∀a b,p0 a b→p1 a b→p2 a b→p3 a b→p4 a b→G):G:=by
 obtain⟨a,b,h0,h1,h2,h3,h4⟩:=h
 exact k a b h0 h1 h2 h3 h4
theorem x2_6{α0:Sort _}{α1:Sort _}{p0 p1 p2 p3 p4 p5:α0→α1→Prop}{G:Prop}(h:∃a,∃b,p0 a b∧p1 a b∧p2 a b∧p3 a b∧p4 a b∧p5 a b)(k:∀a b,p0 a b→p1 a b→p2 a b→p3 a b→p4 a b→p5 a b→G):G:=by
 obtain⟨a,b,h0,h1,h2,h3,h4,h5⟩:=h
 exact k a b h0 h1 h2 h3 h4 h5
theorem x2_7{α0:Sort _}{α1:Sort _}{p0 p1 p2 p3 p4 p5 p6:α0→α1→Prop}{G:Prop}(h:∃a,∃b,p0 a b∧p1 a b∧p2 a b∧p3 a b∧p4 a b∧p5 a b∧p6 a b)(k:∀a b,p0 a b→p1 a b→p2 a b→p3 a b→p4 a b→p5 a b→p6 a b→G):G:=by
 obtain⟨a,b,h0,h1,h2,h3,h4,h5,h6⟩:=h
 exact k a b h0 h1 h2 h3 h4 h5 h6
theorem x3_1{α0:Sort _}{α1:Sort _}{α2:Sort _}{p0:α0→α1→α2→Prop}{G:Prop}(h:∃a,∃b,∃c,p0 a b c)(k:∀a b c,p0 a b c→G):G:=by
 obtain⟨a,b,c,h0⟩:=h
 exact k a b c h0
theorem x3_2{α0:Sort _}{α1:Sort _}{α2:Sort _}{p0 p1:α0→α1→α2→Prop}{G:Prop}(h:∃a,∃b,∃c,p0 a b c∧p1 a b c)(k:∀a b c,p0 a b c→p1 a b c→G):G:=by
 obtain⟨a,b,c,h0,h1⟩:=h
 exact k a b c h0 h1
theorem x3_3{α0:Sort _}{α1:Sort _}{α2:Sort _}{p0 p1 p2:α0→α1→α2→Prop}{G:Prop}(h:∃a,∃b,∃c,p0 a b c∧p1 a b c∧p2 a b c)(k:∀a b c,p0 a b c→p1 a b c→p2 a b c→G):G:=by
 obtain⟨a,b,c,h0,h1,h2⟩:=h
 exact k a b c h0 h1 h2
theorem x3_4{α0:Sort _}{α1:Sort _}{α2:Sort _}{p0 p1 p2 p3:α0→α1→α2→Prop}{G:Prop}(h:∃a,∃b,∃c,p0 a b c∧p1 a b c∧p2 a b c∧p3 a b c)(k:∀a b c,p0 a b c→p1 a b c→p2 a b c→p3 a b c→G):G:=by
 obtain⟨a,b,c,h0,h1,h2,h3⟩:=h
 exact k a b c h0 h1 h2 h3
theorem x3_5{α0:Sort _}{α1:Sort _}{α2:Sort _}{p0 p1 p2 p3 p4:α0→α1→α2→Prop}{G:Prop}(h:∃a,∃b,∃c,p0 a b c∧p1 a b c∧p2 a b c∧p3 a b c∧p4 a b c)(k:∀a b c,p0 a b c→p1 a b c→p2 a b c→p3 a b c→p4 a b c→G):G:=by
 obtain⟨a,b,c,h0,h1,h2,h3,h4⟩:=h
 exact k a b c h0 h1 h2 h3 h4
theorem x3_6{α0:Sort _}{α1:Sort _}{α2:Sort _}{p0 p1 p2 p3 p4 p5:α0→α1→α2→Prop}{G:Prop}(h:∃a,∃b,∃c,p0 a b c∧p1 a b c∧p2 a b c∧p3 a b c∧p4 a b c∧p5 a b c)(k:∀a b c,p0 a b c→p1 a b c→p2 a b c→p3 a b c→p4 a b c→p5 a b c→G):G:=by
 obtain⟨a,b,c,h0,h1,h2,h3,h4,h5⟩:=h
 exact k a b c h0 h1 h2 h3 h4 h5
theorem x4_2{α0:Sort _}{α1:Sort _}{α2:Sort _}{α3:Sort _}{p0 p1:α0→α1→α2→α3→Prop}{G:Prop}(h:∃a,∃b,∃c,∃d,p0 a b c d∧p1 a b c d)(k:∀a b c d,p0 a b c d→p1 a b c d→G):G:=by
 obtain⟨a,b,c,d,h0,h1⟩:=h
 exact k a b c d h0 h1
theorem x4_3{α0:Sort _}{α1:Sort _}{α2:Sort _}{α3:Sort _}{p0 p1 p2:α0→α1→α2→α3→Prop}{G:Prop}(h:∃a,∃b,∃c,∃d,p0 a b c d∧p1 a b c d∧p2 a b c d)(k:∀a b c d,p0 a b c d→p1 a b c d→p2 a b c d→G):G:=by
 obtain⟨a,b,c,d,h0,h1,h2⟩:=h
 exact k a b c d h0 h1 h2
theorem x4_4{α0:Sort _}{α1:Sort _}{α2:Sort _}{α3:Sort _}{p0 p1 p2 p3:α0→α1→α2→α3→Prop}{G:Prop}(h:∃a,∃b,∃c,∃d,p0 a b c d∧p1 a b c d∧p2 a b c d∧p3 a b c d)(k:∀a b c d,p0 a b c d→p1 a b c d→p2 a b c d→p3 a b c d→G):G:=by
 obtain⟨a,b,c,d,h0,h1,h2,h3⟩:=h
 exact k a b c d h0 h1 h2 h3
theorem x4_5{α0:Sort _}{α1:Sort _}{α2:Sort _}{α3:Sort _}{p0 p1 p2 p3 p4:α0→α1→α2→α3→Prop}{G:Prop}(h:∃a,∃b,∃c,∃d,p0 a b c d∧p1 a b c d∧p2 a b c d∧p3 a b c d∧p4 a b c d)(k:∀a b c d,p0 a b c d→p1 a b c d→p2 a b c d→p3 a b c d→p4 a b c d→G):G:=by
 obtain⟨a,b,c,d,h0,h1,h2,h3,h4⟩:=h
 exact k a b c d h0 h1 h2 h3 h4
theorem x4_6{α0:Sort _}{α1:Sort _}{α2:Sort _}{α3:Sort _}{p0 p1 p2 p3 p4 p5:α0→α1→α2→α3→Prop}{G:Prop}(h:∃a,∃b,∃c,∃d,p0 a b c d∧p1 a b c d∧p2 a b c d∧p3 a b c d∧p4 a b c d∧p5 a b c d)(k:∀a b c d,p0 a b c d→p1 a b c d→p2 a b c d→p3 a b c d→p4 a b c d→p5 a b c d→G):G:=by
 obtain⟨a,b,c,d,h0,h1,h2,h3,h4,h5⟩:=h
 exact k a b c d h0 h1 h2 h3 h4 h5
theorem x5_8{α0:Sort _}{α1:Sort _}{α2:Sort _}{α3:Sort _}{α4:Sort _}{p0 p1 p2 p3 p4 p5 p6 p7:α0→α1→α2→α3→α4→Prop}{G:Prop}(h:∃a,∃b,∃c,∃d,∃e,p0 a b c d e∧p1 a b c d e∧p2 a b c d e∧p3 a b c d e∧p4 a b c d e∧p5 a b c d e∧p6 a b c d e∧p7 a b c d e)(k:∀a b c d e,p0 a b c d e→p1 a b c d e→p2 a b c d e→p3 a b c d e→p4 a b c d e→p5 a b c d e→p6 a b c d e→p7 a b c d e→G):G:=by
 obtain⟨a,b,c,d,e,h0,h1,h2,h3,h4,h5,h6,h7⟩:=h
 exact k a b c d e h0 h1 h2 h3 h4 h5 h6 h7
theorem x7_1{α0:Sort _}{α1:Sort _}{α2:Sort _}{α3:Sort _}{α4:Sort _}{α5:Sort _}{α6:Sort _}{p0:α0→α1→α2→α3→α4→α5→α6→Prop}{G:Prop}(h:∃a,∃b,∃c,∃d,∃e,∃f,∃g,p0 a b c d e f g)(k:∀a b c d e f g,p0 a b c d e f g→G):G:=by
 obtain⟨a,b,c,d,e,f,g,h0⟩:=h
 exact k a b c d e f g h0
theorem band2{a0 a1:Bool}{G:Prop}(h:(a0&&a1)=true)(k:a0=true→a1=true→G):G:=by
 cases a0 with
 |false=>exact absF h
 |true=>exact k rfl h
theorem band3{a0 a1 a2:Bool}{G:Prop}(h:(a0&&a1&&a2)=true)(k:a0=true→a1=true→a2=true→G):G:=by
 exact band2 h λh x=>band2 h λh0 h1=>k h0 h1 x
theorem band4{a0 a1 a2 a3:Bool}{G:Prop}(h:(a0&&a1&&a2&&a3)=true)(k:a0=true→a1=true→a2=true→a3=true→G):G:=by
 exact band2 h λh x=>band3 h λh0 h1 h2=>k h0 h1 h2 x
theorem band5{a0 a1 a2 a3 a4:Bool}{G:Prop}(h:(a0&&a1&&a2&&a3&&a4)=true)(k:a0=true→a1=true→a2=true→a3=true→a4=true→G):G:=by
 exact band2 h λh x=>band4 h λh0 h1 h2 h3=>k h0 h1 h2 h3 x
theorem band6{a0 a1 a2 a3 a4 a5:Bool}{G:Prop}(h:(a0&&a1&&a2&&a3&&a4&&a5)=true)(k:a0=true→a1=true→a2=true→a3=true→a4=true→a5=true→G):G:=by
 exact band2 h λh x=>band5 h λh0 h1 h2 h3 h4=>k h0 h1 h2 h3 h4 x
theorem band7{a0 a1 a2 a3 a4 a5 a6:Bool}{G:Prop}(h:(a0&&a1&&a2&&a3&&a4&&a5&&a6)=true)(k:a0=true→a1=true→a2=true→a3=true→a4=true→a5=true→a6=true→G):G:=by
 exact band2 h λh x=>band6 h λh0 h1 h2 h3 h4 h5=>k h0 h1 h2 h3 h4 h5 x
theorem band8{a0 a1 a2 a3 a4 a5 a6 a7:Bool}{G:Prop}(h:(a0&&a1&&a2&&a3&&a4&&a5&&a6&&a7)=true)(k:a0=true→a1=true→a2=true→a3=true→a4=true→a5=true→a6=true→a7=true→G):G:=by
 exact band2 h λh x=>band7 h λh0 h1 h2 h3 h4 h5 h6=>k h0 h1 h2 h3 h4 h5 h6 x
theorem band9{a0 a1 a2 a3 a4 a5 a6 a7 a8:Bool}{G:Prop}(h:(a0&&a1&&a2&&a3&&a4&&a5&&a6&&a7&&a8)=true)(k:a0=true→a1=true→a2=true→a3=true→a4=true→a5=true→a6=true→a7=true→a8=true→G):G:=by
 exact band2 h λh x=>band8 h λh0 h1 h2 h3 h4 h5 h6 h7=>k h0 h1 h2 h3 h4 h5 h6 h7 x
theorem band10{a0 a1 a2 a3 a4 a5 a6 a7 a8 a9:Bool}{G:Prop}(h:(a0&&a1&&a2&&a3&&a4&&a5&&a6&&a7&&a8&&a9)=true)(k:a0=true→a1=true→a2=true→a3=true→a4=true→a5=true→a6=true→a7=true→a8=true→a9=true→G):G:=by
 exact band2 h λh x=>band9 h λh0 h1 h2 h3 h4 h5 h6 h7 h8=>k h0 h1 h2 h3 h4 h5 h6 h7 h8 x
theorem band11{a0 a1 a2 a3 a4 a5 a6 a7 a8 a9 a10:Bool}{G:Prop}(h:(a0&&a1&&a2&&a3&&a4&&a5&&a6&&a7&&a8&&a9&&a10)=true)(k:a0=true→a1=true→a2=true→a3=true→a4=true→a5=true→a6=true→a7=true→a8=true→a9=true→a10=true→G):G:=by
 exact band2 h λh x=>band10 h λh0 h1 h2 h3 h4 h5 h6 h7 h8 h9=>k h0 h1 h2 h3 h4 h5 h6 h7 h8 h9 x
theorem arM{a c d e:Nat}(h:e≤d)(h2:a+16*d+100≤c):a+16*e+100≤c:=vE (Nat.add_le_add_right (Nat.add_le_add_left (Nat.mul_le_mul_left 16 h) a) 100) h2
theorem arN{a c d e:Nat}(h:e≤d)(h2:a+d≤c):a+e≤c:=vE (Nat.add_le_add_left h a) h2
theorem ar16{x:Nat}(h0:x≤4096):x≤16777216:=vE h0 (vA rfl)
theorem ar17{x y:Nat}(h0:x=y)(h1:y≤4096):x≤16777216:=vE (Nat.le_of_eq h0) (vE h1 (vA rfl))
theorem ar18{x:Nat}(h0:x≤64):x≤16777216:=vE h0 (vA rfl)
theorem ar19{a c d:Nat}(h0:a+16*d+100≤c):a+64<c:=Nat.lt_of_lt_of_le (Nat.lt_of_lt_of_le (Nat.add_lt_add_left (vA rfl) a) (Nat.add_le_add_right (Nat.le_add_right a (16*d)) 100)) h0
theorem ar20{a c n:Nat}(h0:a+(n+1)<c):a+1+n<c:=Nat.lt_of_le_of_lt (Nat.le_of_eq (Nat.add_right_comm a 1 n)) h0
theorem ar21{a c:Nat}(h0:a+64<c):a+40<c:=Nat.lt_of_le_of_lt (Nat.add_le_add_left (vA rfl) a) h0
theorem ar23{x y:Nat}(h0:x≤4096*y)(h1:y≤4096):x≤16777216:=vE h0 (vE (Nat.mul_le_mul_left 4096 h1) (vA rfl))
theorem ar24{x y z:Nat}(h0:x≤4096*y)(h1:z≤4096):z+x≤4096*(y+1):=vE (Nat.add_le_add h1 h0) (Nat.le_of_eq (Nat.add_comm 4096 (4096*y)))
theorem ar25{y:Int}(h0:0<y):y≠0:=(Int.ne_of_lt h0).symm
theorem ar26{x y:Nat}(h0:x=y)(h1:y≤4096):(x:Int)<2 ^ 63:=Int.lt_of_le_of_lt (Int.ofNat_le.mpr (vE (Nat.le_of_eq h0) h1)) (by decide)
theorem ar27{y:Nat}(h0:y≤4096):(y:Int)<2 ^ 63:=Int.lt_of_le_of_lt (Int.ofNat_le.mpr h0) (by decide)
theorem ar28{a b x y:Nat}(h0:x=a)(h1:y=b)(h2:a+b≤4096):x+y≤16777216:=by subst h0;subst h1;exact vE h2 (vA rfl)
theorem ar30{x y:Nat}(h0:x≤4096)(h1:y≤4096):x+y≤16777216+1:=vE (Nat.add_le_add h0 h1) (vA rfl)
theorem ar31{i:Int}{n:Nat}(h0:n≤4096)(h1:i<0)(h2:0≤i+(n:Int)∧i+(n:Int)<(n:Int)) : -2 ^ 63≤i:=by omega
theorem ar32{i:Int}{n:Nat}(h0:n≤4096)(h1:i<0)(h2:0≤i+(n:Int)∧i+(n:Int)<(n:Int)):i<2 ^ 63:=Int.lt_trans h1 (by decide)
theorem ar33{i:Int}{n:Nat}(h0:0≤i+(n:Int)∧i+(n:Int)<(n:Int)) : -(n:Int)≤i:=by omega
theorem ar34{i:Int}(h0:¬i<0) : -2 ^ 63≤i:=Int.le_trans (by decide) (Int.not_lt.mp h0)
theorem ar35{i:Int}{n:Nat}(h0:n≤4096)(h1:0≤i∧i<(n:Int)):i<2 ^ 63:=Int.lt_of_lt_of_le h1.2 (Int.le_trans (Int.ofNat_le.mpr h0) (by decide))
theorem ar36{i:Int}(h0:¬i<0):0≤i:=Int.not_lt.mp h0
theorem ar37{i:Int}(h0:0≤i)(h1:i.toNat=0):i=0:=Int.le_antisymm (Int.toNat_eq_zero.mp h1) h0
theorem ar38{i:Int}(h0:0≤i):i=(i.toNat:Int):=(Int.toNat_of_nonneg h0).symm
theorem ar39{n:Nat}:((n:Int)).toNat=n:=rfl
theorem ar40{n:Nat}(h0:¬n=0):1≤n:=Nat.pos_of_ne_zero h0
theorem ar41{x:Nat}(h0:x<29):x<30:=Nat.lt_succ_of_lt h0
theorem ar42{j x y:Nat}(h0:x=y)(h1:j<y):j<x:=Nat.lt_of_lt_of_eq h1 h0.symm
theorem ar43{j x y:Nat}(h0:x=y)(h1:¬j<y):x≤j:=vE (Nat.le_of_eq h0) (Nat.not_lt.mp h1)
theorem ar44{j x:Nat}(h0:¬j<x):x≤j:=Nat.not_lt.mp h0
theorem ar45{n:Nat}:(0:Int)<((n+1:Nat):Int):=by omega
theorem ar46{n:Nat}:((n+1:Nat):Int)-1=(n:Int):=Int.add_sub_cancel (n:Int) 1
theorem ar47{a:Int}(h0:a.natAbs≤1000000) : -2 ^ 62≤a:=by omega
theorem ar48{a:Int}(h0:a.natAbs≤1000000):a<2 ^ 62:=Int.lt_of_le_of_lt Int.le_natAbs (Int.lt_of_le_of_lt (Int.ofNat_le.mpr h0) (by decide))
theorem ar51{j n:Nat}(h0:(j:Int)<(n:Int)):j<n:=Int.ofNat_lt.mp h0
theorem ar52{i:Int}{n:Nat}(h0:i.toNat<n)(h1:n≤4000):i<2 ^ 63:=Int.lt_of_le_of_lt (Int.self_le_toNat i) (Int.lt_of_lt_of_le (Int.ofNat_lt.mpr h0) (Int.le_trans (Int.ofNat_le.mpr h1) (by decide)))
theorem ar53{i:Int}{n x:Nat}(h0:0≤i)(h1:i.toNat<n)(h2:x=n):i<(x:Int):=Int.lt_of_le_of_lt (Int.self_le_toNat i) (Int.ofNat_lt.mpr (Nat.lt_of_lt_of_eq h1 h2.symm))
theorem ar56{a d:Nat}(h0:a+(d+1)≤900):a<1000:=Nat.lt_of_le_of_lt (vE (Nat.le_add_right a (d+1)) h0) (vA rfl)
theorem ar57{a c d:Nat}(h0:a+16*(d+1)+100≤c):a+3+16*d+100≤c:=vE (Nat.add_le_add_right (vE (Nat.le_of_eq (Nat.add_right_comm a 3 (16*d))) (Nat.add_le_add_left (n:=3) (m:=16) (vA rfl) (a+16*d))) 100) h0
theorem ar58{a c d:Nat}(h0:a+(d+1)≤c):a+1+d≤c:=vE (Nat.le_of_eq (Nat.add_right_comm a 1 d)) h0
theorem ar59{a c d e:Nat}(h0:e≤d)(h1:a+16*d+100≤c):a+16*e+100≤c:=arM h0 h1
theorem ar60{a c d e:Nat}(h0:e≤d)(h1:a+d≤c):a+e≤c:=arN h0 h1
theorem ar61{b e:Nat}:b≤b+(e+1):=Nat.le_add_right b (e+1)
theorem ar118{j n x:Nat}(h0:x<n+1+j):x<n+(j+1):=Nat.lt_of_lt_of_eq h0 (Nat.add_right_comm n 1 j)
theorem ar119{i x:Nat}(h0:¬i<x)(h1:i<x+1):i=x:=Nat.le_antisymm (Nat.le_of_lt_succ h1) (Nat.not_lt.mp h0)
end
set_option genInjectivity false
set_option genSizeOf false
set_option genSizeOfSpec false
section
set_option genCtorIdx true in
inductive PV where
 |none
 |bool (b:Bool)
 |int (i:Int)
 |str (r:List Nat)
 |tup (xs:List PV)
 |lst (i:Nat)
 |old (a:Nat)
 |dct (ks vs:List PV)
 |clos (ag:Arguments) (body:Expr) (sc:Scope) (x:Str) (p:PV)
 |hole (i:Nat)
deriving Inhabited
noncomputable abbrev Sto:=List (List PV)
noncomputable abbrev KV:=PV→Sto→Bool
noncomputable abbrev KX:=Sto→Bool
noncomputable abbrev Orc:=PV→List PV→Sto→KV→KX→Bool
theorem fT:false≠true:=Bool.false_ne_true
theorem nS{α:Type}{a:α}:none≠some a:=λh=>nomatch h
@[elab_as_elim] theorem ifE {α β:Type} {P:Option α→Prop} {d r:β} {o:Option α} {k:α→β} (h:ifS d o k=r) (hd:d≠r) (f:∀a,k a=r→P (some a)):P o:=by
 cases o with
 |none=>exact absurd h hd
 |some a=>exact f a h
theorem ifE'{α β:Type}{G:Prop}{d r:β}{o:Option α}{k:α→β}(h:ifS d o k=r)(hd:d≠r)(f:∀a,o=some a→k a=r→G):G:=by
 cases o with
 |none=>exact absurd h hd
 |some a=>exact f a rfl h
theorem ifB{β:Type}{G:Prop}{d r x:β}{c:Prop}[Decidable c](h:(if c then x else d)=r)(hd:d≠r)(f:c→x=r→G):G:=by
 by_cases q:c
 ·rw[if_pos q]at h;exact f q h
 ·rw[if_neg q]at h;exact absurd h hd
noncomputable def oneK{α β:Type}(d:β)(l:List α)(k:α→β):β:=@List.rec α (λ_=>β) d (λa r _=>@List.rec α (λ_=>β) (k a) (λ_ _ _=>d) r) l
@[elab_as_elim] theorem oneE {α β:Type} {P:List α→Prop} {d r:β} {l:List α} {k:α→β} (h:oneK d l k=r) (hd:d≠r) (f:∀a,k a=r→P [a]):P l:=by
 cases l with
 |nil=>exact absurd h hd
 |cons a t=>cases t with
  |nil=>exact f a h
  |cons=>exact absurd h hd
noncomputable def twoK{α β:Type}(d:β)(l:List α)(k:α→α→β):β:=@List.rec α (λ_=>β) d (λa r _=>oneK d r (k a)) l
@[elab_as_elim] theorem twoE {α β:Type} {P:List α→Prop} {d r:β} {l:List α} {k:α→α→β} (h:twoK d l k=r) (hd:d≠r) (f:∀a b,k a b=r→P [a,b]):P l:=by
 cases l with
 |nil=>exact absurd h hd
 |cons a t=>exact oneE (P:=λt=>P (a::t)) h hd λb h=>f a b h
noncomputable def consK{α β:Type}(d:β)(l:List α)(k:α→List α→β):β:=@List.rec α (λ_=>β) d (λa r _=>k a r) l
@[elab_as_elim] theorem consE {α β:Type} {P:List α→Prop} {d r:β} {l:List α} {k:α→List α→β} (h:consK d l k=r) (hd:d≠r) (f:∀a t,k a t=r→P (a::t)):P l:=by
 cases l with
 |nil=>exact absurd h hd
 |cons a t=>exact f a t h
noncomputable def threeK{α β:Type}(d:β)(l:List α)(k:α→α→α→β):β:=consK d l λa r=>twoK d r (k a)
@[elab_as_elim] theorem threeE {α β:Type} {P:List α→Prop} {d r:β} {l:List α} {k:α→α→α→β} (h:threeK d l k=r) (hd:d≠r) (f:∀a b c,k a b c=r→P [a,b,c]):P l:=
 consE h hd λa zz h=>twoE (P:=λt=>P (a::t)) h hd λb c h=>f a b c h
noncomputable def nameV(e:Expr):Option (Str×Pos):=@Expr.casesOn (λ_=>Option (Str×Pos)) e (λa0 a1 a2=>none) (λa0 a1 a2=>none) (λa0 a1 a2 a3=>none) (λa0 a1 a2=>none) (λa0 a1 a2 a3=>none) (λa0 a1 a2 a3=>none) (λa0 a1 a2=>none) (λa0 a1 a2=>none) (λa0 a1 a2 a3=>none) (λa0 a1 a2 a3=>none) (λa0 a1 a2 a3 a4=>none) (λa0 a1 a2 a3=>none) (λa0 a1=>none) (λa0 a1=>none) (λa0 a1=>none) (λa0 a1 a2 a3=>none) (λa0 a1 a2 a3=>none) (λa0 a1 a2 a3=>none) (λa0 a1=>none) (λa0 a1 a2=>none) (λa0 a1 a2=>none) (λa0 a1 a2=>none) (λa0 a1=>none) (λx p=>some (x,p)) (λa0 a1=>none) (λa0 a1 a2=>none) (λa0 a1 a2 a3=>none)
noncomputable def nameK{β:Type}(d:β)(e:Expr)(k:Str→Pos→β):β:=ifS d (nameV e) λz=>k z.1 z.2
@[elab_as_elim] theorem nameE {P:Expr→Prop} {β:Type} {d r:β} {e:Expr} {k:Str→Pos→β} (h:nameK d e k=r) (hd:d≠r) (f:∀x p,k x p=r→P (.Name x p)):P e:=@Expr.casesOn (λe=>nameK d e k=r→P e) e (λa0 a1 a2 (h:d=r)=>absurd h hd) (λa0 a1 a2 (h:d=r)=>absurd h hd) (λa0 a1 a2 a3 (h:d=r)=>absurd h hd) (λa0 a1 a2 (h:d=r)=>absurd h hd) (λa0 a1 a2 a3 (h:d=r)=>absurd h hd) (λa0 a1 a2 a3 (h:d=r)=>absurd h hd) (λa0 a1 a2 (h:d=r)=>absurd h hd) (λa0 a1 a2 (h:d=r)=>absurd h hd) (λa0 a1 a2 a3 (h:d=r)=>absurd h hd) (λa0 a1 a2 a3 (h:d=r)=>absurd h hd) (λa0 a1 a2 a3 a4 (h:d=r)=>absurd h hd) (λa0 a1 a2 a3 (h:d=r)=>absurd h hd) (λa0 a1 (h:d=r)=>absurd h hd) (λa0 a1 (h:d=r)=>absurd h hd) (λa0 a1 (h:d=r)=>absurd h hd) (λa0 a1 a2 a3 (h:d=r)=>absurd h hd) (λa0 a1 a2 a3 (h:d=r)=>absurd h hd) (λa0 a1 a2 a3 (h:d=r)=>absurd h hd) (λa0 a1 (h:d=r)=>absurd h hd) (λa0 a1 a2 (h:d=r)=>absurd h hd) (λa0 a1 a2 (h:d=r)=>absurd h hd) (λa0 a1 a2 (h:d=r)=>absurd h hd) (λa0 a1 (h:d=r)=>absurd h hd) (λx p (h:k x p=r)=>f x p h) (λa0 a1 (h:d=r)=>absurd h hd) (λa0 a1 a2 (h:d=r)=>absurd h hd) (λa0 a1 a2 a3 (h:d=r)=>absurd h hd) h
noncomputable def call0V(e:Expr):Option (Expr×List Expr×List Keyword×Pos):=@Expr.casesOn (λ_=>Option (Expr×List Expr×List Keyword×Pos)) e (λa0 a1 a2=>none) (λa0 a1 a2=>none) (λa0 a1 a2 a3=>none) (λa0 a1 a2=>none) (λa0 a1 a2 a3=>none) (λa0 a1 a2 a3=>none) (λa0 a1 a2=>none) (λa0 a1 a2=>none) (λa0 a1 a2 a3=>none) (λa0 a1 a2 a3=>none) (λa0 a1 a2 a3 a4=>none) (λa0 a1 a2 a3=>none) (λa0 a1=>none) (λa0 a1=>none) (λa0 a1=>none) (λa0 a1 a2 a3=>none) (λg as ks p=>some (g,as,ks,p)) (λa0 a1 a2 a3=>none) (λa0 a1=>none) (λa0 a1 a2=>none) (λa0 a1 a2=>none) (λa0 a1 a2=>none) (λa0 a1=>none) (λa0 a1=>none) (λa0 a1=>none) (λa0 a1 a2=>none) (λa0 a1 a2 a3=>none)
noncomputable def call0K{β:Type}(d:β)(e:Expr)(k:Expr→List Expr→List Keyword→Pos→β):β:=ifS d (call0V e) λz=>k z.1 z.2.1 z.2.2.1 z.2.2.2
@[elab_as_elim] theorem call0E {P:Expr→Prop} {β:Type} {d r:β} {e:Expr} {k:Expr→List Expr→List Keyword→Pos→β} (h:call0K d e k=r) (hd:d≠r) (f:∀g as ks p,k g as ks p=r→P (.Call g as ks p)):P e:=@Expr.casesOn (λe=>call0K d e k=r→P e) e (λa0 a1 a2 (h:d=r)=>absurd h hd) (λa0 a1 a2 (h:d=r)=>absurd h hd) (λa0 a1 a2 a3 (h:d=r)=>absurd h hd) (λa0 a1 a2 (h:d=r)=>absurd h hd) (λa0 a1 a2 a3 (h:d=r)=>absurd h hd) (λa0 a1 a2 a3 (h:d=r)=>absurd h hd) (λa0 a1 a2 (h:d=r)=>absurd h hd) (λa0 a1 a2 (h:d=r)=>absurd h hd) (λa0 a1 a2 a3 (h:d=r)=>absurd h hd) (λa0 a1 a2 a3 (h:d=r)=>absurd h hd) (λa0 a1 a2 a3 a4 (h:d=r)=>absurd h hd) (λa0 a1 a2 a3 (h:d=r)=>absurd h hd) (λa0 a1 (h:d=r)=>absurd h hd) (λa0 a1 (h:d=r)=>absurd h hd) (λa0 a1 (h:d=r)=>absurd h hd) (λa0 a1 a2 a3 (h:d=r)=>absurd h hd) (λg as ks p (h:k g as ks p=r)=>f g as ks p h) (λa0 a1 a2 a3 (h:d=r)=>absurd h hd) (λa0 a1 (h:d=r)=>absurd h hd) (λa0 a1 a2 (h:d=r)=>absurd h hd) (λa0 a1 a2 (h:d=r)=>absurd h hd) (λa0 a1 a2 (h:d=r)=>absurd h hd) (λa0 a1 (h:d=r)=>absurd h hd) (λa0 a1 (h:d=r)=>absurd h hd) (λa0 a1 (h:d=r)=>absurd h hd) (λa0 a1 a2 (h:d=r)=>absurd h hd) (λa0 a1 a2 a3 (h:d=r)=>absurd h hd) h
noncomputable def binV(e:Expr):Option (Expr×Operator×Expr×Pos):=@Expr.casesOn (λ_=>Option (Expr×Operator×Expr×Pos)) e (λa0 a1 a2=>none) (λa0 a1 a2=>none) (λl op rr p=>some (l,op,rr,p)) (λa0 a1 a2=>none) (λa0 a1 a2 a3=>none) (λa0 a1 a2 a3=>none) (λa0 a1 a2=>none) (λa0 a1 a2=>none) (λa0 a1 a2 a3=>none) (λa0 a1 a2 a3=>none) (λa0 a1 a2 a3 a4=>none) (λa0 a1 a2 a3=>none) (λa0 a1=>none) (λa0 a1=>none) (λa0 a1=>none) (λa0 a1 a2 a3=>none) (λa0 a1 a2 a3=>none) (λa0 a1 a2 a3=>none) (λa0 a1=>none) (λa0 a1 a2=>none) (λa0 a1 a2=>none) (λa0 a1 a2=>none) (λa0 a1=>none) (λa0 a1=>none) (λa0 a1=>none) (λa0 a1 a2=>none) (λa0 a1 a2 a3=>none)
noncomputable def binK{β:Type}(d:β)(e:Expr)(k:Expr→Operator→Expr→Pos→β):β:=ifS d (binV e) λz=>k z.1 z.2.1 z.2.2.1 z.2.2.2
@[elab_as_elim] theorem binE {P:Expr→Prop} {β:Type} {d r:β} {e:Expr} {k:Expr→Operator→Expr→Pos→β} (h:binK d e k=r) (hd:d≠r) (f:∀l op rr p,k l op rr p=r→P (.BinOp l op rr p)):P e:=@Expr.casesOn (λe=>binK d e k=r→P e) e (λa0 a1 a2 (h:d=r)=>absurd h hd) (λa0 a1 a2 (h:d=r)=>absurd h hd) (λl op rr p (h:k l op rr p=r)=>f l op rr p h) (λa0 a1 a2 (h:d=r)=>absurd h hd) (λa0 a1 a2 a3 (h:d=r)=>absurd h hd) (λa0 a1 a2 a3 (h:d=r)=>absurd h hd) (λa0 a1 a2 (h:d=r)=>absurd h hd) (λa0 a1 a2 (h:d=r)=>absurd h hd) (λa0 a1 a2 a3 (h:d=r)=>absurd h hd) (λa0 a1 a2 a3 (h:d=r)=>absurd h hd) (λa0 a1 a2 a3 a4 (h:d=r)=>absurd h hd) (λa0 a1 a2 a3 (h:d=r)=>absurd h hd) (λa0 a1 (h:d=r)=>absurd h hd) (λa0 a1 (h:d=r)=>absurd h hd) (λa0 a1 (h:d=r)=>absurd h hd) (λa0 a1 a2 a3 (h:d=r)=>absurd h hd) (λa0 a1 a2 a3 (h:d=r)=>absurd h hd) (λa0 a1 a2 a3 (h:d=r)=>absurd h hd) (λa0 a1 (h:d=r)=>absurd h hd) (λa0 a1 a2 (h:d=r)=>absurd h hd) (λa0 a1 a2 (h:d=r)=>absurd h hd) (λa0 a1 a2 (h:d=r)=>absurd h hd) (λa0 a1 (h:d=r)=>absurd h hd) (λa0 a1 (h:d=r)=>absurd h hd) (λa0 a1 (h:d=r)=>absurd h hd) (λa0 a1 a2 (h:d=r)=>absurd h hd) (λa0 a1 a2 a3 (h:d=r)=>absurd h hd) h
noncomputable def constV(e:Expr):Option (Const×Nat×Pos):=@Expr.casesOn (λ_=>Option (Const×Nat×Pos)) e (λa0 a1 a2=>none) (λa0 a1 a2=>none) (λa0 a1 a2 a3=>none) (λa0 a1 a2=>none) (λa0 a1 a2 a3=>none) (λa0 a1 a2 a3=>none) (λa0 a1 a2=>none) (λa0 a1 a2=>none) (λa0 a1 a2 a3=>none) (λa0 a1 a2 a3=>none) (λa0 a1 a2 a3 a4=>none) (λa0 a1 a2 a3=>none) (λa0 a1=>none) (λa0 a1=>none) (λa0 a1=>none) (λa0 a1 a2 a3=>none) (λa0 a1 a2 a3=>none) (λa0 a1 a2 a3=>none) (λa0 a1=>none) (λc u p=>some (c,u,p)) (λa0 a1 a2=>none) (λa0 a1 a2=>none) (λa0 a1=>none) (λa0 a1=>none) (λa0 a1=>none) (λa0 a1 a2=>none) (λa0 a1 a2 a3=>none)
noncomputable def constK{β:Type}(d:β)(e:Expr)(k:Const→Nat→Pos→β):β:=ifS d (constV e) λz=>k z.1 z.2.1 z.2.2
@[elab_as_elim] theorem constE {P:Expr→Prop} {β:Type} {d r:β} {e:Expr} {k:Const→Nat→Pos→β} (h:constK d e k=r) (hd:d≠r) (f:∀c u p,k c u p=r→P (.Constant c u p)):P e:=@Expr.casesOn (λe=>constK d e k=r→P e) e (λa0 a1 a2 (h:d=r)=>absurd h hd) (λa0 a1 a2 (h:d=r)=>absurd h hd) (λa0 a1 a2 a3 (h:d=r)=>absurd h hd) (λa0 a1 a2 (h:d=r)=>absurd h hd) (λa0 a1 a2 a3 (h:d=r)=>absurd h hd) (λa0 a1 a2 a3 (h:d=r)=>absurd h hd) (λa0 a1 a2 (h:d=r)=>absurd h hd) (λa0 a1 a2 (h:d=r)=>absurd h hd) (λa0 a1 a2 a3 (h:d=r)=>absurd h hd) (λa0 a1 a2 a3 (h:d=r)=>absurd h hd) (λa0 a1 a2 a3 a4 (h:d=r)=>absurd h hd) (λa0 a1 a2 a3 (h:d=r)=>absurd h hd) (λa0 a1 (h:d=r)=>absurd h hd) (λa0 a1 (h:d=r)=>absurd h hd) (λa0 a1 (h:d=r)=>absurd h hd) (λa0 a1 a2 a3 (h:d=r)=>absurd h hd) (λa0 a1 a2 a3 (h:d=r)=>absurd h hd) (λa0 a1 a2 a3 (h:d=r)=>absurd h hd) (λa0 a1 (h:d=r)=>absurd h hd) (λc u p (h:k c u p=r)=>f c u p h) (λa0 a1 a2 (h:d=r)=>absurd h hd) (λa0 a1 a2 (h:d=r)=>absurd h hd) (λa0 a1 (h:d=r)=>absurd h hd) (λa0 a1 (h:d=r)=>absurd h hd) (λa0 a1 (h:d=r)=>absurd h hd) (λa0 a1 a2 (h:d=r)=>absurd h hd) (λa0 a1 a2 a3 (h:d=r)=>absurd h hd) h
noncomputable def subV(e:Expr):Option (Expr×Expr×Pos):=@Expr.casesOn (λ_=>Option (Expr×Expr×Pos)) e (λa0 a1 a2=>none) (λa0 a1 a2=>none) (λa0 a1 a2 a3=>none) (λa0 a1 a2=>none) (λa0 a1 a2 a3=>none) (λa0 a1 a2 a3=>none) (λa0 a1 a2=>none) (λa0 a1 a2=>none) (λa0 a1 a2 a3=>none) (λa0 a1 a2 a3=>none) (λa0 a1 a2 a3 a4=>none) (λa0 a1 a2 a3=>none) (λa0 a1=>none) (λa0 a1=>none) (λa0 a1=>none) (λa0 a1 a2 a3=>none) (λa0 a1 a2 a3=>none) (λa0 a1 a2 a3=>none) (λa0 a1=>none) (λa0 a1 a2=>none) (λa0 a1 a2=>none) (λo i p=>some (o,i,p)) (λa0 a1=>none) (λa0 a1=>none) (λa0 a1=>none) (λa0 a1 a2=>none) (λa0 a1 a2 a3=>none)
noncomputable def subK{β:Type}(d:β)(e:Expr)(k:Expr→Expr→Pos→β):β:=ifS d (subV e) λz=>k z.1 z.2.1 z.2.2
@[elab_as_elim] theorem subE {P:Expr→Prop} {β:Type} {d r:β} {e:Expr} {k:Expr→Expr→Pos→β} (h:subK d e k=r) (hd:d≠r) (f:∀o i p,k o i p=r→P (.Subscript o i p)):P e:=@Expr.casesOn (λe=>subK d e k=r→P e) e (λa0 a1 a2 (h:d=r)=>absurd h hd) (λa0 a1 a2 (h:d=r)=>absurd h hd) (λa0 a1 a2 a3 (h:d=r)=>absurd h hd) (λa0 a1 a2 (h:d=r)=>absurd h hd) (λa0 a1 a2 a3 (h:d=r)=>absurd h hd) (λa0 a1 a2 a3 (h:d=r)=>absurd h hd) (λa0 a1 a2 (h:d=r)=>absurd h hd) (λa0 a1 a2 (h:d=r)=>absurd h hd) (λa0 a1 a2 a3 (h:d=r)=>absurd h hd) (λa0 a1 a2 a3 (h:d=r)=>absurd h hd) (λa0 a1 a2 a3 a4 (h:d=r)=>absurd h hd) (λa0 a1 a2 a3 (h:d=r)=>absurd h hd) (λa0 a1 (h:d=r)=>absurd h hd) (λa0 a1 (h:d=r)=>absurd h hd) (λa0 a1 (h:d=r)=>absurd h hd) (λa0 a1 a2 a3 (h:d=r)=>absurd h hd) (λa0 a1 a2 a3 (h:d=r)=>absurd h hd) (λa0 a1 a2 a3 (h:d=r)=>absurd h hd) (λa0 a1 (h:d=r)=>absurd h hd) (λa0 a1 a2 (h:d=r)=>absurd h hd) (λa0 a1 a2 (h:d=r)=>absurd h hd) (λo i p (h:k o i p=r)=>f o i p h) (λa0 a1 (h:d=r)=>absurd h hd) (λa0 a1 (h:d=r)=>absurd h hd) (λa0 a1 (h:d=r)=>absurd h hd) (λa0 a1 a2 (h:d=r)=>absurd h hd) (λa0 a1 a2 a3 (h:d=r)=>absurd h hd) h
noncomputable def tupxV(e:Expr):Option (List Expr×Nat×Pos):=@Expr.casesOn (λ_=>Option (List Expr×Nat×Pos)) e (λa0 a1 a2=>none) (λa0 a1 a2=>none) (λa0 a1 a2 a3=>none) (λa0 a1 a2=>none) (λa0 a1 a2 a3=>none) (λa0 a1 a2 a3=>none) (λa0 a1 a2=>none) (λa0 a1 a2=>none) (λa0 a1 a2 a3=>none) (λa0 a1 a2 a3=>none) (λa0 a1 a2 a3 a4=>none) (λa0 a1 a2 a3=>none) (λa0 a1=>none) (λa0 a1=>none) (λa0 a1=>none) (λa0 a1 a2 a3=>none) (λa0 a1 a2 a3=>none) (λa0 a1 a2 a3=>none) (λa0 a1=>none) (λa0 a1 a2=>none) (λa0 a1 a2=>none) (λa0 a1 a2=>none) (λa0 a1=>none) (λa0 a1=>none) (λa0 a1=>none) (λts u p=>some (ts,u,p)) (λa0 a1 a2 a3=>none)
noncomputable def tupxK{β:Type}(d:β)(e:Expr)(k:List Expr→Nat→Pos→β):β:=ifS d (tupxV e) λz=>k z.1 z.2.1 z.2.2
@[elab_as_elim] theorem tupxE {P:Expr→Prop} {β:Type} {d r:β} {e:Expr} {k:List Expr→Nat→Pos→β} (h:tupxK d e k=r) (hd:d≠r) (f:∀ts u p,k ts u p=r→P (.Tuple ts u p)):P e:=@Expr.casesOn (λe=>tupxK d e k=r→P e) e (λa0 a1 a2 (h:d=r)=>absurd h hd) (λa0 a1 a2 (h:d=r)=>absurd h hd) (λa0 a1 a2 a3 (h:d=r)=>absurd h hd) (λa0 a1 a2 (h:d=r)=>absurd h hd) (λa0 a1 a2 a3 (h:d=r)=>absurd h hd) (λa0 a1 a2 a3 (h:d=r)=>absurd h hd) (λa0 a1 a2 (h:d=r)=>absurd h hd) (λa0 a1 a2 (h:d=r)=>absurd h hd) (λa0 a1 a2 a3 (h:d=r)=>absurd h hd) (λa0 a1 a2 a3 (h:d=r)=>absurd h hd) (λa0 a1 a2 a3 a4 (h:d=r)=>absurd h hd) (λa0 a1 a2 a3 (h:d=r)=>absurd h hd) (λa0 a1 (h:d=r)=>absurd h hd) (λa0 a1 (h:d=r)=>absurd h hd) (λa0 a1 (h:d=r)=>absurd h hd) (λa0 a1 a2 a3 (h:d=r)=>absurd h hd) (λa0 a1 a2 a3 (h:d=r)=>absurd h hd) (λa0 a1 a2 a3 (h:d=r)=>absurd h hd) (λa0 a1 (h:d=r)=>absurd h hd) (λa0 a1 a2 (h:d=r)=>absurd h hd) (λa0 a1 a2 (h:d=r)=>absurd h hd) (λa0 a1 a2 (h:d=r)=>absurd h hd) (λa0 a1 (h:d=r)=>absurd h hd) (λa0 a1 (h:d=r)=>absurd h hd) (λa0 a1 (h:d=r)=>absurd h hd) (λts u p (h:k ts u p=r)=>f ts u p h) (λa0 a1 a2 a3 (h:d=r)=>absurd h hd) h
noncomputable def cintK{β:Type}(d:β)(e:Const)(k:Int→β):β:=@Const.casesOn (λ_=>β) e d (λa0=>d) (λi=>k i) (λa0=>d) (λa0 a1=>d) (λa0=>d) (λa0=>d) d
@[elab_as_elim] theorem cintE {P:Const→Prop} {β:Type} {d r:β} {e:Const} {k:Int→β} (h:cintK d e k=r) (hd:d≠r) (f:∀i,k i=r→P (.int i)):P e:=@Const.casesOn (λe=>cintK d e k=r→P e) e (λ(h:d=r)=>absurd h hd) (λa0 (h:d=r)=>absurd h hd) (λi (h:k i=r)=>f i h) (λa0 (h:d=r)=>absurd h hd) (λa0 a1 (h:d=r)=>absurd h hd) (λa0 (h:d=r)=>absurd h hd) (λa0 (h:d=r)=>absurd h hd) (λ(h:d=r)=>absurd h hd) h
noncomputable def pintK{β:Type}(d:β)(e:PV)(k:Int→β):β:=@PV.rec (λ_=>β) (λ_=>PUnit) d (λa0=>d) (λi=>k i) (λa0=>d) (λa0 _=>d) (λa0=>d) (λa0=>d) (λa0 a1 _ _=>d) (λa0 a1 a2 a3 a4 _=>d) (λa0=>d) ⟨⟩ (λ_ _ _ _=>⟨⟩) e
@[elab_as_elim] theorem pintE {P:PV→Prop} {β:Type} {d r:β} {e:PV} {k:Int→β} (h:pintK d e k=r) (hd:d≠r) (f:∀i,k i=r→P (.int i)):P e:=@PV.casesOn (λe=>pintK d e k=r→P e) e (λ(h:d=r)=>absurd h hd) (λa0 (h:d=r)=>absurd h hd) (λi (h:k i=r)=>f i h) (λa0 (h:d=r)=>absurd h hd) (λa0 (h:d=r)=>absurd h hd) (λa0 (h:d=r)=>absurd h hd) (λa0 (h:d=r)=>absurd h hd) (λa0 a1 (h:d=r)=>absurd h hd) (λa0 a1 a2 a3 a4 (h:d=r)=>absurd h hd) (λa0 (h:d=r)=>absurd h hd) h
noncomputable def pboolK{β:Type}(d:β)(e:PV)(k:Bool→β):β:=@PV.rec (λ_=>β) (λ_=>PUnit) d (λi=>k i) (λa0=>d) (λa0=>d) (λa0 _=>d) (λa0=>d) (λa0=>d) (λa0 a1 _ _=>d) (λa0 a1 a2 a3 a4 _=>d) (λa0=>d) ⟨⟩ (λ_ _ _ _=>⟨⟩) e
@[elab_as_elim] theorem pboolE {P:PV→Prop} {β:Type} {d r:β} {e:PV} {k:Bool→β} (h:pboolK d e k=r) (hd:d≠r) (f:∀i,k i=r→P (.bool i)):P e:=@PV.casesOn (λe=>pboolK d e k=r→P e) e (λ(h:d=r)=>absurd h hd) (λi (h:k i=r)=>f i h) (λa0 (h:d=r)=>absurd h hd) (λa0 (h:d=r)=>absurd h hd) (λa0 (h:d=r)=>absurd h hd) (λa0 (h:d=r)=>absurd h hd) (λa0 (h:d=r)=>absurd h hd) (λa0 a1 (h:d=r)=>absurd h hd) (λa0 a1 a2 a3 a4 (h:d=r)=>absurd h hd) (λa0 (h:d=r)=>absurd h hd) h
noncomputable def pstrK{β:Type}(d:β)(e:PV)(k:List Nat→β):β:=@PV.rec (λ_=>β) (λ_=>PUnit) d (λa0=>d) (λa0=>d) (λr0=>k r0) (λa0 _=>d) (λa0=>d) (λa0=>d) (λa0 a1 _ _=>d) (λa0 a1 a2 a3 a4 _=>d) (λa0=>d) ⟨⟩ (λ_ _ _ _=>⟨⟩) e
@[elab_as_elim] theorem pstrE {P:PV→Prop} {β:Type} {d r:β} {e:PV} {k:List Nat→β} (h:pstrK d e k=r) (hd:d≠r) (f:∀r0,k r0=r→P (.str r0)):P e:=@PV.casesOn (λe=>pstrK d e k=r→P e) e (λ(h:d=r)=>absurd h hd) (λa0 (h:d=r)=>absurd h hd) (λa0 (h:d=r)=>absurd h hd) (λr0 (h:k r0=r)=>f r0 h) (λa0 (h:d=r)=>absurd h hd) (λa0 (h:d=r)=>absurd h hd) (λa0 (h:d=r)=>absurd h hd) (λa0 a1 (h:d=r)=>absurd h hd) (λa0 a1 a2 a3 a4 (h:d=r)=>absurd h hd) (λa0 (h:d=r)=>absurd h hd) h
noncomputable def ptupK{β:Type}(d:β)(e:PV)(k:List PV→β):β:=@PV.rec (λ_=>β) (λ_=>PUnit) d (λa0=>d) (λa0=>d) (λa0=>d) (λxs _=>k xs) (λa0=>d) (λa0=>d) (λa0 a1 _ _=>d) (λa0 a1 a2 a3 a4 _=>d) (λa0=>d) ⟨⟩ (λ_ _ _ _=>⟨⟩) e
@[elab_as_elim] theorem ptupE {P:PV→Prop} {β:Type} {d r:β} {e:PV} {k:List PV→β} (h:ptupK d e k=r) (hd:d≠r) (f:∀xs,k xs=r→P (.tup xs)):P e:=@PV.casesOn (λe=>ptupK d e k=r→P e) e (λ(h:d=r)=>absurd h hd) (λa0 (h:d=r)=>absurd h hd) (λa0 (h:d=r)=>absurd h hd) (λa0 (h:d=r)=>absurd h hd) (λxs (h:k xs=r)=>f xs h) (λa0 (h:d=r)=>absurd h hd) (λa0 (h:d=r)=>absurd h hd) (λa0 a1 (h:d=r)=>absurd h hd) (λa0 a1 a2 a3 a4 (h:d=r)=>absurd h hd) (λa0 (h:d=r)=>absurd h hd) h
noncomputable def plstK{β:Type}(d:β)(e:PV)(k:Nat→β):β:=@PV.rec (λ_=>β) (λ_=>PUnit) d (λa0=>d) (λa0=>d) (λa0=>d) (λa0 _=>d) (λi=>k i) (λa0=>d) (λa0 a1 _ _=>d) (λa0 a1 a2 a3 a4 _=>d) (λa0=>d) ⟨⟩ (λ_ _ _ _=>⟨⟩) e
@[elab_as_elim] theorem plstE {P:PV→Prop} {β:Type} {d r:β} {e:PV} {k:Nat→β} (h:plstK d e k=r) (hd:d≠r) (f:∀i,k i=r→P (.lst i)):P e:=@PV.casesOn (λe=>plstK d e k=r→P e) e (λ(h:d=r)=>absurd h hd) (λa0 (h:d=r)=>absurd h hd) (λa0 (h:d=r)=>absurd h hd) (λa0 (h:d=r)=>absurd h hd) (λa0 (h:d=r)=>absurd h hd) (λi (h:k i=r)=>f i h) (λa0 (h:d=r)=>absurd h hd) (λa0 a1 (h:d=r)=>absurd h hd) (λa0 a1 a2 a3 a4 (h:d=r)=>absurd h hd) (λa0 (h:d=r)=>absurd h hd) h
noncomputable def poldK{β:Type}(d:β)(e:PV)(k:Nat→β):β:=@PV.rec (λ_=>β) (λ_=>PUnit) d (λa0=>d) (λa0=>d) (λa0=>d) (λa0 _=>d) (λa0=>d) (λa=>k a) (λa0 a1 _ _=>d) (λa0 a1 a2 a3 a4 _=>d) (λa0=>d) ⟨⟩ (λ_ _ _ _=>⟨⟩) e
@[elab_as_elim] theorem poldE {P:PV→Prop} {β:Type} {d r:β} {e:PV} {k:Nat→β} (h:poldK d e k=r) (hd:d≠r) (f:∀a,k a=r→P (.old a)):P e:=@PV.casesOn (λe=>poldK d e k=r→P e) e (λ(h:d=r)=>absurd h hd) (λa0 (h:d=r)=>absurd h hd) (λa0 (h:d=r)=>absurd h hd) (λa0 (h:d=r)=>absurd h hd) (λa0 (h:d=r)=>absurd h hd) (λa0 (h:d=r)=>absurd h hd) (λa (h:k a=r)=>f a h) (λa0 a1 (h:d=r)=>absurd h hd) (λa0 a1 a2 a3 a4 (h:d=r)=>absurd h hd) (λa0 (h:d=r)=>absurd h hd) h
noncomputable def pholeK{β:Type}(d:β)(e:PV)(k:Nat→β):β:=@PV.rec (λ_=>β) (λ_=>PUnit) d (λa0=>d) (λa0=>d) (λa0=>d) (λa0 _=>d) (λa0=>d) (λa0=>d) (λa0 a1 _ _=>d) (λa0 a1 a2 a3 a4 _=>d) (λi=>k i) ⟨⟩ (λ_ _ _ _=>⟨⟩) e
@[elab_as_elim] theorem pholeE {P:PV→Prop} {β:Type} {d r:β} {e:PV} {k:Nat→β} (h:pholeK d e k=r) (hd:d≠r) (f:∀i,k i=r→P (.hole i)):P e:=@PV.casesOn (λe=>pholeK d e k=r→P e) e (λ(h:d=r)=>absurd h hd) (λa0 (h:d=r)=>absurd h hd) (λa0 (h:d=r)=>absurd h hd) (λa0 (h:d=r)=>absurd h hd) (λa0 (h:d=r)=>absurd h hd) (λa0 (h:d=r)=>absurd h hd) (λa0 (h:d=r)=>absurd h hd) (λa0 a1 (h:d=r)=>absurd h hd) (λa0 a1 a2 a3 a4 (h:d=r)=>absurd h hd) (λi (h:k i=r)=>f i h) h
noncomputable def ptrueK{β:Type}(d:β)(e:PV)(k:β):β:=@PV.rec (λ_=>β) (λ_=>PUnit) d (λb=>@Bool.casesOn (λ_=>β) b d k) (λa0=>d) (λa0=>d) (λa0 _=>d) (λa0=>d) (λa0=>d) (λa0 a1 _ _=>d) (λa0 a1 a2 a3 a4 _=>d) (λa0=>d) ⟨⟩ (λ_ _ _ _=>⟨⟩) e
@[elab_as_elim] theorem ptrueE {P:PV→Prop} {β:Type} {d r:β} {e:PV} {k:β} (h:ptrueK d e k=r) (hd:d≠r) (f:k=r→P (.bool true)):P e:=@PV.casesOn (λe=>ptrueK d e k=r→P e) e (λ(h:d=r)=>absurd h hd) (λb=>@Bool.casesOn (λb=>ptrueK d (.bool b) k=r→P (.bool b)) b (λ(h:d=r)=>absurd h hd) (λ(h:k=r)=>f h)) (λa0 (h:d=r)=>absurd h hd) (λa0 (h:d=r)=>absurd h hd) (λa0 (h:d=r)=>absurd h hd) (λa0 (h:d=r)=>absurd h hd) (λa0 (h:d=r)=>absurd h hd) (λa0 a1 (h:d=r)=>absurd h hd) (λa0 a1 a2 a3 a4 (h:d=r)=>absurd h hd) (λa0 (h:d=r)=>absurd h hd) h
noncomputable def nilP{β:Type}(d:β)(e:PV)(k:β):β:=@PV.rec (λ_=>β) (λ_=>PUnit) k (λa0=>d) (λa0=>d) (λa0=>d) (λa0 _=>d) (λa0=>d) (λa0=>d) (λa0 a1 _ _=>d) (λa0 a1 a2 a3 a4 _=>d) (λa0=>d) ⟨⟩ (λ_ _ _ _=>⟨⟩) e
@[elab_as_elim] theorem nilPE {P:PV→Prop} {β:Type} {d r:β} {e:PV} {k:β} (h:nilP d e k=r) (hd:d≠r) (f:k=r→P .none):P e:=@PV.casesOn (λe=>nilP d e k=r→P e) e (λ(h:k=r)=>f h) (λa0 (h:d=r)=>absurd h hd) (λa0 (h:d=r)=>absurd h hd) (λa0 (h:d=r)=>absurd h hd) (λa0 (h:d=r)=>absurd h hd) (λa0 (h:d=r)=>absurd h hd) (λa0 (h:d=r)=>absurd h hd) (λa0 a1 (h:d=r)=>absurd h hd) (λa0 a1 a2 a3 a4 (h:d=r)=>absurd h hd) (λa0 (h:d=r)=>absurd h hd) h
noncomputable def nilK{α β:Type}(d:β)(l:List α)(k:β):β:=@List.rec α (λ_=>β) k (λ_ _ _=>d) l
@[elab_as_elim] theorem nilE {α β:Type} {P:List α→Prop} {d r:β} {l:List α} {k:β} (h:nilK d l k=r) (hd:d≠r) (f:k=r→P []):P l:=by
 cases l with
 |nil=>exact f h
 |cons=>exact absurd h hd
noncomputable def intK{β:Type}(d:β)(e:Expr)(k:Int→Nat→Pos→β):β:=constK d e λc u p=>cintK d c λi=>k i u p
@[elab_as_elim] theorem intE {P:Expr→Prop} {β:Type} {d r:β} {e:Expr} {k:Int→Nat→Pos→β} (h:intK d e k=r) (hd:d≠r) (f:∀i u p,k i u p=r→P (.Constant (.int i) u p)):P e:=
 constE h hd λzz u p h=>cintE (P:=λc=>P (.Constant c u p)) h hd λi h=>f i u p h
noncomputable def isAdd(o:Operator):Bool:=@Operator.casesOn (λ_=>Bool) o true false false false false false false false false false false false false
theorem isAdd_eq{o:Operator}(h:isAdd o=true):o=.Add:=by
 cases o with
 |Add=>rfl
 |_=>exact absF h
noncomputable def eqL(a:List Nat):List Nat→Bool:=@List.rec Nat (λ_=>List Nat→Bool) (λb=>nilK false b true) (λx _ ih b=>consK false b λy s=>Nat.beq x y&&ih s) a
noncomputable def eqS(a b:Str):Bool:=eqL a.cps.toList b.cps.toList
noncomputable def bI{α:Type}(b:Bool)(x y:α):α:=@Bool.rec (λ_=>α) y x b
theorem bI_eq{α:Type}{b:Bool}{x y:α}:bI b x y=if b then x else y:=by cases b <;> rfl
noncomputable def lk0{α:Type}(x:Str)(l:List (Str×α)):Option α:=@List.rec (Str×α) (λ_=>Option α) none (λe _ ih=>@Prod.rec Str α (λ_=>Option α) (λy v=>@Bool.rec (λ_=>Option α) ih (some v) (eqS x y)) e) l
noncomputable def lk{α:Type}(x:Str)(l:List (Str×α)):Option α:=@List.rec (Str×α) (λ_=>Option α) none (λe r _=>lk0 x (e::r)) l
noncomputable def put{α:Type}(x:Str)(v:α)(l:List (Str×α)):List (Str×α):=@List.rec (Str×α) (λ_=>List (Str×α)) [(x,v)] (λe r ih=>@Prod.rec Str α (λ_=>List (Str×α)) (λy u=>@Bool.rec (λ_=>List (Str×α)) ((y,u)::ih) ((x,v)::r) (eqS x y)) e) l
noncomputable def gt{α:Type}(l:List α):Nat→Option α:=@List.rec α (λ_=>Nat→Option α) (λ_=>none) (λa _ ih i=>@Nat.rec (λ_=>Option α) (some a) (λn _=>ih n) i) l
theorem gt_eq{α:Type}:∀{l:List α} {i:Nat},gt l i=l[i]?
 | [],_=>rfl
 |_::_,0=>rfl
 |_::r,n+1=>gt_eq (l:=r) (i:=n)
theorem gtS{α:Type}{l:List α}{i:Nat}{z:Option α}(h:gt l i=z):l[i]?=z:=gt_eq.symm.trans h
theorem lk0_eq{α:Type}{x:Str}:∀{l:List (Str×α)},lk0 x l=lk x l
 | []=>rfl
 |_::_=>rfl
theorem lk_c{α:Type}{x y:Str}{v:α}{r:List (Str×α)}:lk x ((y,v)::r)=if eqS x y then some v else lk x r:=
 (bI_eq (x:=some v) (y:=lk0 x r)).trans (congrArg (λz=>if eqS x y then some v else z) lk0_eq)
theorem put_c{α:Type}{x y:Str}{v u:α}{r:List (Str×α)}:put x v ((y,u)::r)=if eqS x y then(x,v)::r else(y,u)::put x v r:=
 bI_eq (x:=(x,v)::r) (y:=(y,u)::put x v r)
theorem put_n{α:Type}{x:Str}{v:α}:put x v []=[(x,v)]:=rfl
theorem lk_n{α:Type}{x:Str}:lk x ([]:List (Str×α))=none:=rfl
structure Fr where
 scope:Scope
 vars:List (Str×PV)
 up:List (Str×PV)
 lam:Bool
 q:Bool
noncomputable def symB:Nat:=1114112
noncomputable def isLit(c:Nat):Bool:=Nat.blt c symB
noncomputable def litR(r:List Nat):Bool:=r.all isLit
noncomputable def strCut(r:List Nat)(l u:Option Int):List Nat:=
 let is:=Builtin.Str.strSliceIndices l u 1 r.length
 if is.length==r.length then r else is.filterMap (r[·]?)
noncomputable def keyL:List (List Nat):=[[115,105,122,101],[110,111,116,32,115,105,122,101],[111,118,101,114],[110,111,116,32,111,118,101,114],[101,110,100],[110,111,116,32,101,110,100],[105,110,118,97,108,105,100],[110,111,116,32,105,110,118,97,108,105,100],[102,97,117,108,116],[110,111,116,32,102,97,117,108,116]]
noncomputable def keyT(k:Nat):List Nat:=keyL.getD k []
noncomputable def KL:List (List Nat):=[[0,1],[2,3],[4],[4,5,6,7],[6,7],[4,5],[8,9]]
noncomputable def kyCl(i:Nat):List (List Nat):=(KL.getD (i/3) []).map keyT
noncomputable def whenL:List Nat:=[119,104,101,110,32]
noncomputable def cut5(r:List Nat):List Nat:=strCut r none (some 5)
noncomputable def kySy(b n:Nat)(r:List Nat):Bool:=oneK false r λc=>Nat.ble (symB+b) c&&Nat.blt c (symB+b+n)
noncomputable def kyIn(a b:List Nat):Bool:=oneK false a λc=>Nat.ble (symB+64) c&&Nat.blt c (symB+64+24)&&(kyCl (c-(symB+64))).any (eqL b)
noncomputable def kyNe(a b:List Nat):Bool:=litR b&&((kySy 64 24 a&&eqL (cut5 b) whenL)||(kyIn a b||(kySy 164 24 a&&eqL b whenL)))
noncomputable def KyOK(θ:Nat→List Nat):Prop:=∀i,i<24→(∀w∈kyCl i,θ (64+i)≠w)∧θ (164+i)=cut5 (θ (64+i))∧θ (164+i)≠whenL
noncomputable def ropeEq(a b:List Nat):Option Bool:=
 if eqL a b then some true
 else if litR a&&litR b then some false
 else if a.isEmpty||b.isEmpty then some false
 else if kyNe a b||kyNe b a then some false
 else none
noncomputable def pvEqs(eq:PV→PV→Option Bool):List PV→List PV→Option Bool
 | [],ys=>@List.casesOn PV (λ_=>Option Bool) ys (some true) λ_ _=>some false
 |a::r,ys=>consK (some false) ys λb s=>ifS none (eq a b) λx=>ifS none (pvEqs eq r s) λy=>some (x&&y)
noncomputable def pvEqB(σ:Sto)(eq:PV→PV→Option Bool)(a b:PV):Option Bool:=@PV.rec (λ_=>Option Bool) (λ_=>PUnit) (nilP none b (some true)) (λx=>pboolK none b λy=>some (x==y)) (λx=>pintK none b λy=>some (x==y)) (λx=>pstrK none b λy=>ropeEq x y) (λxs _=>ptupK none b λys=>pvEqs eq xs ys) (λi=>plstK none b λj=>ifS none (gt σ i) λxs=>ifS none (gt σ j) λys=>pvEqs eq xs ys) (λa0=>none) (λa0 a1 _ _=>none) (λa0 a1 a2 a3 a4 _=>none) (λh=>if Nat.ble 1000 h&&Nat.blt h 1128 then pstrK none b λ_=>some false else none) ⟨⟩ (λ_ _ _ _=>⟨⟩) a
noncomputable def pvEq(σ:Sto):Nat→PV→PV→Option Bool
 |0,_,_=>none
 |n+1,a,b=>pvEqB σ (pvEq σ n) a b
noncomputable def seqD(e:Data):Option (Array Value×Nat):=@Data.casesOn (λ_=>Option (Array Value×Nat)) e none (λa0=>none) (λa n=>some (a,n)) (λa0 a1=>none) (λa0 a1 a2=>none) (λa0 a1=>none) (λa0=>none) (λa0=>none) (λa0=>none) (λa0=>none) none
theorem seqD_eq{e:Data}{z:(Array Value×Nat)}(h:seqD e=some z):e=.seq z.1 z.2:=@Data.casesOn (λe=>seqD e=some z→e=.seq z.1 z.2) e (λ(h:none=some z)=>absN h) (λa0 (h:none=some z)=>absN h) (λa n (h:some (a,n)=some z)=>vC h▸rfl) (λa0 a1 (h:none=some z)=>absN h) (λa0 a1 a2 (h:none=some z)=>absN h) (λa0 a1 (h:none=some z)=>absN h) (λa0 (h:none=some z)=>absN h) (λa0 (h:none=some z)=>absN h) (λa0 (h:none=some z)=>absN h) (λa0 (h:none=some z)=>absN h) (λ(h:none=some z)=>absN h) h
noncomputable def fieldsD(e:Data):Option (Array Value):=@Data.casesOn (λ_=>Option (Array Value)) e none (λa0=>none) (λa0 a1=>none) (λa0 a1=>none) (λa0 a1 a2=>none) (λa0 a1=>none) (λa0=>none) (λa0=>none) (λa0=>none) (λa=>some a) none
theorem fieldsD_eq{e:Data}{z:(Array Value)}(h:fieldsD e=some z):e=.fields z:=@Data.casesOn (λe=>fieldsD e=some z→e=.fields z) e (λ(h:none=some z)=>absN h) (λa0 (h:none=some z)=>absN h) (λa0 a1 (h:none=some z)=>absN h) (λa0 a1 (h:none=some z)=>absN h) (λa0 a1 a2 (h:none=some z)=>absN h) (λa0 a1 (h:none=some z)=>absN h) (λa0 (h:none=some z)=>absN h) (λa0 (h:none=some z)=>absN h) (λa0 (h:none=some z)=>absN h) (λa (h:some a=some z)=>vC h▸rfl) (λ(h:none=some z)=>absN h) h
noncomputable def funD(e:Data):Option FuncData:=@Data.casesOn (λ_=>Option FuncData) e none (λa0=>none) (λa0 a1=>none) (λa0 a1=>none) (λa0 a1 a2=>none) (λa0 a1=>none) (λa0=>none) (λa=>some a) (λa0=>none) (λa0=>none) none
theorem funD_eq{e:Data}{z:FuncData}(h:funD e=some z):e=.func z:=@Data.casesOn (λe=>funD e=some z→e=.func z) e (λ(h:none=some z)=>absN h) (λa0 (h:none=some z)=>absN h) (λa0 a1 (h:none=some z)=>absN h) (λa0 a1 (h:none=some z)=>absN h) (λa0 a1 a2 (h:none=some z)=>absN h) (λa0 a1 (h:none=some z)=>absN h) (λa0 (h:none=some z)=>absN h) (λa (h:some a=some z)=>vC h▸rfl) (λa0 (h:none=some z)=>absN h) (λa0 (h:none=some z)=>absN h) (λ(h:none=some z)=>absN h) h
noncomputable def fieldsV(o:Obj):Option (Array Value):=fieldsD o.data
noncomputable def seqV(o:Obj):Option (Array Value×Nat):=seqD o.data
noncomputable def funV(o:Obj):Option FuncData:=funD o.data
theorem seqV_eq{o:Obj}{z:Array Value×Nat}(h:seqV o=some z):o.data=.seq z.1 z.2:=seqD_eq h
theorem fieldsV_eq{o:Obj}{vs:Array Value}(h:fieldsV o=some vs):o.data=.fields vs:=fieldsD_eq h
theorem funV_eq{o:Obj}{fd:FuncData}(h:funV o=some fd):∃c z sl,o=⟨c,z,.func fd,sl⟩:=⟨o.cls,o.dict,o.slots,(funD_eq h:o.data=.func fd)▸rfl⟩
noncomputable def stmtsV(e:FuncBody):Option (List Stmt):=@FuncBody.casesOn (λ_=>Option (List Stmt)) e (λa=>some a) (λa0=>none)
theorem stmtsV_eq{e:FuncBody}{z:(List Stmt)}(h:stmtsV e=some z):e=.stmts z:=@FuncBody.casesOn (λe=>stmtsV e=some z→e=.stmts z) e (λa (h:some a=some z)=>vC h▸rfl) (λa0 (h:none=some z)=>absN h) h
noncomputable def refV(e:Value):Option Addr:=@Value.casesOn (λ_=>Option Addr) e none none none (λa0=>none) (λa0 a1=>none) (λa0 a1=>none) (λa0 a1=>none) (λa0 a1=>none) (λa0=>none) (λa0=>none) (λa=>some a)
theorem refV_eq{e:Value}{z:Addr}(h:refV e=some z):e=.ref z:=@Value.casesOn (λe=>refV e=some z→e=.ref z) e (λ(h:none=some z)=>absN h) (λ(h:none=some z)=>absN h) (λ(h:none=some z)=>absN h) (λa0 (h:none=some z)=>absN h) (λa0 a1 (h:none=some z)=>absN h) (λa0 a1 (h:none=some z)=>absN h) (λa0 a1 (h:none=some z)=>absN h) (λa0 a1 (h:none=some z)=>absN h) (λa0 (h:none=some z)=>absN h) (λa0 (h:none=some z)=>absN h) (λa (h:some a=some z)=>vC h▸rfl) h
noncomputable def vstrV(e:Value):Option (Str×Tok):=@Value.casesOn (λ_=>Option (Str×Tok)) e none none none (λa0=>none) (λa0 a1=>none) (λa0 a1=>none) (λa n=>some (a,n)) (λa0 a1=>none) (λa0=>none) (λa0=>none) (λa0=>none)
theorem vstrV_eq{e:Value}{z:(Str×Tok)}(h:vstrV e=some z):e=.str z.1 z.2:=@Value.casesOn (λe=>vstrV e=some z→e=.str z.1 z.2) e (λ(h:none=some z)=>absN h) (λ(h:none=some z)=>absN h) (λ(h:none=some z)=>absN h) (λa0 (h:none=some z)=>absN h) (λa0 a1 (h:none=some z)=>absN h) (λa0 a1 (h:none=some z)=>absN h) (λa n (h:some (a,n)=some z)=>vC h▸rfl) (λa0 a1 (h:none=some z)=>absN h) (λa0 (h:none=some z)=>absN h) (λa0 (h:none=some z)=>absN h) (λa0 (h:none=some z)=>absN h) h
noncomputable def isFunK(k:ScopeKind):Bool:=@ScopeKind.casesOn (λ_=>Bool) k false true false false false false false
noncomputable def isFun(sc:Scope):Bool:=isFunK sc.kind
noncomputable def okL{α:Type}(xs:List α):Bool:=Nat.ble xs.length 4000
noncomputable def truthP(σ:Sto)(e:PV):Option Bool:=@PV.rec (λ_=>Option Bool) (λ_=>PUnit) none (λb=>some b) (λa0=>none) (λa0=>none) (λa0 _=>none) (λi=>ifS none (gt σ i) λxs=>if okL xs then some (!xs.isEmpty)else none) (λa0=>none) (λa0 a1 _ _=>none) (λa0 a1 a2 a3 a4 _=>none) (λa0=>none) ⟨⟩ (λ_ _ _ _=>⟨⟩) e
noncomputable def dictD(e:Data):Option (Array DictEntry×Nat):=@Data.casesOn (λ_=>Option (Array DictEntry×Nat)) e none (λa0=>none) (λa0 a1=>none) (λa n=>some (a,n)) (λa0 a1 a2=>none) (λa0 a1=>none) (λa0=>none) (λa0=>none) (λa0=>none) (λa0=>none) none
noncomputable def kl0(a:Addr)(K:Frag):Option Obj:=@List.rec (Addr×Obj) (λ_=>Option Obj) none (λe _ ih=>@Prod.rec Addr Obj (λ_=>Option Obj) (λb o=>@Bool.rec (λ_=>Option Obj) ih (some o) (Nat.beq a b)) e) K
noncomputable def kl(K:Frag)(a:Addr):Option Obj:=@List.rec (Addr×Obj) (λ_=>Option Obj) none (λe r _=>kl0 a (e::r)) K
theorem kl0_eq{a:Addr}:∀{K:Frag},kl0 a K=K.lookup a
 | []=>rfl
 |(b,o)::r=>by
  refine(bI_eq (b:=Nat.beq a b) (x:=some o) (y:=kl0 a r)).trans (rwG (kl0_eq (K:=r)) (rwG List.lookup_cons ?_))
  by_cases h:a=b
  ·subst h;rw[if_pos (Nat.beq_refl a),beq_self_eq_true a]
  ·rw[if_neg λe=>h (vB e),beq_eq_false_iff_ne.mpr h]
theorem kl_eq{K:Frag}{a:Addr}:kl K a=K.lookup a:=by
 cases K with
 |nil=>rfl
 |cons b r=>exact kl0_eq (a:=a) (K:=b::r)
theorem klS{K:Frag}{a:Addr}{z:Option Obj}(h:kl K a=z):K.lookup a=z:=kl_eq.symm.trans h
noncomputable def nsK(K:Frag)(x:Str):Option Value:=ifS none (kl K mainGlobals) λo=>ifS none (dictD o.data) λes=>(es.1.toList.find? λe=>match e.key with|.str s _=>eqS s x|_=>false).map (·.val)
noncomputable def ofVs(f:Value→Option PV):List Value→Option (List PV)
 | []=>some []
 |v::r=>ifS none (f v) λp=>ifS none (ofVs f r) λps=>some (p::ps)
noncomputable def seqO(o:Obj):Option (Array Value×Nat):=if o.dict.isNone&&o.slots.toList.isEmpty then seqV o else none
theorem seqO_eq{o:Obj}{z:Array Value×Nat}(h:seqO o=some z):o = { cls:=o.cls,data:=.seq z.1 z.2 }:=by
 refine ifB h nS λh1 h=>band2 h1 λh1 h2=>?_
 obtain⟨c,d,dt,⟨sl⟩⟩:=o
 have h3:dt=_:=seqV_eq h
 have h4:sl=[]:=List.isEmpty_iff.mp h2
 have h5:d=none:=Option.isNone_iff_eq_none.mp h1
 rw[h3,h4,h5]
noncomputable def ofV(K:Frag):Nat→Value→Option PV
 |0,_=>none
 |n+1,v=>@Value.casesOn (λ_=>Option PV) v (some .none) none none (λb=>some (.bool b)) (λi a1=>some (.int i)) (λa0 a1=>none) (λs a1=>if litR s.cps.toList then some (.str s.cps.toList)else none) (λa0 a1=>none) (λa0=>none) (λa0=>none) (λa=>ifS none (kl K a) λo=>@Option.casesOn _ (λ_=>Option PV) (seqO o) (some (.old a)) λz=>if o.cls == .type "tuple"then ifS none (ofVs (ofV K n) z.1.toList) λps=>some (.tup ps)else none)
noncomputable def mkR(r:List Nat)(k:List Nat→Bool):Bool:=if okL r then k r else false
noncomputable def mkL{α:Type}(r:List α)(k:List α→Bool):Bool:=if okL r then k r else false
noncomputable def repL{α:Type}(r:List α):Nat→List α
 |0=>[]
 |n+1=>r++repL r n
theorem repL_c{α:Type}{r:List α}{n:Nat}:repL r (n+1)=r++repL r n:=rfl
noncomputable def smallF(x:Int):Bool:=Nat.blt x.natAbs 18446744073709551616
noncomputable def posI(y:Int):Bool:=decide (0<y)
noncomputable def smallP(y:Int):Bool:=posI y&&Nat.blt y.natAbs 1073741824
noncomputable def nonNegM(y:Int):Bool:=decide (0≤y)&&decide (y≤1000000)
noncomputable def arI(a b:PV)(k:Int→Int→Bool):Bool:=pintK false a λx=>pintK false b λy=>k x y
noncomputable def few(n:Int):Bool:=decide (0≤n)&&Nat.ble n.toNat 16
noncomputable def mulP(a b:PV)(σ:Sto)(k:KV):Bool:=match a with
 |.str x=>pintK false b λn=>if few n&&Nat.ble x.length 200 then mkR (repL x n.toNat) λr=>k (.str r) σ else false
 |.tup xs=>pintK false b λn=>if few n&&Nat.ble xs.length 200 then mkL (repL xs n.toNat) λzs=>k (.tup zs) σ else false
 |.lst i=>pintK false b λn=>ifS false (gt σ i) λxs=>if few n&&Nat.ble xs.length 200 then mkL (repL xs n.toNat) λzs=>k (.lst σ.length) (σ++[zs])else false
 |_=>arI a b λx y=>if smallF x||smallF y then k (.int (x*y)) σ else false
noncomputable def binP(op:Operator)(a b:PV)(σ:Sto)(k:KV):Bool:=@Operator.casesOn (λ_=>Bool) op ((match a with
  |.str x=>pstrK false b λy=>mkR (x++y) λr=>k (.str r) σ
  |.int x=>pintK false b λy=>k (.int (x+y)) σ
  |.lst i=>plstK false b λj=>ifS false (gt σ i) λxs=>ifS false (gt σ j) λys=>mkL (xs++ys) λzs=>k (.lst σ.length) (σ++[zs])
  |.tup xs=>ptupK false b λys=>mkL (xs++ys) λzs=>k (.tup zs) σ
  |_=>false)) false (mulP a b σ k) false false (arI a b λx y=>if posI y then k (.int (x.fmod y)) σ else false) (arI a b λx y=>if smallF x&&nonNegM y then k (.int (x ^ y.toNat)) σ else false) false false false false false (arI a b λx y=>if smallP y then k (.int (x.fdiv y)) σ else false)
noncomputable def inP(r:List Nat):List PV→Option Bool
 | []=>some false
 |p::rest=>pstrK none p λy=>ifS none (ropeEq y r) λx=>ifS none (inP r rest) λz=>some (x||z)
structure Top where
 K:Frag
 D:List Nat
 sh:Nat
noncomputable def memN(a:Nat)(l:List Nat):Bool:=l.any (Nat.beq a)
noncomputable def dictOfK(T:Top)(a:Nat):Option (List DictEntry):=if memN a T.D then(ifS none (kl T.K a) λo=>ifS none (dictD o.data) λes=>some es.1.toList)else none
noncomputable def keyIs(p:PV)(k:Value):Option Bool:=match p,k with
 |.str r,.str s _=>if litR r then some (eqL r s.cps.toList)else none
 |.int i,.int j _=>some (i==j)
 |_,_=>none
noncomputable def findK(p:PV):List DictEntry→Option (Option Value)
 | []=>some none
 |e::r=>ifS none (keyIs p e.key) λb=>@Bool.casesOn (λ_=>Option (Option Value)) b (findK p r) (some (some e.val))
noncomputable def findD(σ:Sto)(p:PV):List PV→List PV→Option (Option PV)
 | [],vs=>nilK none vs (some none)
 |k::ks,vs=>consK none vs λv ws=>ifS none (pvEq σ 4 k p) λt=>@Bool.casesOn (λ_=>Option (Option PV)) t (findD σ p ks ws) (some (some v))
noncomputable def hashable1(e:PV):Bool:=@PV.rec (λ_=>Bool) (λ_=>PUnit) false (λa0=>false) (λa0=>true) (λr=>litR r) (λa0 _=>false) (λa0=>false) (λa0=>false) (λa0 a1 _ _=>false) (λa0 a1 a2 a3 a4 _=>false) (λa0=>false) ⟨⟩ (λ_ _ _ _=>⟨⟩) e
noncomputable def dictGet(T:Top)(σ:Sto)(d p:PV):Option (Option PV):=if hashable1 p then(match d with
  |.old a=>ifS none (dictOfK T a) λes=>ifS none (findK p es) λz=>(match z with
    |some v=>ifS none (ofV T.K 8 v) λq=>some (some q)
    |none=>some none)
  |.dct ks vs=>findD σ p ks vs
  |_=>none)else none
noncomputable def ltP(a b:PV)(k:Int→Int→Bool):Option Bool:=pintK none a λx=>pintK none b λy=>some (k x y)
noncomputable def plainNo(e:PV):Option Bool:=@PV.rec (λ_=>Option Bool) (λ_=>PUnit) (some true) (λa0=>some false) (λa0=>some false) (λa0=>some false) (λa0 _=>some false) (λa0=>some false) (λa0=>some false) (λa0 a1 _ _=>some false) (λa0 a1 a2 a3 a4 _=>some false) (λa0=>none) ⟨⟩ (λ_ _ _ _=>⟨⟩) e
noncomputable def isNo(b a:PV)(f:Bool→Bool):Option Bool:=nilP none b (ifS none (plainNo a) λt=>some (f t))
noncomputable def cmpP(T:Top)(op:CmpOp)(a b:PV)(σ:Sto):Option Bool:=@CmpOp.casesOn (λ_=>Option Bool) op (pvEq σ 40 a b) (ifS none (pvEq σ 40 a b) λc=>some (!c)) (ltP a b λx y=>decide (x<y)) (ltP a b λx y=>decide (x≤y)) (ltP a b λx y=>decide (y<x)) none (isNo b a λt=>t) (isNo b a λt=>!t) (pstrK none a λr=>(match b with
  |.tup xs=>inP r xs
  |.lst i=>ifS none (gt σ i) λxs=>inP r xs
  |.old _=>ifS none (dictGet T σ b (.str r)) λz=>some z.isSome
  |_=>none)) (pstrK none a λr=>ptupK none b λxs=>ifS none (inP r xs) λz=>some (!z))
noncomputable def idxP(i:Int)(n:Nat):Option Nat:=
 let j:=if i<0 then i+n else i
 if 0≤j&&j<n then some j.toNat else none
noncomputable def pickP(xs:List PV)(i:PV):Option PV:=pintK none i λi=>if okL xs then(ifS none (idxP i xs.length) λj=>gt xs j)else none
noncomputable def keyP(T:Top)(σ:Sto)(o i:PV):Option PV:=pstrK none i λr=>ifS none (dictGet T σ o (.str r)) λz=>z
noncomputable def itemP(T:Top)(o i:PV)(σ:Sto):Option PV:=@PV.rec (λ_=>Option PV) (λ_=>PUnit) none (λa0=>none) (λa0=>none) (λa0=>none) (λxs _=>pickP xs i) (λl=>ifS none (gt σ l) λxs=>pickP xs i) (λa0=>keyP T σ o i) (λa0 a1 _ _=>keyP T σ o i) (λa0 a1 a2 a3 a4 _=>none) (λa0=>none) ⟨⟩ (λ_ _ _ _=>⟨⟩) o
noncomputable def partP(e:PV):Option (Option Int):=@PV.rec (λ_=>Option (Option Int)) (λ_=>PUnit) (some none) (λa0=>none) (λi=>some (some i)) (λa0=>none) (λa0 _=>none) (λa0=>none) (λa0=>none) (λa0 a1 _ _=>none) (λa0 a1 a2 a3 a4 _=>none) (λa0=>none) ⟨⟩ (λ_ _ _ _=>⟨⟩) e
noncomputable def slcS(r:List Nat)(l u:Option Int):Option (List Nat):=if litR r&&okL r then some (strCut r l u)else ifS none u λi=>if i==5&&l.isNone&&kySy 64 24 r then some (r.map (· + 100))else none
noncomputable def sliceR(o lo hi st:PV)(σ:Sto)(k:KV):Bool:=plstK false o λi=>nilP false lo (nilP false hi (pintK false st λz=>if z == -1 then ifS false (gt σ i) λxs=>mkL xs.reverse λzs=>k (.lst σ.length) (σ++[zs])else false))
noncomputable def isNoneP(e:PV):Bool:=nilP false e true
noncomputable def sliceP(o lo hi st:PV)(σ:Sto)(k:KV):Bool:=if !isNoneP st then sliceR o lo hi st σ k else nilP false st (match o with
  |.lst i=>pintK false lo λa=>nilP false hi (ifS false (gt σ i) λxs=>if okL xs&&decide (0≤a)then k (.lst σ.length) (σ++[xs.drop a.toNat])else false)
  |.tup xs=>pintK false lo λa=>nilP false hi (if okL xs&&decide (0≤a)&&Nat.ble a.toNat xs.length then k (.tup (xs.drop a.toNat)) σ else false)
  |.str r=>ifS false (partP lo) λl=>ifS false (partP hi) λh=>ifS false (slcS r l h) λz=>mkR z λx=>k (.str x) σ
  |_=>false)
set_option genCtorIdx true in
inductive Src where
 |tup (xs:List PV)
 |lst (i j:Nat)
 |rng (a:Int) (n:Nat)
 |zip (xs ys:List PV)
 |enum (i j:Nat)
 |zipl (i j m:Nat)
 |byt (l:List Nat)
noncomputable def Src.next(σ:Sto)(s:Src):Option (Option (PV×Src)):=@Src.casesOn (λ_=>Option (Option (PV×Src))) s
 (λxs=>consK (some none) xs λx r=>some (some (x,.tup r)))
 (λi j=>ifS none (gt σ i) λxs=>some ((gt xs j).map λx=>(x,.lst i (j+1))))
 (λa n=>@Nat.casesOn (λ_=>Option (Option (PV×Src))) n (some none) λn=>some (some (.int a,.rng (a+1) n)))
 (λxs ys=>consK (some none) xs λp xs=>consK (some none) ys λq ys=>some (some (.tup [p,q],.zip xs ys)))
 (λi j=>ifS none (gt σ i) λxs=>some ((gt xs j).map λx=>(.tup [.int (j:Int),x],.enum i (j+1))))
 (λi j m=>ifS none (gt σ i) λxs=>ifS none (gt σ j) λys=>some ((gt xs m).bind λx=>(gt ys m).map λy=>(.tup [x,y],.zipl i j (m+1))))
 (λl=>consK (some none) l λc r=>some (some (.int (c:Int),.byt r)))
noncomputable def bytP(h:Nat):Option (List Nat):=if Nat.ble 1000 h&&Nat.blt h 1128 then some [h-1000]else none
noncomputable def srcOf(σ:Sto)(e:PV):Option Src:=@PV.rec (λ_=>Option Src) (λ_=>PUnit) none (λa0=>none) (λa0=>none) (λa0=>none) (λxs _=>some (.tup xs)) (λi=>ifS none (gt σ i) λ_=>some (.lst i 0)) (λa0=>none) (λa0 a1 _ _=>none) (λa0 a1 a2 a3 a4 _=>none) (λh=>ifS none (bytP h) λl=>some (.byt l)) ⟨⟩ (λ_ _ _ _=>⟨⟩) e
noncomputable def isTupE(e:Expr):Bool:=@Expr.casesOn (λ_=>Bool) e (λa0 a1 a2=>false) (λa0 a1 a2=>false) (λa0 a1 a2 a3=>false) (λa0 a1 a2=>false) (λa0 a1 a2 a3=>false) (λa0 a1 a2 a3=>false) (λa0 a1 a2=>false) (λa0 a1 a2=>false) (λa0 a1 a2 a3=>false) (λa0 a1 a2 a3=>false) (λa0 a1 a2 a3 a4=>false) (λa0 a1 a2 a3=>false) (λa0 a1=>false) (λa0 a1=>false) (λa0 a1=>false) (λa0 a1 a2 a3=>false) (λa0 a1 a2 a3=>false) (λa0 a1 a2 a3=>false) (λa0 a1=>false) (λa0 a1 a2=>false) (λa0 a1 a2=>false) (λa0 a1 a2=>false) (λa0 a1=>false) (λa0 a1=>false) (λa0 a1=>false) (λa0 a1 a2=>true) (λa0 a1 a2 a3=>false)
noncomputable def tgtOk(src:Src)(t:Expr):Bool:=match src with
 |.zip _ _=>isTupE t
 |.enum _ _=>isTupE t
 |.zipl _ _ _=>isTupE t
 |.byt _=>true
 |.tup _=>true
 |.lst _ _=>true
 |.rng _ _=>true
inductive FlowP where
 |next|ret (p:PV)
noncomputable abbrev KF:=FlowP→Fr→Sto→Bool
noncomputable def noStar(e:Expr):Bool:=@Expr.casesOn (λ_=>Bool) e (λa0 a1 a2=>true) (λa0 a1 a2=>true) (λa0 a1 a2 a3=>true) (λa0 a1 a2=>true) (λa0 a1 a2 a3=>true) (λa0 a1 a2 a3=>true) (λa0 a1 a2=>true) (λa0 a1 a2=>true) (λa0 a1 a2 a3=>true) (λa0 a1 a2 a3=>true) (λa0 a1 a2 a3 a4=>true) (λa0 a1 a2 a3=>true) (λa0 a1=>true) (λa0 a1=>true) (λa0 a1=>true) (λa0 a1 a2 a3=>true) (λa0 a1 a2 a3=>true) (λa0 a1 a2 a3=>true) (λa0 a1=>true) (λa0 a1 a2=>true) (λa0 a1 a2=>true) (λa0 a1 a2=>true) (λa0 a1=>false) (λa0 a1=>true) (λa0 a1=>true) (λa0 a1 a2=>true) (λa0 a1 a2 a3=>true)
structure Lvl where
 ev:Expr→Fr→Sto→KV→KX→Bool
 tr:Expr→Fr→Sto→(Bool→Sto→Bool)→KX→Bool
 ex:Stmt→Fr→Sto→KF→KX→Bool
noncomputable def lvl0:Lvl:=⟨λ_ _ _ _ _=>false,λ_ _ _ _ _=>false,λ_ _ _ _ _=>false⟩
structure Cx where
 T:Top
 gf:Addr
 orc:Orc
noncomputable def globP(K:Frag)(x:Str):Option PV:=ifS none (nsK K x) λv=>ofV K 8 v
noncomputable def nameOk(x:Str):Bool:=!eqS x (Str.ofString "__debug__") && !eqS x (Str.ofString "__classdict__")
noncomputable def nameP(cx:Cx)(x:Str)(ρ:Fr):Option PV:=if nameOk x then ifS none (lk x ρ.scope.names) λk=>(match k with
 |.local=>lk x ρ.vars
 |.cell=>lk x ρ.vars
 |.free=>lk x ρ.up
 |.globalImplicit=>globP cx.T.K x
 |_=>none)else none
noncomputable def isGlobK(e:NameKind):Bool:=@NameKind.casesOn (λ_=>Bool) e false false false false true
noncomputable def isLocalK(e:NameKind):Bool:=@NameKind.casesOn (λ_=>Bool) e true false false false false
noncomputable def isGl(sc:Scope)(x:Str):Bool:=ifS false (lk x sc.names) isGlobK
noncomputable def isLc(sc:Scope)(x:Str):Bool:=ifS false (lk x sc.names) isLocalK
theorem isGlobK_eq{k:NameKind}(h:isGlobK k=true):k=.globalImplicit:=by
 cases k with
 |globalImplicit=>rfl
 |_=>exact absF h
theorem isLocalK_eq{k:NameKind}(h:isLocalK k=true):k=.local:=by
 cases k with
 | «local» => rfl
 |_=>exact absF h
theorem isGl_eq{sc:Scope}{x:Str}(h:isGl sc x=true):lk x sc.names=some .globalImplicit:=ifE' h fT λk e h=>by rw[e,isGlobK_eq h]
theorem isLc_eq{sc:Scope}{x:Str}(h:isLc sc x=true):lk x sc.names=some .local:=ifE' h fT λk e h=>by rw[e,isLocalK_eq h]
theorem nameP_loc{cx:Cx}{x:Str}{ρ:Fr}(h:nameOk x=true)(e:lk x ρ.scope.names=some .local):nameP cx x ρ=lk x ρ.vars:=by
 unfold nameP
 rw[if_pos h,e];rfl
theorem nameP_free{cx:Cx}{x:Str}{ρ:Fr}(h:nameOk x=true)(e:lk x ρ.scope.names=some .free):nameP cx x ρ=lk x ρ.up:=by
 unfold nameP
 rw[if_pos h,e];rfl
theorem nameP_gl{cx:Cx}{x:Str}{ρ:Fr}(h:nameOk x=true)(e:lk x ρ.scope.names=some .globalImplicit):nameP cx x ρ=globP cx.T.K x:=by
 unfold nameP
 rw[if_pos h,e];rfl
noncomputable def isBlt(cx:Cx)(x:Str)(ρ:Fr)(b:String):Bool:=
 eqS x (Str.ofString b)&&isGl ρ.scope x&&(nsK cx.T.K x).isNone
noncomputable abbrev evsT:=ULift.{0,0} (Lvl→Fr→Sto→(List PV→Sto→Bool)→KX→Bool)
noncomputable def evsW(es:List Expr):evsT:=@List.rec Expr (λ_=>evsT) ⟨λ_ _ σ k _=>k [] σ⟩ (λe _ ih=>⟨λL ρ σ k kx=>if noStar e then L.ev e ρ σ (λp σ=>ih.down L ρ σ (λps σ=>k (p::ps) σ) kx) kx else false⟩) es
noncomputable def evs(L:Lvl)(es:List Expr)(ρ:Fr)(σ:Sto)(k:List PV→Sto→Bool)(kx:KX):Bool:=(evsW es).down L ρ σ k kx
noncomputable def evOpt(L:Lvl):Option Expr→Fr→Sto→KV→KX→Bool
 |none,_,σ,k,_=>k .none σ
 |some e,ρ,σ,k,kx=>L.ev e ρ σ k kx
noncomputable def byteP(b:List UInt8):Option PV:=oneK none b λc=>if Nat.blt c.toNat 128 then some (.hole (1000+c.toNat))else none
noncomputable def constP(e:Const):Option PV:=@Const.casesOn (λ_=>Option PV) e (some .none) (λb=>some (.bool b)) (λi=>some (.int i)) (λa0=>none) (λa0 a1=>none) (λs=>if litR s.cps.toList then some (.str s.cps.toList)else none) byteP none
noncomputable def evChain1(cx:Cx)(L:Lvl)(ρ:Fr)(kx:KX)(a:PV)(ops:List CmpOp)(rs:List Expr)(σ:Sto)(k:Bool→Sto→Bool):Bool:=oneK false ops λop=>oneK false rs λr=>
 L.ev r ρ σ (λb σ=>ifS false (cmpP cx.T op a b σ) λc=>k c σ) kx
noncomputable def evChain(cx:Cx)(L:Lvl)(ρ:Fr)(kx:KX)(a:PV)(ops:List CmpOp)(rs:List Expr)(σ:Sto)(k:Bool→Sto→Bool):Bool:=consK false ops λop os=>consK false rs λr es=>@List.casesOn _ (λ_=>Bool) os
 (nilK false es (L.ev r ρ σ (λb σ=>ifS false (cmpP cx.T op a b σ) λc=>k c σ) kx))
 λop2 o2=>nilK false o2 (oneK false es λr2=>L.ev r ρ σ (λb σ=>ifS false (cmpP cx.T op a b σ) λc=>if c then L.ev r2 ρ σ (λd σ=>ifS false (cmpP cx.T op2 b d σ) λc=>k c σ) kx else k false σ) kx)
noncomputable def andOr(op:BoolOp)(t a b:Bool):Bool:=@BoolOp.casesOn (λ_=>Bool) op (@Bool.casesOn (λ_=>Bool) t a b) (@Bool.casesOn (λ_=>Bool) t b a)
noncomputable def evBool(L:Lvl)(ρ:Fr)(kx:KX)(op:BoolOp):List Expr→Sto→KV→Bool
 | [],_,_=>false
 |e::r,σ,k=>nilK (L.ev e ρ σ (λp σ=>ifS false (truthP σ p) λt=>andOr op t (k p σ) (evBool L ρ kx op r σ k)) kx) r (L.ev e ρ σ k kx)
noncomputable def ass1(x:Str)(p:PV)(ρ:Fr):Option Fr:=match lk x ρ.scope.names with
 |some .local=>some { ρ with vars:=put x p ρ.vars }
 |some .cell=>if ρ.lam then none else some { ρ with vars:=put x p ρ.vars }
 |_=>none
noncomputable def assL(f:Expr→PV→Fr→Option Fr):List Expr→List PV→Fr→Option Fr
 | [],ps,ρ=>nilK none ps (some ρ)
 |t::ts,ps,ρ=>consK none ps λp qs=>ifS none (f t p ρ) λρ=>assL f ts qs ρ
noncomputable abbrev assWT:=ULift.{0,0} ((Expr→PV→Fr→Option Fr)→PV→Fr→Option Fr)
noncomputable def assWN:assWT:=⟨λ_ _ _=>none⟩
noncomputable def assW(e:Expr):assWT:=@Expr.casesOn (λ_=>assWT) e (λa0 a1 a2=>assWN) (λa0 a1 a2=>assWN) (λa0 a1 a2 a3=>assWN) (λa0 a1 a2=>assWN) (λa0 a1 a2 a3=>assWN) (λa0 a1 a2 a3=>assWN) (λa0 a1 a2=>assWN) (λa0 a1 a2=>assWN) (λa0 a1 a2 a3=>assWN) (λa0 a1 a2 a3=>assWN) (λa0 a1 a2 a3 a4=>assWN) (λa0 a1 a2 a3=>assWN) (λa0 a1=>assWN) (λa0 a1=>assWN) (λa0 a1=>assWN) (λa0 a1 a2 a3=>assWN) (λa0 a1 a2 a3=>assWN) (λa0 a1 a2 a3=>assWN) (λa0 a1=>assWN) (λa0 a1 a2=>assWN) (λa0 a1 a2=>assWN) (λa0 a1 a2=>assWN) (λa0 a1=>assWN) (λx a1=>⟨λf p ρ=>ass1 x p ρ⟩) (λa0 a1=>assWN) (λts a1 a2=>⟨λf p ρ=>ptupK none p λps=>if ts.all noStar then assL f ts ps ρ else none⟩) (λa0 a1 a2 a3=>assWN)
noncomputable def assNB(f:Expr→PV→Fr→Option Fr)(t:Expr)(p:PV)(ρ:Fr):Option Fr:=(assW t).down f p ρ
noncomputable def assN:Nat→Expr→PV→Fr→Option Fr
 |0,_,_,_=>none
 |n+1,t,p,ρ=>assNB (assN n) t p ρ
noncomputable def assT(t:Expr)(p:PV)(ρ:Fr)(k:Fr→Bool):Bool:=match assN 3 t p ρ with
 |some ρ=>k ρ
 |none=>false
noncomputable def allTests(L:Lvl)(ρ:Fr)(kx:KX):List Expr→Sto→(Bool→Sto→Bool)→Bool
 | [],σ,k=>k true σ
 |e::r,σ,k=>L.tr e ρ σ (λb σ=>if b then allTests L ρ kx r σ k else k false σ) kx
noncomputable def compGo(L:Lvl)(elt target:Expr)(ifs:List Expr)(acc:Nat)(kx:KX):Nat→Src→Fr→Sto→(Sto→Bool)→Bool
 |0,_,_,_,_=>false
 |n+1,s,ρ,σ,k=>ifS false (s.next σ) λo=>@Option.casesOn (PV×Src) (λ_=>Bool) o (k σ) λy=>assT target y.1 ρ λρ=>allTests L ρ kx ifs σ λb σ=>
   if b then L.ev elt ρ σ (λq σ=>ifS false (gt σ acc) λxs=>if okL xs then compGo L elt target ifs acc kx n y.2 ρ (σ.set acc (xs++[q])) k else false) kx
   else compGo L elt target ifs acc kx n y.2 ρ σ k
noncomputable def smallI(i:Int):Bool:=Nat.ble i.natAbs 1000000
noncomputable def evRng(k:Src→Sto→Bool)(ps:List PV)(σ:Sto):Bool:=match ps with
 | []=>false
 |p::r=>(match r with
  | []=>pintK false p λn=>if smallI n then k (.rng 0 n.toNat) σ else false
  |q::r=>nilK false r (pintK false p λa=>pintK false q λb=>if smallI a&&smallI b then k (.rng a (b-a).toNat) σ else false))
noncomputable def callF(e:Expr):Option (Str×List Expr):=call0K none e λg as ks _=>nilK none ks (nameK none g λf _=>some (f,as))
noncomputable def zipSrc(p q:PV)(σ:Sto)(k:Src→Sto→Bool):Bool:=match p with
 |.tup xs=>ptupK false q λys=>k (.zip xs ys) σ
 |.lst i=>plstK false q λj=>ifS false (gt σ i) λ_=>ifS false (gt σ j) λ_=>if Nat.beq i j then false else k (.zipl i j 0) σ
 |_=>false
noncomputable def evSrc(cx:Cx)(L:Lvl)(e:Expr)(ρ:Fr)(σ:Sto)(k:Src→Sto→Bool)(kx:KX):Bool:=match callF e with
 |some c=>
  if isBlt cx c.1 ρ "range"then(if c.2.all noStar then evs L c.2 ρ σ (λps σ=>evRng k ps σ) kx else false)
  else if isBlt cx c.1 ρ "zip"then(if c.2.all noStar then evs L c.2 ρ σ (λps σ=>twoK false ps λp q=>zipSrc p q σ k) kx else false)
  else if isBlt cx c.1 ρ "enumerate"then(if c.2.all noStar then evs L c.2 ρ σ (λps σ=>oneK false ps λp=>plstK false p λi=>ifS false (gt σ i) λ_=>k (.enum i 0) σ) kx else false)
  else L.ev e ρ σ (λp σ=>ifS false (srcOf σ p) λs=>k s σ) kx
 |none=>L.ev e ρ σ (λp σ=>ifS false (srcOf σ p) λs=>k s σ) kx
noncomputable def loopMax:Nat:=256
noncomputable def intText(i:Int):List Nat:=(Str.ofString (toString i)).cps.toList
noncomputable def joinR(sep:List Nat):List PV→Option (List Nat)
 | []=>some []
 |p::rest=>pstrK none p λr=>nilK (ifS none (joinR sep rest) λs=>some (r++sep++s)) rest (some r)
noncomputable def joinG(sep:List Nat)(xs:List PV):Option (List Nat):=if Nat.ble sep.length 64 then joinR sep xs else none
set_option genCtorIdx true in
inductive MK where
 |append|extend|reverse|pop|join|get|index|upper|replace
noncomputable def mkName:MK→Str
 |.append=>Str.ofString "append"|.extend=>Str.ofString "extend"|.reverse=>Str.ofString "reverse"|.pop=>Str.ofString "pop"|.join=>Str.ofString "join"|.get=>Str.ofString "get"|.index=>Str.ofString "index"|.upper=>Str.ofString "upper"|.replace=>Str.ofString "replace"
noncomputable def methK(m:Str):Option MK:=[MK.append,.extend,.reverse,.pop,.join,.get,.index,.upper,.replace].find? λmk=>eqS m (mkName mk)
noncomputable def listP(o:PV)(σ:Sto)(k:Nat→List PV→Bool):Bool:=plstK false o λi=>ifS false (gt σ i) λxs=>if okL xs then k i xs else false
noncomputable def isDct(e:PV):Bool:=@PV.rec (λ_=>Bool) (λ_=>PUnit) false (λa0=>false) (λa0=>false) (λa0=>false) (λa0 _=>false) (λa0=>false) (λa0=>false) (λa0 a1 _ _=>true) (λa0 a1 a2 a3 a4 _=>false) (λa0=>false) ⟨⟩ (λ_ _ _ _=>⟨⟩) e
noncomputable def idxS(r:List Nat):List PV→Nat→Option Nat
 | [],_=>none
 |p::xs,n=>pstrK none p λy=>ifS none (ropeEq y r) λb=>if b then some n else idxS r xs (n+1)
noncomputable def asciiR(r:List Nat):Bool:=r.all λc=>Nat.blt c 128
noncomputable def methP(T:Top)(m:MK)(o:PV)(args:List PV)(σ:Sto)(k:KV):Bool:=match m with
 |.append=>listP o σ λi xs=>oneK false args λp=>k .none (σ.set i (xs++[p]))
 |.extend=>listP o σ λi xs=>oneK false args λq=>listP q σ λj ys=>if !Nat.beq i j then mkL (xs++ys) λzs=>k .none (σ.set i zs)else false
 |.reverse=>listP o σ λi xs=>nilK false args (k .none (σ.set i xs.reverse))
 |.pop=>listP o σ λi xs=>nilK false args (ifS false xs.getLast? λp=>k p (σ.set i xs.dropLast))
 |.join=>pstrK false o λr=>oneK false args λq=>listP q σ λ_ xs=>ifS false (joinG r xs) λs=>mkR s λs=>k (.str s) σ
 |.get=>twoK false args λa e=>pstrK false a λr=>if isDct o then ifS false (dictGet T σ o (.str r)) λz=>(match z with|some v=>k v σ|none=>k e σ)else false
 |.index=>ptupK false o λxs=>oneK false args λq=>pstrK false q λr=>ifS false (idxS r xs 0) λn=>k (.int (n:Int)) σ
 |.upper=>pstrK false o λr=>nilK false args (if asciiR r&&okL r then k (.str (r.map PyProof.Rows.up1)) σ else false)
 |.replace=>pstrK false o λr=>twoK false args λa b=>pstrK false a λx=>pstrK false b λ_=>if litR r&&litR x&&(Builtin.Str.occurrences ⟨r.toArray⟩ ⟨x.toArray⟩ 0 r.toArray.size (r.toArray.size+1)).isEmpty then k (.str r) σ else false
noncomputable def isLstIn(σ:Sto)(e:PV):Bool:=@PV.rec (λ_=>Bool) (λ_=>PUnit) false (λa0=>false) (λa0=>false) (λa0=>false) (λa0 _=>false) (λi=>Nat.blt i σ.length) (λa0=>false) (λa0 a1 _ _=>false) (λa0 a1 a2 a3 a4 _=>false) (λa0=>false) ⟨⟩ (λ_ _ _ _=>⟨⟩) e
noncomputable def isStrP(e:PV):Bool:=@PV.rec (λ_=>Bool) (λ_=>PUnit) false (λa0=>false) (λa0=>false) (λa0=>true) (λa0 _=>false) (λa0=>false) (λa0=>false) (λa0 a1 _ _=>false) (λa0 a1 a2 a3 a4 _=>false) (λa0=>false) ⟨⟩ (λ_ _ _ _=>⟨⟩) e
noncomputable def isTupP(e:PV):Bool:=ptupK false e λ_=>true
noncomputable def recvOk(m:MK)(o:PV)(σ:Sto):Bool:=match m with
 |.join=>isStrP o
 |.get=>isDct o
 |.index=>isTupP o
 |.upper=>isStrP o
 |.replace=>isStrP o
 |_=>isLstIn σ o
noncomputable def notCall(e:Expr):Bool:=@Expr.casesOn (λ_=>Bool) e (λa0 a1 a2=>true) (λa0 a1 a2=>true) (λa0 a1 a2 a3=>true) (λa0 a1 a2=>true) (λa0 a1 a2 a3=>true) (λa0 a1 a2 a3=>true) (λa0 a1 a2=>true) (λa0 a1 a2=>true) (λa0 a1 a2 a3=>true) (λa0 a1 a2 a3=>true) (λa0 a1 a2 a3 a4=>true) (λa0 a1 a2 a3=>true) (λa0 a1=>true) (λa0 a1=>true) (λa0 a1=>true) (λa0 a1 a2 a3=>true) (λa0 a1 a2 a3=>false) (λa0 a1 a2 a3=>true) (λa0 a1=>true) (λa0 a1 a2=>true) (λa0 a1 a2=>true) (λa0 a1 a2=>true) (λa0 a1=>true) (λa0 a1=>true) (λa0 a1=>true) (λa0 a1 a2=>true) (λa0 a1 a2 a3=>true)
noncomputable def methGood(o:Expr)(apos pos:Pos)(args:List Expr):Bool:=notCall o&&args.all noStar&&Nat.blt args.length 29&&(apos.endLine==pos.line)
noncomputable def lenP(σ:Sto)(e:PV):Option Nat:=@PV.rec (λ_=>Option Nat) (λ_=>PUnit) none (λa0=>none) (λa0=>none) (λa0=>none) (λxs _=>if okL xs then some xs.length else none) (λi=>ifS none (gt σ i) λxs=>if okL xs then some xs.length else none) (λa0=>none) (λa0 a1 _ _=>none) (λa0 a1 a2 a3 a4 _=>none) (λa0=>none) ⟨⟩ (λ_ _ _ _=>⟨⟩) e
noncomputable def allP:List PV→Option Bool
 | []=>some true
 |.bool c::r=>(match allP r with|some b=>some (c&&b)|none=>none)
 |_=>none
noncomputable def blLen(ps:List PV)(σ:Sto)(k:KV):Bool:=oneK false ps λp=>ifS false (lenP σ p) λn=>k (.int n) σ
noncomputable def distinctK(σ:Sto):List PV→Bool
 | []=>true
 |p::r=>(r.all λq=>match pvEq σ 4 p q with|some false=>true|_=>false)&&distinctK σ r
noncomputable def blStr(ps:List PV)(σ:Sto)(k:KV):Bool:=oneK false ps λp=>match p with
 |.int i=>if Nat.blt i.natAbs 1000000&&litR (intText i)then k (.str (intText i)) σ else false
 |.str r=>k (.str r) σ
 |.none=>k (.str [78,111,110,101]) σ
 |_=>false
noncomputable def blTup(ps:List PV)(σ:Sto)(k:KV):Bool:=oneK false ps λp=>plstK false p λi=>ifS false (gt σ i) λxs=>if okL xs then k (.tup xs) σ else false
noncomputable def blChr(ps:List PV)(σ:Sto)(k:KV):Bool:=oneK false ps λp=>pintK false p λi=>if decide (0≤i)&&Nat.blt i.toNat 128 then k (.str [i.toNat]) σ else false
noncomputable def unPairs:List PV→Option (List PV×List PV)
 | []=>some ([],[])
 |p::r=>ptupK none p λxs=>twoK none xs λa b=>ifS none (unPairs r) λz=>pstrK none a λr=>if litR r then some (.str r::z.1,b::z.2)else none
noncomputable def blDict(ps:List PV)(σ:Sto)(k:KV):Bool:=oneK false ps λp=>ptupK false p λxs=>ifS false (unPairs xs) λz=>if Nat.ble xs.length 15&&distinctK σ z.1 then k (.dct z.1 z.2) σ else false
noncomputable def blAbs(ps:List PV)(σ:Sto)(k:KV):Bool:=oneK false ps λp=>pintK false p λi=>k (.int i.natAbs) σ
noncomputable def blAll(ps:List PV)(σ:Sto)(k:KV):Bool:=oneK false ps λp=>plstK false p λi=>ifS false (gt σ i) λxs=>ifS false (allP xs) λb=>k (.bool b) σ
noncomputable def blList(ps:List PV)(σ:Sto)(k:KV):Bool:=oneK false ps λp=>ptupK false p λxs=>if okL xs then k (.lst σ.length) (σ++[xs])else false
noncomputable def blInt(ps:List PV)(σ:Sto)(k:KV):Bool:=oneK false ps λp=>match p with
 |.int i=>k (.int i) σ
 |.bool b=>k (.int (if b then 1 else 0)) σ
 |_=>false
noncomputable def blDm(ps:List PV)(σ:Sto)(k:KV):Bool:=twoK false ps λp q=>arI p q λa b=>if smallP b then k (.tup [.int (a.fdiv b),.int (a.fmod b)]) σ else false
noncomputable def blts:List (String×(List PV→Sto→KV→Bool)):=[("len",blLen),("str",blStr),("abs",blAbs),("all",blAll),("list",blList),("int",blInt),("divmod",blDm),("tuple",blTup),("chr",blChr),("dict",blDict)]
noncomputable def bltG(cx:Cx)(L:Lvl)(f:Str)(args:List Expr)(ρ:Fr)(σ:Sto)(k:KV)(kx:KX):List (String×(List PV→Sto→KV→Bool))→Bool
 | []=>false
 |b::r=>if isBlt cx f ρ b.1 then evs L args ρ σ (λps σ=>b.2 ps σ k) kx else bltG cx L f args ρ σ k kx r
noncomputable def bltP(cx:Cx)(L:Lvl)(f:Str)(args:List Expr)(ρ:Fr)(σ:Sto)(k:KV)(kx:KX):Bool:=bltG cx L f args ρ σ k kx blts
noncomputable def revArg(cx:Cx)(ρ:Fr)(es:List Expr):Option Expr:=oneK none es λe=>call0K none e λg as ks _=>nilK none ks (nameK none g λf _=>oneK none as λa=>
 if isBlt cx f ρ "reversed"&&noStar a then some a else none)
noncomputable def litKey(e:PV):Bool:=@PV.rec (λ_=>Bool) (λ_=>PUnit) false (λa0=>false) (λa0=>false) (λr=>litR r) (λa0 _=>false) (λa0=>false) (λa0=>false) (λa0 a1 _ _=>false) (λa0 a1 a2 a3 a4 _=>false) (λa0=>false) ⟨⟩ (λ_ _ _ _=>⟨⟩) e
noncomputable def evDict(L:Lvl):List (Option Expr)→List Expr→Fr→Sto→(List PV→List PV→Sto→Bool)→KX→Bool
 | [],[],_,σ,k,_=>k [] [] σ
 |some e::ks,v::vs,ρ,σ,k,kx=>L.ev e ρ σ (λp σ=>if litKey p then L.ev v ρ σ (λq σ=>evDict L ks vs ρ σ (λps qs σ=>k (p::ps) (q::qs) σ) kx) kx else false) kx
 |_,_,_,_,_,_=>false
noncomputable def isFreeK(e:NameKind):Bool:=@NameKind.casesOn (λ_=>Bool) e false false true false false
noncomputable def freeOne(sc:Scope):Option Str:=oneK none (sc.names.filter λx=>isFreeK x.2) λe=>some e.1
noncomputable def noDef(a:Arguments):Bool:=a.posonlyargs.isEmpty&&a.vararg.isNone&&a.kwonlyargs.isEmpty&&a.kw_defaults.isEmpty&&a.kwarg.isNone&&a.defaults.isEmpty
noncomputable def noCells(sc:Scope):Bool:=sc.names.all λx=>match x.2 with|.cell=>false|_=>true
noncomputable def valUp(ρ:Fr)(x:Str):Option PV:=match lk x ρ.scope.names with
 |some .cell=>lk x ρ.vars
 |some .free=>lk x ρ.up
 |_=>none
noncomputable def upOf(ρ:Fr):List (Str×NameKind)→Option (List (Str×PV))
 | []=>some []
 |x::r=>if isFreeK x.2 then(ifS none (valUp ρ x.1) λp=>ifS none (upOf ρ r) λps=>some ((x.1,p)::ps))else upOf ρ r
noncomputable def localsOk(sc:Scope):Bool:=sc.names.all λx=>match x.2 with
 |.local=>(match lk x.1 sc.names with|some .local=>true|_=>false)
 |_=>true
noncomputable def notSet(e:Expr):Bool:=@Expr.casesOn (λ_=>Bool) e (λa0 a1 a2=>true) (λa0 a1 a2=>true) (λa0 a1 a2 a3=>true) (λa0 a1 a2=>true) (λa0 a1 a2 a3=>true) (λa0 a1 a2 a3=>true) (λa0 a1 a2=>true) (λa0 a1 a2=>false) (λa0 a1 a2 a3=>true) (λa0 a1 a2 a3=>true) (λa0 a1 a2 a3 a4=>true) (λa0 a1 a2 a3=>true) (λa0 a1=>true) (λa0 a1=>true) (λa0 a1=>true) (λa0 a1 a2 a3=>true) (λa0 a1 a2 a3=>true) (λa0 a1 a2 a3=>true) (λa0 a1=>true) (λa0 a1 a2=>true) (λa0 a1 a2=>true) (λa0 a1 a2=>true) (λa0 a1=>true) (λa0 a1=>true) (λa0 a1=>true) (λa0 a1 a2=>true) (λa0 a1 a2 a3=>true)
noncomputable def compOk(g:Comprehension)(sc:Scope):Bool:=g.is_async==0&&notSet g.iter&&isFun sc&&noCells sc&&localsOk sc
noncomputable def fnP(K:Frag)(e:PV):Bool:=@PV.rec (λ_=>Bool) (λ_=>PUnit) false (λa0=>false) (λa0=>false) (λa0=>false) (λa0 _=>false) (λa0=>false) (λa=>(ifS false (kl K a) λo=>ifS false (funV o) λ_=>true)) (λa0 a1 _ _=>false) (λa0 a1 a2 a3 a4 _=>true) (λh=>Nat.beq h 998) ⟨⟩ (λ_ _ _ _=>⟨⟩) e
noncomputable def negI(e:Expr)(k:Int→Bool):Bool:=intK false e λi _ _=>k i
noncomputable def asSlice(e:Expr):Option (Option Expr×Option Expr×Option Expr×Pos):=@Expr.casesOn (λ_=>Option (Option Expr×Option Expr×Option Expr×Pos)) e (λa0 a1 a2=>none) (λa0 a1 a2=>none) (λa0 a1 a2 a3=>none) (λa0 a1 a2=>none) (λa0 a1 a2 a3=>none) (λa0 a1 a2 a3=>none) (λa0 a1 a2=>none) (λa0 a1 a2=>none) (λa0 a1 a2 a3=>none) (λa0 a1 a2 a3=>none) (λa0 a1 a2 a3 a4=>none) (λa0 a1 a2 a3=>none) (λa0 a1=>none) (λa0 a1=>none) (λa0 a1=>none) (λa0 a1 a2 a3=>none) (λa0 a1 a2 a3=>none) (λa0 a1 a2 a3=>none) (λa0 a1=>none) (λa0 a1 a2=>none) (λa0 a1 a2=>none) (λa0 a1 a2=>none) (λa0 a1=>none) (λa0 a1=>none) (λa0 a1=>none) (λa0 a1 a2=>none) (λlo hi st p=>some (lo,hi,st,p))
noncomputable def evSub(cx:Cx)(L:Lvl)(o i:Expr)(ρ:Fr)(σ:Sto)(k:KV)(kx:KX):Bool:=match asSlice i with
 |some z=>L.ev o ρ σ (λp σ=>evOpt L z.1 ρ σ (λl σ=>evOpt L z.2.1 ρ σ (λh σ=>evOpt L z.2.2.1 ρ σ (λs σ=>sliceP p l h s σ k) kx) kx) kx) kx
 |none=>L.ev o ρ σ (λp σ=>L.ev i ρ σ (λq σ=>ifS false (itemP cx.T p q σ) λv=>k v σ) kx) kx
noncomputable def evComp(cx:Cx)(L:Lvl)(elt:Expr)(g:Comprehension)(sc:Scope)(ρ:Fr)(σ:Sto)(k:KV)(kx:KX):Bool:=
 if compOk g sc then ifS false (upOf ρ sc.names) λup=>evSrc cx L g.iter ρ σ (λs σ=>if tgtOk s g.target then
   compGo L elt g.target g.ifs σ.length kx loopMax s { scope:=sc,vars:=[],up:=up,lam:=ρ.lam,q:=ρ.q } (σ++[[]]) λσ'=>k (.lst σ.length) σ' else false) kx else false
noncomputable def isCellK(sc:Scope)(x:Str):Bool:=ifS false (lk x sc.names) λk=>match k with|.cell=>true|_=>false
noncomputable def evLam(ag:Arguments)(body:Expr)(sc:Scope)(ρ:Fr)(σ:Sto)(k:KV):Bool:=ifS false (freeOne sc) λx=>
 if noCells sc&&ρ.lam&&ρ.q&&noDef ag then(if isCellK ρ.scope x then ifS false (lk x ρ.vars) λp=>k (.clos ag body sc x p) σ else false)else false
noncomputable def isJoin:MK→Bool
 |.join=>true
 |_=>false
noncomputable def evMeth(cx:Cx)(L:Lvl)(o:Expr)(m:Str)(apos:Pos)(args:List Expr)(pos:Pos)(ρ:Fr)(σ:Sto)(k:KV)(kx:KX):Bool:=if methGood o apos pos args then ifS false (methK m) λmk=>
  (match revArg cx ρ args with
   |some a=>if isJoin mk then L.ev o ρ σ (λp σ=>pstrK false p λr=>
     L.ev a ρ σ (λq σ=>listP q σ λ_ xs=>ifS false (joinG r xs.reverse) λs=>mkR s λs=>k (.str s) σ) kx) kx else false
   |none=>L.ev o ρ σ (λp σ=>if recvOk mk p σ then evs L args ρ σ (λps σ=>methP cx.T mk p ps σ k) kx else false) kx)else false
noncomputable def evNm(cx:Cx)(L:Lvl)(f:Str)(args:List Expr)(ρ:Fr)(σ:Sto)(k:KV)(kx:KX):Bool:=if args.all noStar then(match nameP cx f ρ with
  |some c=>if fnP cx.T.K c then evs L args ρ σ (λps σ=>cx.orc c ps σ k kx) kx else false
  |none=>bltP cx L f args ρ σ k kx)else false
noncomputable def lrArg(cx:Cx)(ρ:Fr)(f:Str)(args:List Expr):Option (List Expr):=if isBlt cx f ρ "list"then oneK none args λa=>ifS none (callF a) λc=>if isBlt cx c.1 ρ "range"&&noStar a&&c.2.all noStar then some c.2 else none else none
noncomputable def rngL(a:Int):Nat→List PV
 |0=>[]
 |n+1=>.int a::rngL (a+1) n
noncomputable def evLR(L:Lvl)(es:List Expr)(ρ:Fr)(σ:Sto)(k:KV)(kx:KX):Bool:=evs L es ρ σ (λps σ=>evRng (λs σ=>match s with
 |.rng a n=>if Nat.ble n 1000 then k (.lst σ.length) (σ++[rngL a n])else false
 |_=>false) ps σ) kx
noncomputable def evCC(cx:Cx)(L:Lvl)(f:Expr)(args:List Expr)(ρ:Fr)(σ:Sto)(k:KV)(kx:KX):Bool:=if args.all noStar then L.ev f ρ σ (λc σ=>if fnP cx.T.K c then evs L args ρ σ (λps σ=>cx.orc c ps σ k kx) kx else false) kx else false
noncomputable def evNL(cx:Cx)(L:Lvl)(f:Str)(args:List Expr)(ρ:Fr)(σ:Sto)(k:KV)(kx:KX):Bool:=match lrArg cx ρ f args with
 |some es=>evLR L es ρ σ k kx
 |none=>evNm cx L f args ρ σ k kx
noncomputable def isUSub:UnaryOp→Bool
 |.USub=>true
 |_=>false
noncomputable abbrev calT:=ULift.{0,0} (Cx→Lvl→List Expr→Pos→Fr→Sto→KV→KX→Bool)
noncomputable def calN:calT:=⟨λ_ _ _ _ _ _ _ _=>false⟩
noncomputable def calW(f:Expr):calT:=@Expr.casesOn (λ_=>calT) f (λa0 a1 a2=>calN) (λa0 a1 a2=>calN) (λa0 a1 a2 a3=>calN) (λa0 a1 a2=>calN) (λa0 a1 a2 a3=>calN) (λa0 a1 a2 a3=>calN) (λa0 a1 a2=>calN) (λa0 a1 a2=>calN) (λa0 a1 a2 a3=>calN) (λa0 a1 a2 a3=>calN) (λa0 a1 a2 a3 a4=>calN) (λa0 a1 a2 a3=>calN) (λa0 a1=>calN) (λa0 a1=>calN) (λa0 a1=>calN) (λa0 a1 a2 a3=>calN) (λa0 a1 a2 a3=>⟨λcx L args pos ρ σ k kx=>evCC cx L (.Call a0 a1 a2 a3) args ρ σ k kx⟩) (λa0 a1 a2 a3=>calN) (λa0 a1=>calN) (λa0 a1 a2=>calN) (λo m apos=>⟨λcx L args pos ρ σ k kx=>evMeth cx L o m apos args pos ρ σ k kx⟩) (λa0 a1 a2=>calN) (λa0 a1=>calN) (λf a1=>⟨λcx L args pos ρ σ k kx=>evNL cx L f args ρ σ k kx⟩) (λa0 a1=>calN) (λa0 a1 a2=>calN) (λa0 a1 a2 a3=>calN)
noncomputable abbrev evWT:=ULift.{0,0} (Cx→Lvl→Fr→Sto→KV→KX→Bool)
noncomputable def evWN:evWT:=⟨λ_ _ _ _ _ _=>false⟩
noncomputable def evW(e:Expr):evWT:=@Expr.casesOn (λ_=>evWT) e (λop es a2=>⟨λcx L ρ σ k kx=>evBool L ρ kx op es σ k⟩) (λa0 a1 a2=>evWN) (λl op r a3=>⟨λcx L ρ σ k kx=>L.ev l ρ σ (λa σ=>L.ev r ρ σ (λb σ=>binP op a b σ k) kx) kx⟩) (λop e a2=>⟨λcx L ρ σ k kx=>if isUSub op then negI e λi=>k (.int (-i)) σ else false⟩) (λag body sc a3=>⟨λcx L ρ σ k kx=>evLam ag body sc ρ σ k⟩) (λt a b a3=>⟨λcx L ρ σ k kx=>L.tr t ρ σ (λc σ=>if c then L.ev a ρ σ k kx else L.ev b ρ σ k kx) kx⟩) (λks vs a2=>⟨λcx L ρ σ k kx=>if Nat.blt 0 ks.length&&Nat.ble ks.length 15&&ks.all (·.isSome)&&Nat.beq ks.length vs.length then evDict L ks vs ρ σ (λps qs σ=>if distinctK σ ps then k (.dct ps qs) σ else false) kx else false⟩) (λa0 a1 a2=>evWN) (λelt gs sc a3=>⟨λcx L ρ σ k kx=>oneK false gs λg=>evComp cx L elt g sc ρ σ k kx⟩) (λa0 a1 a2 a3=>evWN) (λa0 a1 a2 a3 a4=>evWN) (λa0 a1 a2 a3=>evWN) (λa0 a1=>evWN) (λa0 a1=>evWN) (λa0 a1=>evWN) (λl ops rs a3=>⟨λcx L ρ σ k kx=>if lastMarks ops rs || !Nat.beq ops.length rs.length then false else L.ev l ρ σ (λa σ=>evChain cx L ρ kx a ops rs σ λb σ=>k (.bool b) σ) kx⟩) (λf args kw pos=>⟨λcx L ρ σ k kx=>nilK false kw ((calW f).down cx L args pos ρ σ k kx)⟩) (λa0 a1 a2 a3=>evWN) (λa0 a1=>evWN) (λc a1 a2=>⟨λcx L ρ σ k kx=>ifS false (constP c) λp=>k p σ⟩) (λa0 a1 a2=>evWN) (λo i a2=>⟨λcx L ρ σ k kx=>evSub cx L o i ρ σ k kx⟩) (λa0 a1=>evWN) (λx a1=>⟨λcx L ρ σ k kx=>ifS false (nameP cx x ρ) λp=>k p σ⟩) (λes a1=>⟨λcx L ρ σ k kx=>evs L es ρ σ (λps σ=>mkL ps λps=>k (.lst σ.length) (σ++[ps])) kx⟩) (λes a1 a2=>⟨λcx L ρ σ k kx=>evs L es ρ σ (λps σ=>mkL ps λps=>k (.tup ps) σ) kx⟩) (λa0 a1 a2 a3=>evWN)
noncomputable def evS(cx:Cx)(L:Lvl)(e:Expr)(ρ:Fr)(σ:Sto)(k:KV)(kx:KX):Bool:=(evW e).down cx L ρ σ k kx
noncomputable def allTr(L:Lvl)(ρ:Fr)(kx:KX)(op:BoolOp):List Expr→Sto→(Bool→Sto→Bool)→Bool
 | [],σ,k=>k (@BoolOp.casesOn (λ_=>Bool) op true false) σ
 |e::r,σ,k=>L.tr e ρ σ (λb σ=>@BoolOp.casesOn (λ_=>Bool) op (@Bool.casesOn (λ_=>Bool) b (k false σ) (allTr L ρ kx op r σ k)) (@Bool.casesOn (λ_=>Bool) b (allTr L ρ kx op r σ k) (k true σ))) kx
noncomputable def isTr(e:Expr):Bool:=@Expr.casesOn (λ_=>Bool) e (λa0 a1 a2=>true) (λa0 a1 a2=>false) (λa0 a1 a2 a3=>false) (λop a1 a2=>(match op with|.Not=>true|_=>false)) (λa0 a1 a2 a3=>false) (λa0 a1 a2 a3=>true) (λa0 a1 a2=>false) (λa0 a1 a2=>false) (λa0 a1 a2 a3=>false) (λa0 a1 a2 a3=>false) (λa0 a1 a2 a3 a4=>false) (λa0 a1 a2 a3=>false) (λa0 a1=>false) (λa0 a1=>false) (λa0 a1=>false) (λa0 a1 a2 a3=>true) (λa0 a1 a2 a3=>false) (λa0 a1 a2 a3=>false) (λa0 a1=>false) (λa0 a1 a2=>false) (λa0 a1 a2=>false) (λa0 a1 a2=>false) (λa0 a1=>false) (λa0 a1=>false) (λa0 a1=>false) (λa0 a1 a2=>false) (λa0 a1 a2 a3=>false)
noncomputable abbrev trWT:=ULift.{0,0} (Cx→Lvl→Fr→Sto→(Bool→Sto→Bool)→KX→Bool)
noncomputable def trWN:trWT:=⟨λ_ _ _ _ _ _=>false⟩
noncomputable def trW(e:Expr):trWT:=@Expr.casesOn (λ_=>trWT) e (λop es a2=>⟨λcx L ρ σ k kx=>allTr L ρ kx op es σ k⟩) (λa0 a1 a2=>trWN) (λa0 a1 a2 a3=>trWN) (λa0 e a2=>⟨λcx L ρ σ k kx=>L.tr e ρ σ (λb σ=>k (!b) σ) kx⟩) (λa0 a1 a2 a3=>trWN) (λa0 a1 a2 a3=>trWN) (λa0 a1 a2=>trWN) (λa0 a1 a2=>trWN) (λa0 a1 a2 a3=>trWN) (λa0 a1 a2 a3=>trWN) (λa0 a1 a2 a3 a4=>trWN) (λa0 a1 a2 a3=>trWN) (λa0 a1=>trWN) (λa0 a1=>trWN) (λa0 a1=>trWN) (λl ops rs a3=>⟨λcx L ρ σ k kx=>if lastMarks ops rs || !Nat.beq ops.length rs.length then false else L.ev l ρ σ (λa σ=>evChain1 cx L ρ kx a ops rs σ k) kx⟩) (λa0 a1 a2 a3=>trWN) (λa0 a1 a2 a3=>trWN) (λa0 a1=>trWN) (λa0 a1 a2=>trWN) (λa0 a1 a2=>trWN) (λa0 a1 a2=>trWN) (λa0 a1=>trWN) (λa0 a1=>trWN) (λa0 a1=>trWN) (λa0 a1 a2=>trWN) (λa0 a1 a2 a3=>trWN)
noncomputable def trS(cx:Cx)(L:Lvl)(e:Expr)(ρ:Fr)(σ:Sto)(k:Bool→Sto→Bool)(kx:KX):Bool:=if isTr e then((trW e).down cx L ρ σ k kx)
 else evS cx L e ρ σ (λp σ=>ifS false (truthP σ p) λb=>k b σ) kx
noncomputable abbrev execsT:=ULift.{0,0} (Lvl→Fr→Sto→KF→KX→Bool)
noncomputable def execsW(l:List Stmt):execsT:=@List.rec Stmt (λ_=>execsT) ⟨λ_ ρ σ k _=>k .next ρ σ⟩ (λst _ ih=>⟨λL ρ σ k kx=>L.ex st ρ σ (λfl ρ σ=>@FlowP.casesOn (λ_=>Bool) fl (ih.down L ρ σ k kx) λp=>k (.ret p) ρ σ) kx⟩) l
noncomputable def execs(L:Lvl)(l:List Stmt)(ρ:Fr)(σ:Sto)(k:KF)(kx:KX):Bool:=(execsW l).down L ρ σ k kx
noncomputable def forGo(L:Lvl)(target:Expr)(body:List Stmt)(kx:KX):Nat→Src→Fr→Sto→KF→Bool
 |0,_,_,_,_=>false
 |n+1,s,ρ,σ,k=>ifS false (s.next σ) λo=>@Option.casesOn (PV×Src) (λ_=>Bool) o (k .next ρ σ) λy=>assT target y.1 ρ λρ=>execs L body ρ σ (λfl ρ σ=>@FlowP.casesOn (λ_=>Bool) fl (forGo L target body kx n y.2 ρ σ k) λp=>k (.ret p) ρ σ) kx
noncomputable def whileGo(L:Lvl)(test:Expr)(body:List Stmt)(kx:KX):Nat→Fr→Sto→KF→Bool
 |0,_,_,_=>false
 |n+1,ρ,σ,k=>L.tr test ρ σ (λb σ=>if b then execs L body ρ σ (λfl ρ σ=>match fl with
   |.next=>whileGo L test body kx n ρ σ k
   |.ret p=>k (.ret p) ρ σ) kx else k .next ρ σ) kx
noncomputable def isLocK:Option NameKind→Bool
 |some .local=>true
 |_=>false
noncomputable def simpleT(ρ:Fr)(e:Expr):Bool:=@Expr.casesOn (λ_=>Bool) e (λa0 a1 a2=>false) (λa0 a1 a2=>false) (λa0 a1 a2 a3=>false) (λa0 a1 a2=>false) (λa0 a1 a2 a3=>false) (λa0 a1 a2 a3=>false) (λa0 a1 a2=>false) (λa0 a1 a2=>false) (λa0 a1 a2 a3=>false) (λa0 a1 a2 a3=>false) (λa0 a1 a2 a3 a4=>false) (λa0 a1 a2 a3=>false) (λa0 a1=>false) (λa0 a1=>false) (λa0 a1=>false) (λa0 a1 a2 a3=>false) (λa0 a1 a2 a3=>false) (λa0 a1 a2 a3=>false) (λa0 a1=>false) (λa0 a1 a2=>false) (λa0 a1 a2=>false) (λa0 a1 a2=>false) (λa0 a1=>false) (λx a1=>(match lk x ρ.scope.names with|some .local=>true|some .cell=>true|_=>false)) (λa0 a1=>false) (λa0 a1 a2=>false) (λa0 a1 a2 a3=>false)
noncomputable def okTgt(e:Expr):Bool:=@Expr.casesOn (λ_=>Bool) e (λa0 a1 a2=>false) (λa0 a1 a2=>false) (λa0 a1 a2 a3=>false) (λa0 a1 a2=>false) (λa0 a1 a2 a3=>false) (λa0 a1 a2 a3=>false) (λa0 a1 a2=>false) (λa0 a1 a2=>false) (λa0 a1 a2 a3=>false) (λa0 a1 a2 a3=>false) (λa0 a1 a2 a3 a4=>false) (λa0 a1 a2 a3=>false) (λa0 a1=>false) (λa0 a1=>false) (λa0 a1=>false) (λa0 a1 a2 a3=>false) (λa0 a1 a2 a3=>false) (λa0 a1 a2 a3=>false) (λa0 a1=>false) (λa0 a1 a2=>false) (λa0 a1 a2=>false) (λa0 a1 a2=>false) (λa0 a1=>false) (λa0 a1=>true) (λa0 a1=>false) (λa0 a1 a2=>true) (λa0 a1 a2 a3=>false)
noncomputable def isPair(t e:Expr):Option (List Expr×List Expr):=tupxK none t λts _ _=>tupxK none e λvs _ _=>some (ts,vs)
noncomputable def swapNames(ρ:Fr)(line:Nat)(ts:List Expr):List Str:=ts.filterMap λe=>nameK none e λid pos=>if isLocK (lk id ρ.scope.names)&&pos.line==line then some id else none
noncomputable def swapP(ρ:Fr)(ts vs:List Expr):Option (Option (List Str)):=
 if !ts.all (simpleT ρ)then none
 else if !(ts.length==2||ts.length==3)||vs.length != ts.length then some none
 else if !vs.all noStar then some none
 else if(swapNames ρ ((ts.head?.map (·.pos.line)).getD 0) ts).length != ts.length||(swapNames ρ ((ts.head?.map (·.pos.line)).getD 0) ts).eraseDups.length != (swapNames ρ ((ts.head?.map (·.pos.line)).getD 0) ts).length then some none
 else if vs.all (foldedForSure 8)then some none
 else if vs.all (constantsAlone 8)then none
 else some (some (swapNames ρ ((ts.head?.map (·.pos.line)).getD 0) ts))
noncomputable def assNames:List Str→List PV→Fr→Option Fr
 | [],[],ρ=>some ρ
 |x::xs,p::ps,ρ=>(match ass1 x p ρ with
  |some ρ=>assNames xs ps ρ
  |none=>none)
 |_,_,_=>none
noncomputable def notComp(e:Expr):Bool:=@Expr.casesOn (λ_=>Bool) e (λa0 a1 a2=>true) (λa0 a1 a2=>true) (λa0 a1 a2 a3=>true) (λa0 a1 a2=>true) (λa0 a1 a2 a3=>true) (λa0 a1 a2 a3=>true) (λa0 a1 a2=>true) (λa0 a1 a2=>true) (λa0 a1 a2 a3=>false) (λa0 a1 a2 a3=>false) (λa0 a1 a2 a3 a4=>false) (λa0 a1 a2 a3=>true) (λa0 a1=>true) (λa0 a1=>true) (λa0 a1=>true) (λa0 a1 a2 a3=>true) (λa0 a1 a2 a3=>true) (λa0 a1 a2 a3=>true) (λa0 a1=>true) (λa0 a1 a2=>true) (λa0 a1 a2=>true) (λa0 a1 a2=>true) (λa0 a1=>true) (λa0 a1=>true) (λa0 a1=>true) (λa0 a1 a2=>true) (λa0 a1 a2 a3=>true)
noncomputable def isGf(cx:Cx)(f:Str)(ρ:Fr):Bool:=ifS false (lk f ρ.scope.names) λk=>isGlobK k&&ifS false (nsK cx.T.K f) λv=>ifS false (refV v) λc=>c==cx.gf
theorem isGf_eq{cx:Cx}{f:Str}{ρ:Fr}(h:isGf cx f ρ=true):lk f ρ.scope.names=some .globalImplicit∧nsK cx.T.K f=some (.ref cx.gf):=by
 unfold isGf at h
 refine ifE' h fT λk hk h=>band2 h λh1 h=>ifE' h fT λv hv h=>ifE' h fT λc hc h=>?_
 rw[hk,hv,isGlobK_eq h1,refV_eq hc,eq_of_beq h]
 exact⟨rfl,rfl⟩
noncomputable def itemT{β:Type}(d:β)(e:Expr)(k:Str→Int→β):β:=subK d e λo i _=>nameK d o λx _=>intK d i λi _ _=>k x i
@[elab_as_elim] theorem itemE {P:Expr→Prop} {β:Type} {d r:β} {e:Expr} {k:Str→Int→β} (h:itemT d e k=r) (hd:d≠r) (f:∀x q i u q' p,k x i=r→P (.Subscript (.Name x q) (.Constant (.int i) u q') p)):P e:=
 subE h hd λo i p h=>nameE (P:=λo=>P (.Subscript o i p)) h hd λx q h=>intE (P:=λi=>P (.Subscript (.Name x q) i p)) h hd λi u q' h=>f x q i u q' p h
noncomputable def itemTgt(e:Expr):Option (Str×Int×Option Expr):=if isTupE e then tupxK none e λts _ _=>twoK none ts λa b=>itemT none a λx i=>nameK none b λy p=>some (x,i,some (.Name y p))
 else itemT none e λx i=>some (x,i,none)
noncomputable def setP(cx:Cx)(x:Str)(i:Int)(p:PV)(ρ:Fr)(σ:Sto)(k:Sto→Bool):Bool:=ifS false (nameP cx x ρ) λq=>plstK false q λl=>ifS false (gt σ l) λxs=>
 if decide (0≤i)&&Nat.blt i.toNat xs.length&&okL xs then k (σ.set l (xs.set i.toNat p))else false
noncomputable def notComp2(e:Expr):Bool:=@Expr.casesOn (λ_=>Bool) e (λa0 a1 a2=>true) (λa0 a1 a2=>true) (λa0 a1 a2 a3=>true) (λa0 a1 a2=>true) (λa0 a1 a2 a3=>true) (λa0 a1 a2 a3=>true) (λa0 a1 a2=>true) (λa0 a1 a2=>true) (λa0 a1 a2 a3=>false) (λa0 a1 a2 a3=>false) (λa0 a1 a2 a3 a4=>false) (λa0 a1 a2 a3=>true) (λa0 a1=>true) (λa0 a1=>true) (λa0 a1=>true) (λa0 a1 a2 a3=>true) (λa0 a1 a2 a3=>true) (λa0 a1 a2 a3=>true) (λa0 a1=>true) (λa0 a1 a2=>true) (λa0 a1 a2=>true) (λa0 a1 a2=>true) (λa0 a1=>true) (λa0 a1=>true) (λa0 a1=>true) (λa0 a1 a2=>false) (λa0 a1 a2 a3=>true)
noncomputable def itemS(cx:Cx)(L:Lvl)(x:Str)(i:Int)(y:Option Expr)(e:Expr)(ρ:Fr)(σ:Sto)(k:KF)(kx:KX):Bool:=if notComp2 e then(match y with
 |none=>L.ev e ρ σ (λp σ=>setP cx x i p ρ σ λσ=>k .next ρ σ) kx
 |some y=>L.ev e ρ σ (λp σ=>ptupK false p λps=>twoK false ps λp1 p2=>setP cx x i p1 ρ σ λσ=>assT y p2 ρ λρ=>k .next ρ σ) kx)else false
noncomputable def exAss(cx:Cx)(L:Lvl)(t e:Expr)(ρ:Fr)(σ:Sto)(k:KF)(kx:KX):Bool:=match isPair t e with
  |some tv=>ifS false (swapP ρ tv.1 tv.2) λz=>(match z with
   |none=>L.ev e ρ σ (λp σ=>assT t p ρ λρ=>k .next ρ σ) kx
   |some names=>L.ev e ρ σ (λp σ=>ptupK false p λps=>if Nat.beq ps.length names.length then ifS false (assNames names.reverse ps.reverse ρ) λρ=>k .next ρ σ else false) kx)
  |none=>evS cx L e ρ σ (λp σ=>assT t p ρ λρ=>k .next ρ σ) kx
noncomputable def exRaise(cx:Cx)(L:Lvl)(e:Expr)(ρ:Fr)(σ:Sto)(kx:KX):Bool:=call0K false e λg as ks _=>nilK false ks (nameK false g λf _=>oneK false as λa=>
 if nameOk f&&noStar a&&isGf cx f ρ then L.ev a ρ σ (λp σ=>pstrK false p λ_=>kx σ) kx else false)
noncomputable abbrev exWT:=ULift.{0,0} (Cx→Lvl→Fr→Sto→KF→KX→Bool)
noncomputable def exWN:exWT:=⟨λ_ _ _ _ _ _=>false⟩
noncomputable def exW(e:Stmt):exWT:=@Stmt.casesOn (λ_=>exWT) e (λa0 a1 a2 a3 a4 a5 a6 a7 a8 a9=>exWN) (λa0 a1 a2 a3 a4 a5 a6 a7 a8 a9=>exWN) (λa0 a1 a2 a3 a4 a5 a6 a7 a8 a9 a10=>exWN) (λo a1=>⟨λcx L ρ σ k kx=>ifS false o λe=>L.ev e ρ σ (λp σ=>k (.ret p) ρ σ) kx⟩) (λa0 a1=>exWN) (λts e a2=>⟨λcx L ρ σ k kx=>oneK false ts λt=>(match itemTgt t with
  |some x=>itemS cx L x.1 x.2.1 x.2.2 e ρ σ k kx
  |none=>if okTgt t then exAss cx L t e ρ σ k kx else false)⟩) (λa0 a1 a2 a3 a4 a5 a6=>exWN) (λa0 a1 a2 a3=>exWN) (λa0 a1 a2 a3 a4=>exWN) (λt it body orelse a4=>⟨λcx L ρ σ k kx=>nilK false orelse (if notSet it then evSrc cx L it ρ σ (λs σ=>if tgtOk s t then forGo L t body kx loopMax s ρ σ k else false) kx else false)⟩) (λa0 a1 a2 a3 a4=>exWN) (λt body orelse a3=>⟨λcx L ρ σ k kx=>nilK false orelse (whileGo L t body kx loopMax ρ σ k)⟩) (λt a b a3=>⟨λcx L ρ σ k kx=>L.tr t ρ σ (λc σ=>if c then execs L a ρ σ k kx else execs L b ρ σ k kx) kx⟩) (λa0 a1 a2=>exWN) (λa0 a1 a2=>exWN) (λa0 a1 a2=>exWN) (λe c a2=>⟨λcx L ρ σ k kx=>(match e with
  |some e=>(match c with|none=>exRaise cx L e ρ σ kx|some _=>false)
  |none=>false)⟩) (λa0 a1 a2 a3 a4=>exWN) (λa0 a1 a2 a3 a4=>exWN) (λa0 a1 a2=>exWN) (λa0 a1=>exWN) (λa0 a1 a2 a3=>exWN) (λa0 a1=>exWN) (λa0 a1=>exWN) (λe a1=>⟨λcx L ρ σ k kx=>if notComp e then L.ev e ρ σ (λ_ σ=>k .next ρ σ) kx else false⟩) (λa0=>exWN) (λa0=>exWN) (λa0=>exWN)
noncomputable def exS(cx:Cx)(L:Lvl)(st:Stmt)(ρ:Fr)(σ:Sto)(k:KF)(kx:KX):Bool:=(exW st).down cx L ρ σ k kx
noncomputable def lvl(cx:Cx):Nat→Lvl
 |0=>lvl0
 |n+1=>⟨evS cx (lvl cx n),trS cx (lvl cx n),exS cx (lvl cx n)⟩
noncomputable def lvlMax:Nat:=60
noncomputable def bindP:List Str→List PV→Option (List (Str×PV))
 | [],[]=>some []
 |x::xs,p::ps=>(bindP xs ps).map λr=>(x,p)::r
 |_,_=>none
noncomputable def lamOf(sc:Scope)(xs:List Str):Bool:=sc.names.all λx=>match x.2 with|.cell=>xs.any (eqS x.1)|_=>true
noncomputable def plainPar(a:Arguments):Bool:=a.posonlyargs.isEmpty&&a.vararg.isNone&&a.kwonlyargs.isEmpty&&a.kw_defaults.isEmpty&&a.kwarg.isNone
theorem plainPar_eq{a:Arguments}(h:plainPar a=true):a=⟨[],a.args,none,[],[],none,a.defaults⟩:=by
 obtain⟨po,as,va,ko,kd,kw,df⟩:=a
 refine band5 h ?_;clear h;intro h1 h2 h3 h4 h5
 obtain rfl:=List.isEmpty_iff.mp h1
 obtain rfl:=Option.isNone_iff_eq_none.mp h2
 obtain rfl:=List.isEmpty_iff.mp h3
 obtain rfl:=List.isEmpty_iff.mp h4
 obtain rfl:=Option.isNone_iff_eq_none.mp h5
 rfl
noncomputable def distinctS:List Str→Bool
 | []=>true
 |x::r=>!r.any (eqS x)&&distinctS r
noncomputable def codeOk(K:Frag)(fd:FuncData):Bool:=ifS false (refV fd.code) λc=>ifS false (kl K c) λo=>ifS false (fieldsV o) λvs=>ifS false vs[1]? λv=>ifS false (vstrV v) λq=>eqS q.1 fd.qualname
noncomputable def isParK(e:NameKind):Bool:=@NameKind.casesOn (λ_=>Bool) e true true false false false
noncomputable def parKind(sc:Scope)(x:Str):Bool:=ifS false (lk x sc.names) isParK
theorem parKind_eq{sc:Scope}{x:Str}(h:parKind sc x=true):lk x sc.names=some .local∨lk x sc.names=some .cell:=by
 refine ifE' h fT λk e h=>?_
 cases k with
 | «local» => exact .inl e
 |cell=>exact .inr e
 |_=>exact absF h
theorem isFun_eq{sc:Scope}(h:isFun sc=true):sc.kind=.function:=by
 unfold isFun at h
 generalize sc.kind=k at h
 cases k with
 |function=>rfl
 |_=>exact absF h
noncomputable def dfltOk(K:Frag)(fd:FuncData):Bool:=@Value.casesOn (λ_=>Bool) fd.defaults true false false (λa0=>false) (λa0 a1=>false) (λa0 a1=>false) (λa0 a1=>false) (λa0 a1=>false) (λa0=>false) (λa0=>false) (λt=>ifS false (kl K t) λo=>ifS false (seqV o) λ_=>true)
noncomputable def fnOk(K:Frag)(fd:FuncData):Bool:=plainPar fd.params&&distinctS (fd.params.args.map (·.arg))&&isFun fd.scope && !fd.scope.isCoroutine && !fd.scope.isGenerator&&Nat.beq fd.globals mainGlobals&&Nat.beq fd.builtins builtinsNs &&
 fd.closure.isEmpty&&codeOk K fd&&dfltOk K fd&&(fd.params.args.map (·.arg)).all (parKind fd.scope)
noncomputable def callP(T:Top)(gf:Addr)(orc:Orc)(f:PV)(args:List PV)(σ:Sto)(k:KV)(kx:KX):Bool:=poldK false f λa=>ifS false (kl T.K a) λo=>ifS false (funV o) λfd=>if fnOk T.K fd then
  ifS false (stmtsV fd.body) λbody=>ifS false (bindP (fd.params.args.map (·.arg)) args) λbs=>
   execs (lvl ⟨T,gf,orc⟩ lvlMax) body { scope:=fd.scope,vars:=bs,up:=[],lam:=lamOf fd.scope (fd.params.args.map (·.arg)),q:=Nat.beq a T.sh } σ (λfl _ σ=>match fl with
     |.next=>k .none σ
     |.ret p=>k p σ) kx
 else false
noncomputable def tower(T:Top)(gf:Addr)(sp:PV→List PV→Option (Sto→KV→KX→Bool)):Nat→Orc
 |0=>λ_ _ _ _ _=>false
 |d+1=>λf args σ k kx=>ifS (callP T gf (tower T gf sp d) f args σ k kx) (sp f args) λt=>t σ k kx
end
section
theorem runs_size{M:Model}{Γ:PySem.Ctx}{p:Pos}{t:Sem Fin}{fs:List Frame}{s:Shared}{e:PySem.End}{s':Shared}(r:Runs M Γ p t fs s e s') :
  s.heap.objs.size≤s'.heap.objs.size:=by
 induction r with
 |update _ _ ih=>exact vE (Nat.le_of_eq (Heap.size_after_update ..).symm) ih
 |alloc _ ih=>exact vE (by rw[Heap.size_push];exact Nat.le_succ _) ih
 |done=>exact vD _
 |raise=>exact vD _
 |yield=>exact vD _
 |call _ _ ih1 ih2=>exact vE ih1 ih2
 |resumeFresh _ _ _ _ ih1 ih2=>exact vE ih1 ih2
 |resumeSuspended _ _ _ _ ih1 ih2=>exact vE ih1 ih2
 |segRet _ _ ih1 ih2=>exact vE ih1 ih2
 |segGen _ _ ih1 ih2=>exact vE ih1 ih2
 |segSuspGen _ _ _ _ ih1 ih2=>exact vE ih1 ih2
 |_=>assumption
theorem wakes_size{M:Model}{Γ:PySem.Ctx}{p:Pos}{g:Nat}{r:Resume}{s:Shared}{res:GenResult}{s':Shared}(h:Wakes M Γ p g r s res s'):s.heap.objs.size≤s'.heap.objs.size:=by
 unfold Wakes at h
 split at h
 ·exact h.elim
 ·split at h
  ·refine x2_4 h λe s1 h1 zz zz he5=>?_;refine rwG he5 ?_;clear he5;(have z:=runs_size h1;exact z)
  ·refine rwG h.2 ?_;exact vD _
  ·refine rwG h.2 ?_;exact vD _
 ·refine x2_4 h λe s1 h1 zz zz he5=>?_;refine rwG he5 ?_;clear he5;(have z:=runs_size h1;exact z)
 ·rw[h.2];exact vD _
 ·rw[h.2];exact vD _
theorem wp_sized{α:Type}{M:Model}{Γ:PySem.Ctx}:∀(t:Sem α) (Q:α→Pos→Shared→Prop) (E:Value→Pos→Shared→Prop) (p:Pos) (s:Shared),Sem.wp M Γ t Q E p s →
  Sem.wp M Γ t (λa p s'=>Q a p s'∧s.heap.objs.size≤s'.heap.objs.size) (λe p s'=>E e p s'∧s.heap.objs.size≤s'.heap.objs.size) p s:=by
 intro t
 induction t with
 |pure a=>intro Q E p s h;exact⟨h,vD _⟩
 |raise e=>intro Q E p s h;exact⟨h,vD _⟩
 |unsupported w=>intro Q E p s h;exact h
 |finish e=>intro Q E p s h;exact h
 |rule t k ih=>intro Q E p s h;exact ih () Q E p s h
 | «at» q k ih=>intro Q E p s h;exact ih () Q E q s h
 |load a q k ih=>intro Q E p s h;refine x1_2 h λo ho h=>?_;exact⟨o,ho,ih o Q E p s h⟩
 |update a q f k ih=>
  intro Q E p s h
  refine⟨h.1,?_⟩
  have:=ih () Q E p _ h.2
  rw[show(s.heap.update a f).objs.size=s.heap.objs.size from Heap.size_after_update ..]at this
  exact this
 |loadIfAlive a k ih=>intro Q E p s h;exact ih _ Q E p s h
 |point l k ih=>intro Q E p s h;exact ih () Q E p s h
 |register a k ih=>intro Q E p s h;exact h
 |alloc o k ih=>
  intro Q E p s h
  refine Sem.wp_mono M Γ _ (λa p' s' q=>⟨q.1,vE ?_ q.2⟩) (λa p' s' q=>⟨q.1,vE ?_ q.2⟩) _ _ (ih _ Q E p _ h)
  all_goals (rw[Heap.size_push];exact Nat.le_succ _)
 |fresh k ih=>intro Q E p s h;exact ih _ Q E p _ h
 |ask k ih=>intro Q E p s h;exact ih _ Q E p s h
 |choose src n k ih=>intro Q E p s h;exact⟨h.1,ih _ Q E p _ h.2⟩
 |os q l k ih=>intro Q E p s h;exact ih _ Q E p _ h
 |call c hd g l k ih=>
  intro Q E p s h
  refine x2_2 h λr s' hr h=>?_
  have z:s.heap.objs.size≤s'.heap.objs.size:=runs_size hr
  exact⟨r,s',hr,Sem.wp_mono M Γ _ (λa p' s'' q=>⟨q.1,vE z q.2⟩) (λa p' s'' q=>⟨q.1,vE z q.2⟩) _ _ (ih r Q E p s' h)⟩
 |handled own k ih=>intro Q E p s h;exact ih _ Q E p s h
 |newGen c k ih=>intro Q E p s h;exact ih _ Q E p _ h
 |genState g k ih=>intro Q E p s h;refine x1_2 h λst hs h=>?_;exact⟨st,hs,ih _ Q E p s h⟩
 |resume g r l k ih=>
  intro Q E p s h
  refine x2_2 h λres s' hw h=>?_
  have z:=wakes_size hw
  exact⟨res,s',hw,Sem.wp_mono M Γ _ (λa p' s'' q=>⟨q.1,vE z q.2⟩) (λa p' s'' q=>⟨q.1,vE z q.2⟩) _ _ (ih res Q E p s' h)⟩
 |yield v g l k ih=>intro Q E p s h;exact h
 |stack k ih=>intro Q E p s h;exact ih _ Q E p s h
 |fork c k ih=>intro Q E p s h;exact h
 |thread k ih=>intro Q E p s h;exact ih _ Q E p s h
 |await a t d l k ih=>intro Q E p s h;exact h
theorem wpAny_sized{α:Type}{M:Model}{A:Around}{t:Sem α}{Q:α→Shared→Prop}{E:Value→Shared→Prop}{s:Shared}(h:wpAny M A t Q E s) :
  wpAny M A t (λa s'=>Q a s'∧s.heap.objs.size≤s'.heap.objs.size) (λe s'=>E e s'∧s.heap.objs.size≤s'.heap.objs.size) s:=
 λΓ p hΓ=>wp_sized t _ _ p s (h Γ p hΓ)
end
section
structure Fix where
 prog:Program
 w:World
 T:Top
 B:Heap
 P:Addr
 gf:Addr
 cc:Addr
 q:Str
 θ:Nat→List Nat
 η:Nat→(Addr→Option Obj)→Value→Prop
structure GW where
 Γ:Addr→Option Obj
 la:List Addr
noncomputable def den(θ:Nat→List Nat)(r:List Nat):List Nat:=r.flatMap λc=>if isLit c then[c]else θ (c-symB)
noncomputable def mkS(l:List Nat):Str:=⟨l.toArray⟩
mutual
inductive RepV(X:Fix)(g:GW):Value→PV→Prop
 |none:RepV X g .none .none
 |bool (b):RepV X g (.bool b) (.bool b)
 |int (i t):RepV X g (.int i t) (.int i)
 |str {r s} (t):s=mkS (den X.θ r)→RepV X g (.str s t) (.str r)
 |tup {a vs n ps}:g.Γ a=some { cls:=.type "tuple",data:=.seq vs n }→RepL X g vs.toList ps→RepV X g (.ref a) (.tup ps)
 |lst {a i}:g.la[i]?=some a→RepV X g (.ref a) (.lst i)
 |old {a o}:X.T.K.lookup a=some o→RepV X g (.ref a) (.old a)
 |dct {a o} {kvs:List (Str×Value)} {ks vs}:g.Γ a=some o→o.IsDictOf (strKind X.prog X.w) kvs→(a==sysModules)=false→ks=kvs.map (λkv=>PV.str kv.1.cps.toList) →
   (∀kv∈kvs,litR kv.1.cps.toList=true)→RepL X g (kvs.map (·.2)) vs→RepV X g (.ref a) (.dct ks vs)
 |dcti {a o} {kvs:List (Int×Value)} {ks vs}:g.Γ a=some o→o.IsDictOf (intKind X.prog X.w) kvs→(a==sysModules)=false→ks=kvs.map (λkv=>PV.int kv.1) →
   RepL X g (kvs.map (·.2)) vs→RepV X g (.ref a) (.dct ks vs)
 |clos {a oc od fd osl c co v ag body sc x p}:g.Γ a=some ⟨oc,od,.func fd,osl⟩→fd.params=ag→fd.body=.expr body→fd.scope=sc→fd.closure=[(x,c)]→fd.globals=mainGlobals→fd.builtins=builtinsNs →
   fd.defaults=.none→fd.kwdefaults=.none→(∃cd o vs t,fd.code=.ref cd∧g.Γ cd=some o∧o.data=.fields vs∧vs[1]?=some (.str fd.qualname t)) →
   g.Γ c=some co→co.data=.cell (some v)→RepV X g v p→RepV X g (.ref a) (.clos ag body sc x p)
 |hole {v Γ₀} (i):X.η i Γ₀ v→(∀a o,Γ₀ a=some o→g.Γ a=some o)→RepV X g v (.hole i)
inductive RepL(X:Fix)(g:GW):List Value→List PV→Prop
 |nil:RepL X g [] []
 |cons {v vs p ps}:RepV X g v p→RepL X g vs ps→RepL X g (v::vs) (p::ps)
end
structure ClosR(X:Fix)(g:GW)(a:Addr)(oc:_)(od:_)(fd:FuncData)(osl:_)(c:Addr)(co:Obj)(u:Value)(ag:Arguments)(body:Expr)(sc:Scope)(x:Str)(p:PV):Prop where
 e1:g.Γ a=some ⟨oc,od,.func fd,osl⟩
 e2:fd.params=ag
 e3:fd.body=.expr body
 e4:fd.scope=sc
 e5:fd.closure=[(x,c)]
 e6:fd.globals=mainGlobals
 e7:fd.builtins=builtinsNs
 e8:fd.defaults=.none
 e9:fd.kwdefaults=.none
 e10:∃cd o vs t,fd.code=.ref cd∧g.Γ cd=some o∧o.data=.fields vs∧vs[1]?=some (.str fd.qualname t)
 e11:g.Γ c=some co
 e12:co.data=.cell (some u)
 e13:RepV X g u p
noncomputable def DctR(X:Fix)(g:GW)(o:Obj)(ks vs:List PV):Prop:=
 (∃kvs:List (Str×Value),o.IsDictOf (strKind X.prog X.w) kvs∧ks=kvs.map (λkv=>PV.str kv.1.cps.toList)∧(∀kv∈kvs,litR kv.1.cps.toList=true)∧RepL X g (kvs.map (·.2)) vs) ∨
 ∃kvs:List (Int×Value),o.IsDictOf (intKind X.prog X.w) kvs∧ks=kvs.map (λkv=>PV.int kv.1)∧RepL X g (kvs.map (·.2)) vs
noncomputable def RepV.I(X:Fix)(g:GW)(v:Value)(p:PV):Prop:=
 @PV.casesOn (λ_=>Prop) p (v=.none) (λb=>v=.bool b) (λi=>∃t,v=.int i t) (λc=>∃t,v=.str (mkS (den X.θ c)) t)
  (λps=>∃a vs n,v=.ref a∧g.Γ a=some { cls:=.type "tuple",data:=.seq vs n }∧RepL X g vs.toList ps)
  (λi=>∃a,v=.ref a∧g.la[i]?=some a) (λa=>∃o,v=.ref a∧X.T.K.lookup a=some o) (λks vs=>∃a o,v=.ref a∧g.Γ a=some o∧(a==sysModules)=false∧DctR X g o ks vs)
  (λag body sc x p=>∃a oc od fd osl c co u,v=.ref a∧ClosR X g a oc od fd osl c co u ag body sc x p)
  (λi=>∃Γ₀,X.η i Γ₀ v∧∀a o,Γ₀ a=some o→g.Γ a=some o)
theorem RepV.inv{X:Fix}{g:GW}{v:Value}{p:PV}(r:RepV X g v p):RepV.I X g v p:=
 @RepV.casesOn X g (λv p _=>RepV.I X g v p) v p r rfl (λ_=>rfl) (λ_ t=>⟨t,rfl⟩) (λt e=>⟨t,e▸rfl⟩)
  (λe q=>⟨_,_,_,rfl,e,q⟩) (λe=>⟨_,rfl,e⟩) (λe=>⟨_,rfl,e⟩) (λe1 e2 e3 e4 e5 e6=>⟨_,_,rfl,e1,e3,.inl ⟨_,e2,e4,e5,e6⟩⟩) (λe1 e2 e3 e4 e5=>⟨_,_,rfl,e1,e3,.inr ⟨_,e2,e4,e5⟩⟩)
  (λe1 e2 e3 e4 e5 e6 e7 e8 e9 e10 e11 e12 e13=>⟨_,_,_,_,_,_,_,_,rfl,e1,e2,e3,e4,e5,e6,e7,e8,e9,e10,e11,e12,e13⟩)
  (λ_ h e=>⟨_,h,e⟩)
theorem RepV.iN{X:Fix}{g:GW}{v:Value}(r:RepV X g v .none):v=.none:=r.inv
theorem RepV.iB{X:Fix}{g:GW}{v:Value}{b:Bool}(r:RepV X g v (.bool b)):v=.bool b:=r.inv
theorem RepV.iI{X:Fix}{g:GW}{v:Value}{i:Int}(r:RepV X g v (.int i)):∃t,v=.int i t:=r.inv
theorem RepV.iS{X:Fix}{g:GW}{v:Value}{c:List Nat}(r:RepV X g v (.str c)):∃t,v=.str (mkS (den X.θ c)) t:=r.inv
theorem RepV.iT{X:Fix}{g:GW}{v:Value}{ps:List PV}(r:RepV X g v (.tup ps)):∃a vs n,v=.ref a∧g.Γ a=some { cls:=.type "tuple",data:=.seq vs n }∧RepL X g vs.toList ps:=r.inv
theorem RepV.iL{X:Fix}{g:GW}{v:Value}{i:Nat}(r:RepV X g v (.lst i)):∃a,v=.ref a∧g.la[i]?=some a:=r.inv
theorem RepV.iO{X:Fix}{g:GW}{v:Value}{a:Nat}(r:RepV X g v (.old a)):∃o,v=.ref a∧X.T.K.lookup a=some o:=r.inv
theorem RepV.iH{X:Fix}{g:GW}{v:Value}{i:Nat}(r:RepV X g v (.hole i)):∃Γ₀,X.η i Γ₀ v∧∀a o,Γ₀ a=some o→g.Γ a=some o:=r.inv
theorem RepV.iC{X:Fix}{g:GW}{v:Value}{ag:Arguments}{body:Expr}{sc:Scope}{x:Str}{p:PV}(r:RepV X g v (.clos ag body sc x p)):∃a oc od fd osl c co u,v=.ref a∧ClosR X g a oc od fd osl c co u ag body sc x p:=r.inv
noncomputable def RepL.I(X:Fix)(g:GW)(vs:List Value)(ps:List PV):Prop:=
 @List.casesOn PV (λ_=>Prop) ps (vs=[]) λp ps=>∃v us,vs=v::us∧RepV X g v p∧RepL X g us ps
theorem RepL.inv{X:Fix}{g:GW}{vs:List Value}{ps:List PV}(r:RepL X g vs ps):RepL.I X g vs ps:=
 @RepL.casesOn X g (λvs ps _=>RepL.I X g vs ps) vs ps r rfl λa b=>⟨_,_,rfl,a,b⟩
noncomputable def RepL.J(X:Fix)(g:GW)(vs:List Value)(ps:List PV):Prop:=@List.casesOn Value (λ_=>Prop) vs (ps=[]) λv vs=>∃p qs,ps=p::qs∧RepV X g v p∧RepL X g vs qs
theorem RepL.jnv{X:Fix}{g:GW}{vs:List Value}{ps:List PV}(r:RepL X g vs ps):RepL.J X g vs ps:=
 @RepL.casesOn X g (λvs ps _=>RepL.J X g vs ps) vs ps r rfl λa b=>⟨_,_,rfl,a,b⟩
theorem RepL.i0{X:Fix}{g:GW}{vs:List Value}(r:RepL X g vs []):vs=[]:=r.inv
theorem RepL.i1{X:Fix}{g:GW}{vs:List Value}{p:PV}{ps:List PV}(r:RepL X g vs (p::ps)):∃v us,vs=v::us∧RepV X g v p∧RepL X g us ps:=r.inv
theorem RepL.two{X:Fix}{g:GW}{vs:List Value}{p q:PV}(r:RepL X g vs [p,q]):∃v u,vs=[v,u]∧RepV X g v p∧RepV X g u q:=by refine x2_3 r.i1 λv us he2=>?_;refine rwG he2 ?_;clear he2;intro a b;refine x2_3 b.i1 λu us he2=>?_;refine rwG he2 ?_;clear he2;intro b c;refine rwG c.i0 ?_;exact⟨v,u,rfl,a,b⟩
theorem RepL.three{X:Fix}{g:GW}{vs:List Value}{p q r:PV}(h:RepL X g vs [p,q,r]):∃v u w,vs=[v,u,w]∧RepV X g v p∧RepV X g u q∧RepV X g w r:=by refine x2_3 h.i1 λv us he2=>?_;refine rwG he2 ?_;clear he2;intro a b;refine x2_3 b.two λu w he2=>?_;refine rwG he2 ?_;clear he2;intro b c;exact⟨v,u,w,rfl,a,b,c⟩
theorem RepL.one{X:Fix}{g:GW}{vs:List Value}{p:PV}(r:RepL X g vs [p]):∃v,vs=[v]∧RepV X g v p:=by refine x2_3 r.i1 λv us he2=>?_;refine rwG he2 ?_;clear he2;intro a b;refine rwG b.i0 ?_;exact⟨v,rfl,a⟩
structure GExt(g g':GW):Prop where
 ext:∀a o,g.Γ a=some o→g'.Γ a=some o
 la:∃t,g'.la=g.la++t
theorem neW{g:GW}{a b P:Addr}(h1:g.Γ a=none)(h2:a∉g.la)(h3:a≠P)(q:g.Γ b≠none∨b∈g.la∨b=P):b≠a:=by
 rintro rfl
 rcases q with q|q|q
 ·exact q h1
 ·exact h2 q
 ·exact h3 q
theorem GExt.new{g:GW}{a:Addr}{ob:Obj}(f:g.Γ a=none):GExt g ⟨λb=>if b=a then some ob else g.Γ b,g.la⟩:=⟨λb o' e=>by
  show(if b=a then _ else g.Γ b)=some o'
  rw[if_neg (by rintro rfl;rw[f]at e;exact absN e)];exact e,[],(vO _).symm⟩
theorem GExt.trans{a b c:GW}(x:GExt a b)(y:GExt b c):GExt a c:=
 ⟨λz o e=>y.ext z o (x.ext z o e),by refine x1_1 x.la λt h=>?_;refine x1_1 y.la λu h'=>?_;exact⟨t++u,by rw[h',h,List.append_assoc]⟩⟩
theorem GExt.idx{g g':GW}(x:GExt g g'){i:Nat}{a:Addr}(e:g.la[i]?=some a):g'.la[i]?=some a:=by
 refine x1_1 x.la λt h=>?_
 refine rwG h (rwG (List.getElem?_append_left (List.getElem?_eq_some_iff.mp e).1) ?_);exact e
theorem repV_mono{X:Fix}{g g':GW}(x:GExt g g'){v:Value}{p:PV}(r:RepV X g v p):RepV X g' v p:=by
 refine@RepV.rec X g (λv p zz=>RepV X g' v p) (λv p zz=>RepL X g' v p) ?_ ?_ ?_ ?_ ?_ ?_ ?_ ?_ ?_ ?_ ?_ ?_ ?_ v p r
 ·exact .none
 ·exact .bool
 ·exact .int
 ·intro r s t e;exact .str t e
 ·intro a vs n ps e zz ih;exact .tup (x.ext _ _ e) ih
 ·intro a i e;exact .lst (x.idx e)
 ·intro a o e;exact .old e
 ·intro a o kvs ks vs e h1 h2 h3 h4 zz ih;exact .dct (x.ext _ _ e) h1 h2 h3 h4 ih
 ·intro a o kvs ks vs e h1 h2 h3 zz ih;exact .dcti (x.ext _ _ e) h1 h2 h3 ih
 ·intro a oc od fd osl c co v ag body sc y p e h1 h2 h3 h4 h5 h6 h7 h8 h9 h10 h11 zz ih
  refine x4_3 h9 λcd o vs t i1 i2 i3=>?_;clear h9
  exact .clos (x.ext _ _ e) h1 h2 h3 h4 h5 h6 h7 h8 ⟨cd,o,vs,t,i1,x.ext _ _ i2,i3⟩ (x.ext _ _ h10) h11 ih
 ·intro v Γ₀ i e k;exact .hole i e λa o q=>x.ext _ _ (k a o q)
 ·exact .nil
 ·intro v vs p ps zz zz i1 i2;exact .cons i1 i2
@[elab_as_elim] theorem RepL.ind {X:Fix} {g:GW} {M:List Value→List PV→Prop} {vs:List Value} {ps:List PV} (r:RepL X g vs ps) (h0:M [] []) (h1:∀v us p ps,RepV X g v p→RepL X g us ps→M us ps→M (v::us) (p::ps)):M vs ps:=by
 induction ps generalizing vs with
 |nil=>exact rwG r.i0 h0
 |cons p ps ih=>exact x2_3 r.i1 λv us e a b=>rwG e (h1 _ _ _ _ a b (ih b))
theorem repL_mono{X:Fix}{g g':GW}(x:GExt g g'){vs:List Value}{ps:List PV}(r:RepL X g vs ps):RepL X g' vs ps:=
 r.ind .nil λ_ _ _ _ a _ i=>.cons (repV_mono x a) i
theorem RepL.length{X:Fix}{g:GW}{vs:List Value}{ps:List PV}(r:RepL X g vs ps):vs.length=ps.length:=
 r.ind rfl λ_ _ _ _ _ _ i=>congrArg Nat.succ i
theorem RepL.get_{X:Fix}{g:GW}{vs:List Value}{ps:List PV}(r:RepL X g vs ps):∀(i:Nat) (p:PV),ps[i]?=some p→∃v,vs[i]?=some v∧RepV X g v p:=by
 refine r.ind (λi p e=>absN (List.getElem?_nil.symm.trans e)) λv us q qs a _ k i p e=>?_
 cases i with
 |zero=>exact⟨v,rfl,vC e▸a⟩
 |succ i=>exact k i p e
theorem RepL.get{X:Fix}{g:GW}{vs:List Value}{ps:List PV}{i:Nat}{p:PV}(r:RepL X g vs ps)(e:ps[i]?=some p):∃v,vs[i]?=some v∧RepV X g v p:=r.get_ _ _ e
theorem RepL.none{X:Fix}{g:GW}{vs:List Value}{ps:List PV}{i:Nat}(r:RepL X g vs ps)(e:ps[i]?=Option.none):vs[i]?=Option.none:=by
 rw[List.getElem?_eq_none_iff]at e ⊢;rw[r.length];exact e
theorem RepL.append{X:Fix}{g:GW}{vs us:List Value}{ps qs:List PV}(r:RepL X g vs ps)(h:RepL X g us qs):RepL X g (vs++us) (ps++qs):=
 r.ind h λ_ _ _ _ a _ i=>.cons a i
theorem RepL.drop{X:Fix}{g:GW}(n:Nat){vs:List Value}{ps:List PV}(r:RepL X g vs ps):RepL X g (vs.drop n) (ps.drop n):=by
 induction n generalizing vs ps with
 |zero=>exact r
 |succ n ih=>exact r.ind .nil λ_ _ _ _ _ b _=>ih b
theorem RepL.take{X:Fix}{g:GW}(n:Nat){vs:List Value}{ps:List PV}(r:RepL X g vs ps):RepL X g (vs.take n) (ps.take n):=by
 induction n generalizing vs ps with
 |zero=>exact .nil
 |succ n ih=>exact r.ind .nil λ_ _ _ _ a b _=>.cons a (ih b)
theorem RepL.reverse{X:Fix}{g:GW}{vs:List Value}{ps:List PV}(r:RepL X g vs ps):RepL X g vs.reverse ps.reverse:=
 r.ind .nil λ_ _ _ _ a _ i=>rwG List.reverse_cons (rwG List.reverse_cons (i.append (.cons a .nil)))
structure TabInv(X:Fix)(g:GW)(h:Heap):Prop where
 tab:∃ps:Array Value,h.get? X.P=some (tabObj ps)∧TriplesOk ps.toList ∧
  ∀pos c',codeAmong pos ps.toList=some c'→∃cd o vs t,c'=.ref cd∧g.Γ cd=some o∧o.data=.fields vs∧vs[1]?=some (.str X.q t)
structure HR(X:Fix)(g:GW)(σ:Sto)(h:Heap):Prop where
 frz:∀a o,g.Γ a=some o→h.get? a=some o
 base:∀a o,X.B.get? a=some o→g.Γ a=some o
 len:g.la.length=σ.length
 lst:∀(i:Nat) (a:Addr) (xs:List PV),g.la[i]?=some a→σ[i]?=some xs→∃vs,h.PlainList a vs∧RepL X g vs.toList xs
 nod:g.la.Nodup
 laF:∀a∈g.la,g.Γ a=none∧a≠X.P
 tab:TabInv X g h
 noP:g.Γ X.P=none
structure Stp(X:Fix)(S:Addr→Prop)(FS:List Addr)(g:GW)(h:Heap)(g':GW)(h':Heap):Prop where
 size:h.objs.size≤h'.objs.size
 ext:∀a o,g.Γ a=some o→g'.Γ a=some o
 new:∀a o,g'.Γ a=some o→g.Γ a=some o∨h.objs.size≤a
 la:∃t,g'.la=g.la++t∧∀a∈t,h.objs.size≤a
 keep:∀b o,h.get? b=some o→¬S b→b∉g.la→b≠X.P→∃o',h'.get? b=some o'∧(o'=o∨(b∈FS∧∃sl,o' = { o with slots:=sl }))
theorem Stp.gext{X:Fix}{S FS g h g' h'}(x:Stp X S FS g h g' h'):GExt g g':=⟨x.ext,let ⟨t,e,_⟩:=x.la;⟨t,e⟩⟩
theorem Stp.refl{X:Fix}{S FS g h}:Stp X S FS g h g h:=
 ⟨vD _,λzz zz e=>e,λzz zz e=>.inl e,⟨[],(vO _).symm,λzz h=>(List.not_mem_nil h).elim⟩,λzz o e zz zz zz=>⟨o,e,.inl rfl⟩⟩
theorem Stp.trans{X:Fix}{S FS g h g' h' g'' h''}(x:Stp X S FS g h g' h')(y:Stp X S FS g' h' g'' h''):Stp X S FS g h g'' h'':=by
 refine⟨vE x.size y.size,λa o e=>y.ext a o (x.ext a o e),λa o e=>?_,?_,λb o e n1 n2 n3=>?_⟩
 ·rcases y.new a o e with e|e
  ·exact x.new a o e
  ·exact .inr (vE x.size e)
 ·refine x1_2 x.la λt e ht=>?_
  refine x1_2 y.la λu e' hu=>?_
  refine⟨t++u,by rw[e',e,List.append_assoc],λa ha=>?_⟩
  rcases List.mem_append.mp ha with ha|ha
  ·exact ht a ha
  ·exact vE x.size (hu a ha)
 ·refine x1_2 (x.keep b o e n1 n2 n3) λo' e' r=>?_
  have n2':b∉g'.la:=by
   refine x1_2 x.la λt q ht=>?_
   rw[q];intro hm
   rcases List.mem_append.mp hm with hm|hm
   ·exact n2 hm
   ·exact absurd (Heap.lt_size e) (vL (ht b hm))
  refine x1_2 (y.keep b o' e' n1 n2' n3) λo'' e'' r'=>?_
  refine⟨o'',e'',?_⟩
  rcases r with rfl|⟨hF,sl,rfl⟩
  ·exact r'
  ·rcases r' with rfl|⟨zz,sl',rfl⟩
   ·exact .inr ⟨hF,sl,rfl⟩
   ·exact .inr ⟨hF,sl',rfl⟩
theorem Stp.trans'{X:Fix}{S S' FS g h g' h' g'' h''}(x:Stp X S FS g h g' h')(y:Stp X S' FS g' h' g'' h'')(hS:∀b,S' b→S b∨h.objs.size≤b):Stp X S FS g h g'' h'':=by
 have x':Stp X (λb=>S b∨h.objs.size≤b) FS g h g' h':=⟨x.size,x.ext,x.new,x.la,λb o e n1 n2 n3=>x.keep b o e (λq=>n1 (.inl q)) n2 n3⟩
 have y':Stp X (λb=>S b∨h.objs.size≤b) FS g' h' g'' h'':=⟨y.size,y.ext,y.new,y.la,λb o e n1 n2 n3=>y.keep b o e (λq=>n1 (hS b q)) n2 n3⟩
 have z:=x'.trans y'
 exact⟨z.size,z.ext,z.new,z.la,λb o e n1 n2 n3=>z.keep b o e (λq=>by
  rcases q with q|q
  ·exact n1 q
  ·exact absurd (Heap.lt_size e) (vL q)) n2 n3⟩
theorem Stp.mono{X:Fix}{S S' FS FS' g h g' h'}(x:Stp X S FS g h g' h')(hS:∀b,S b→S' b)(hF:∀b∈FS,b∈FS'):Stp X S' FS' g h g' h':=
 ⟨x.size,x.ext,x.new,x.la,λb o e n1 n2 n3=>let ⟨o',e',r⟩:=x.keep b o e (λq=>n1 (hS b q)) n2 n3;⟨o',e',r.imp id λhz1=>by refine x0_2 hz1 λa b=>?_;clear hz1;exact⟨hF _ a,b⟩⟩⟩
theorem Stp.heap{X:Fix}{S FS g h h'}(hs:h.objs.size≤h'.objs.size)(k:∀b o,h.get? b=some o→¬S b→b∉g.la→b≠X.P→h'.get? b=some o):Stp X S FS g h g h':=
 ⟨hs,λzz zz e=>e,λzz zz e=>.inl e,⟨[],(vO _).symm,λzz h=>(List.not_mem_nil h).elim⟩,λb o e n1 n2 n3=>⟨o,k b o e n1 n2 n3,.inl rfl⟩⟩
theorem Stp.keepData{X:Fix}{S FS g h g' h'}(x:Stp X S FS g h g' h'){b:Addr}{o:Obj}(e:h.get? b=some o)(n1:¬S b)(n2:b∉g.la)(n3:b≠X.P) :
  ∃o',h'.get? b=some o'∧o'.data=o.data∧o'.cls=o.cls∧o'.dict=o.dict:=by
 refine x1_2 (x.keep b o e n1 n2 n3) λo' e' r=>?_
 refine⟨o',e',?_⟩
 rcases r with rfl|⟨zz,sl,rfl⟩ <;> exact⟨rfl,rfl,rfl⟩
theorem HR.heap{X:Fix}{g σ h h'}(x:HR X g σ h)(k:∀b o,h.get? b=some o→(g.Γ b≠none∨b∈g.la∨b=X.P)→h'.get? b=some o):HR X g σ h':=by
 refine⟨λa o e=>k a o (x.frz a o e) (.inl (by refine rwG e ?_;simp)),x.base,x.len,λi a xs e1 e2=>?_,x.nod,x.laF,?_,x.noP⟩
 ·refine x1_2 (x.lst i a xs e1 e2) λvs ho1 q=>?_;refine x1_1 ho1 λn ho=>?_;clear ho1
  exact⟨vs,⟨n,k a _ ho (.inr (.inl (vN e1)))⟩,q⟩
 ·refine x1_2 x.tab.tab λps h1 r=>?_
  exact⟨ps,k _ _ h1 (.inr (.inr rfl)),r⟩
theorem HR.freeze{X:Fix}{g σ h}(x:HR X g σ h){a:Addr}{o:Obj}(ho:h.get? a=some o)(hl:a∉g.la)(hP:a≠X.P)(hn:g.Γ a=none):HR X ⟨λb=>if b=a then some o else g.Γ b,g.la⟩ σ h:=by
 have ge:GExt g ⟨λb=>if b=a then some o else g.Γ b,g.la⟩:=⟨λb o' e=>by
  show(if b=a then some o else g.Γ b)=some o'
  by_cases hb:b=a
  ·subst hb;rw[hn]at e;exact absN e
  ·refine rwG (if_neg hb) ?_;exact e,[],(vO _).symm⟩
 refine⟨λb o' e=>?_,λb o' e=>ge.ext _ _ (x.base b o' e),x.len,λi b xs e1 e2=>?_,x.nod,λb hb=>⟨?_,(x.laF b hb).2⟩,?_,?_⟩
 ·have e':(if b=a then some o else g.Γ b)=some o':=e
  by_cases hb:b=a
  ·rw[if_pos hb]at e';refine someI e' ?_;clear e';intro hx;refine rwS hx ?_;clear hx;refine rwG hb ?_;exact ho
  ·rw[if_neg hb]at e';exact x.frz b o' e'
 ·refine x1_2 (x.lst i b xs e1 e2) λvs l q=>?_
  exact⟨vs,l,repL_mono ge q⟩
 ·show(if b=a then some o else g.Γ b)=none
  rw[if_neg (λq=>hl (by refine rwS q ?_;exact hb))];exact(x.laF b hb).1
 ·refine x1_3 x.tab.tab λps h1 h2 h3=>?_
  refine⟨ps,h1,h2,λpos c' e=>?_⟩
  refine x4_3 (h3 pos c' e) λcd oc vs t i1 i2 i3=>?_
  exact⟨cd,oc,vs,t,i1,ge.ext _ _ i2,i3⟩
 ·show(if X.P=a then some o else g.Γ X.P)=none
  rw[if_neg (Ne.symm hP)];exact x.noP
theorem Stp.freeze{X:Fix}{S FS g h g' h'}(x:Stp X S FS g h g' h'){a:Addr}{o:Obj}(ha:h.objs.size≤a)(hn:g'.Γ a=none):Stp X S FS g h ⟨λb=>if b=a then some o else g'.Γ b,g'.la⟩ h':=by
 refine⟨x.size,λb o' e=>?_,λb o' e=>?_,x.la,x.keep⟩
 ·have e1:=x.ext b o' e
  show(if b=a then some o else g'.Γ b)=some o'
  by_cases hb:b=a
  ·subst hb;rw[hn]at e1;exact absN e1
  ·rw[if_neg hb];exact e1
 ·have e':(if b=a then some o else g'.Γ b)=some o':=e
  by_cases hb:b=a
  ·exact .inr (by rw[hb];exact ha)
  ·rw[if_neg hb]at e';exact x.new b o' e'
theorem HR.lt{X:Fix}{g σ h}(x:HR X g σ h){a:Addr}{o:Obj}(e:g.Γ a=some o):a<h.objs.size:=Heap.lt_size (x.frz a o e)
theorem HR.laLt{X:Fix}{g σ h}(x:HR X g σ h){a:Addr}(e:a∈g.la):a<h.objs.size:=by
 refine x1_1 (List.getElem?_of_mem e) λi hi=>?_
 have hlt:=(List.getElem?_eq_some_iff.mp hi).1
 rw[x.len]at hlt
 refine x1_2 (x.lst i a _ hi (List.getElem?_eq_getElem hlt)) λvs ho2 zz=>?_;refine x1_1 ho2 λo ho=>?_;clear ho2
 exact Heap.lt_size ho
theorem HR.PLt{X:Fix}{g σ h}(x:HR X g σ h):X.P<h.objs.size:=by
 refine x1_2 x.tab.tab λps h1 zz=>?_
 exact Heap.lt_size h1
theorem HR.fresh{X:Fix}{g σ h}(x:HR X g σ h){a:Addr}(ha:h.objs.size≤a):g.Γ a=none∧a∉g.la∧a≠X.P:=by
 refine⟨?_,λhm=>absurd (x.laLt hm) (vL ha),λe=>absurd x.PLt (vL (e▸ha))⟩
 cases e:g.Γ a with
 |none=>rfl
 |some o=>exact absurd (x.lt e) (vL ha)
theorem HR.newList{X:Fix}{g σ h}(x:HR X g σ h){a:Addr}{vs:Array Value}{xs:List PV}(hl:h.PlainList a vs)(hr:RepL X g vs.toList xs)(h1:g.Γ a=none)(h2:a∉g.la)(h3:a≠X.P) :
  HR X ⟨g.Γ,g.la++[a]⟩ (σ++[xs]) h∧RepV X ⟨g.Γ,g.la++[a]⟩ (.ref a) (.lst σ.length):=by
 have ge:GExt g ⟨g.Γ,g.la++[a]⟩:=⟨λzz zz e=>e,[a],rfl⟩
 refine⟨⟨x.frz,x.base,by simp[x.len],λi b ys e1 e2=>?_,?_,λb hb=>?_,x.tab.tab |> λt=>⟨t⟩,x.noP⟩,.lst ?_⟩
 ·have e1':(g.la++[a])[i]?=some b:=e1
  by_cases hi:i<g.la.length
  ·rw[List.getElem?_append_left hi]at e1'
   rw[List.getElem?_append_left (x.len▸hi)]at e2
   refine x1_2 (x.lst i b ys e1' e2) λus l q=>?_
   exact⟨us,l,repL_mono ge q⟩
  ·have hi':i=g.la.length:=by
    have:=(List.getElem?_eq_some_iff.mp e1').1
    simp at this;(with_reducible exact Internal.ar119 (by assumption) (by assumption))
   subst hi'
   rw[List.getElem?_append_right (vD _),Nat.sub_self]at e1'
   rw[List.getElem?_append_right (by refine rwG x.len ?_;exact vD _),x.len,Nat.sub_self]at e2
   simp at e1' e2
   refine rwS e1' ?_;clear e1';subst e2
   exact⟨vs,hl,repL_mono ge hr⟩
 ·rw[List.nodup_append]
  exact⟨x.nod,by simp,λb hb c hc e=>by simp at hc;subst hc;subst e;exact h2 hb⟩
 ·have hb':b∈g.la++[a]:=hb
  rcases List.mem_append.mp hb' with hb|hb
  ·exact x.laF b hb
  ·simp at hb;refine rwG hb ?_;clear hb;exact⟨h1,h3⟩
 ·refine rwS x.len ?_;simp
theorem Stp.newList{X:Fix}{S FS g h g' h'}(x:Stp X S FS g h g' h'){a:Addr}(ha:h.objs.size≤a):Stp X S FS g h ⟨g'.Γ,g'.la++[a]⟩ h':=by
 refine⟨x.size,x.ext,x.new,?_,x.keep⟩
 refine x1_2 x.la λt e ht=>?_
 refine⟨t++[a],by show g'.la++[a]=_;rw[e,List.append_assoc],λb hb=>?_⟩
 rcases List.mem_append.mp hb with hb|hb
 ·exact ht b hb
 ·simp at hb;refine rwG hb ?_;clear hb;exact ha
theorem HR.setList{X:Fix}{g σ h h'}(x:HR X g σ h){i:Nat}{a:Addr}{vs:Array Value}{xs:List PV}(hi:g.la[i]?=some a)(hs:Heap.SameBut a h h')(hl:h'.PlainList a vs)(hr:RepL X g vs.toList xs) :
  HR X g (σ.set i xs) h':=by
 have ham:=vN hi
 have ne:∀b o,g.Γ b=some o→b≠a:=λb o e q=>by rw[q,(x.laF a ham).1]at e;exact absN e
 refine⟨λb o e=>(hs.2 b (ne b o e)).trans (x.frz b o e),x.base,by simp[x.len],λj b ys e1 e2=>?_,x.nod,x.laF,?_,x.noP⟩
 ·by_cases hj:j=i
  ·subst hj
   rw[hi]at e1;refine someI e1 ?_;clear e1;intro hx;subst hx
   have hlt:j<σ.length:=by refine rwS x.len ?_;exact(List.getElem?_eq_some_iff.mp hi).1
   rw[List.getElem?_set_self hlt]at e2;refine someI e2 ?_;clear e2;intro hx;subst hx
   exact⟨vs,hl,hr⟩
  ·rw[List.getElem?_set_ne (Ne.symm hj)]at e2
   refine x1_2 (x.lst j b ys e1 e2) λus ho3 q=>?_;refine x1_1 ho3 λo ho=>?_;clear ho3
   have hb:b≠a:=λe=>by
    subst e
    refine x1_1 (List.getElem?_eq_some_iff.mp hi) λl1 q1=>?_
    refine x1_1 (List.getElem?_eq_some_iff.mp e1) λl2 q2=>?_
    exact hj ((List.getElem_inj x.nod).mp (q2.trans q1.symm))
   exact⟨us,⟨o,(hs.2 b hb).trans ho⟩,q⟩
 ·refine x1_2 x.tab.tab λps t1 r=>?_
  exact⟨ps,(hs.2 _ (Ne.symm (x.laF a ham).2)).trans t1,r⟩
theorem Stp.setList{X:Fix}{S FS g h h'}{a:Addr}(ha:a∈g.la)(hs:Heap.SameBut a h h'):Stp X S FS g h g h':=
 Stp.heap (Nat.le_of_eq hs.1.symm) λb o e zz n2 zz=>(hs.2 b λq=>n2 (by refine rwG q ?_;exact ha)).trans e
end
section
noncomputable def FramesOK(X:Fix)(g:GW)(h:Heap)(l:List Env):Prop:=
 ∀env∈l,env.scope.kind≠.module∧∃L o,env.frame=some L∧g.Γ L=none∧L∉g.la∧L≠X.P∧h.get? L=some o∧∃es n,o.data=.dict es n
noncomputable abbrev fsOf(l:List Env):List Addr:=l.filterMap (·.frame)
theorem FramesOK.fun{X:Fix}{g:GW}{h:Heap}{σ:Sto}(R:HR X g σ h):∀{l:List Env},FramesOK X g h l→h.FunFrames X.B l
 | [],_=>trivial
 |env::r,x=>by
  refine x0_2 (x env (.head _)) λhk hq1=>?_;refine x2_6 hq1 λL o hf h1 h2 h3 h4 hq8=>?_;refine x2_1 hq8 λes n h5=>?_
  refine⟨hk,⟨L,o,hf,?_,h4,λvs q=>by rw[h5]at q;cases q⟩,FramesOK.fun R λe he=>x e (.tail _ he)⟩
  cases q:X.B.get? L with
  |none=>rfl
  |some o'=>have:=R.base L o' q;rw[h1]at this;exact absN this
theorem FramesOK.step{X:Fix}{S FS g h g' h'}{l:List Env}(x:FramesOK X g h l)(y:Stp X S FS g h g' h')(hS:∀env∈l,∀L,env.frame=some L→¬S L):FramesOK X g' h' l:=by
 intro env he
 refine x0_2 (x env he) λhk hq1=>?_;refine x2_6 hq1 λL o hf h1 h2 h3 h4 hq8=>?_;refine x2_1 hq8 λes n h5=>?_
 refine x1_4 (y.keepData h4 (hS env he L hf) h2 h3) λo' e1 e2 zz zz=>?_
 refine⟨hk,L,o',hf,?_,?_,h3,e1,es,n,e2.trans h5⟩
 ·cases q:g'.Γ L with
  |none=>rfl
  |some o'=>
   rcases y.new L o' q with q|q
   ·rw[h1]at q;exact absN q
   ·exact absurd (Heap.lt_size h4) (vL q)
 ·refine x1_2 y.la λt q ht=>?_
  refine rwG q ?_;intro hm
  rcases List.mem_append.mp hm with hm|hm
  ·exact h2 hm
  ·exact absurd (Heap.lt_size h4) (vL (ht L hm))
theorem FramesOK.slots{X:Fix}{g h h'}{l:List Env}(x:FramesOK X g h l)(k:∀b o,h.get? b=some o→(∀vs,o.data≠.fields vs)→∃o',h'.get? b=some o'∧o'.data=o.data):FramesOK X g h' l:=by
 intro env he
 refine x0_2 (x env he) λhk hq1=>?_;refine x2_6 hq1 λL o hf h1 h2 h3 h4 hq8=>?_;refine x2_1 hq8 λes n h5=>?_
 refine x1_2 (k L o h4 λvs q=>by rw[h5]at q;cases q) λo' e1 e2=>?_
 exact⟨hk,L,o',hf,h1,h2,h3,e1,es,n,e2.trans h5⟩
theorem FramesOK.mem{X:Fix}{g h}{l:List Env}(x:FramesOK X g h l){b:Addr}(hb:b∈fsOf l):g.Γ b=none∧b∉g.la∧b≠X.P∧∃o,h.get? b=some o∧∃es n,o.data=.dict es n:=by
 refine x1_2 (List.mem_filterMap.mp hb) λenv he hf=>?_
 refine x0_2 (x env he) λzz hq1=>?_;refine x2_6 hq1 λL o hf' h1 h2 h3 h4 h5=>?_
 rw[hf]at hf';refine someI hf' ?_;clear hf';intro hx;refine rwG hx ?_;clear hx
 exact⟨h1,h2,h3,o,h4,h5⟩
noncomputable def excT(X:Fix)(g:GW)(lo:Nat)(h:Heap)(ea:Addr)(vs:Array Value)(T:Option (Addr×Value)):Prop:=match T with
 |none=>vs[1]?=some .none
 |some (t,fl)=>vs[1]?=some (.ref t)∧t≠ea∧lo≤t∧(g.Γ t=none∧t∉g.la∧t≠X.P)∧∃oT ts,h.get? t=some oT∧oT.data=.fields ts∧ts[3]?=some fl
structure ExcR(X:Fix)(g:GW)(lo:Nat)(h:Heap)(ea:Addr)(T:Option (Addr×Value)):Prop where
 le:lo≤ea
 ok:g.Γ ea=none∧ea∉g.la∧ea≠X.P
 obj:∃oe vs,h.get? ea=some oe∧oe.cls=.ref X.gf∧oe.data=.fields vs∧1<vs.size∧excT X g lo h ea vs T
structure XR(X:Fix)(S:Addr→Prop)(l:List Env)(g₀:GW)(s₀:Shared)(kx:KX)(T:Option (Addr×Value))(e:Value)(s:Shared):Prop where
 of:∃g σ ea,e=.ref ea∧Stp X S (fsOf l) g₀ s₀.heap g s.heap∧HR X g σ s.heap∧ExcR X g s₀.heap.objs.size s.heap ea T∧FramesOK X g s.heap l∧kx σ=true
 gens:s.gens=s₀.gens
 os:s.os=s₀.os
noncomputable def okT(F:Addr)(T:Option (Addr×Value)):Prop:=T=none∨∃t,T=some (t,.none)∨T=some (t,rawInt F)
noncomputable def PX(X:Fix)(S:Addr→Prop)(l:List Env)(F:Addr)(g₀:GW)(s₀:Shared)(kx:KX):Value→Shared→Prop:=λe s=>∃T,okT F T∧XR X S l g₀ s₀ kx T e s
theorem ExcR.el{X:Fix}{g:GW}{lo:Nat}{h:Heap}{ea:Addr}{T:Option (Addr×Value)}{G:Prop}(x:ExcR X g lo h ea T)(k:lo≤ea→(g.Γ ea=none∧ea∉g.la∧ea≠X.P)→∀oe vs,h.get? ea=some oe→oe.cls=.ref X.gf→oe.data=.fields vs→1<vs.size→excT X g lo h ea vs T→G):G:=
 x.obj.elim λoe q=>q.elim λvs q=>k x.le x.ok oe vs q.1 q.2.1 q.2.2.1 q.2.2.2.1 q.2.2.2.2
theorem XR.el{X:Fix}{S:Addr→Prop}{l:List Env}{g₀:GW}{s₀:Shared}{kx:KX}{T:Option (Addr×Value)}{e:Value}{s:Shared}{G:Prop}(x:XR X S l g₀ s₀ kx T e s)(k:∀g σ ea,e=.ref ea→Stp X S (fsOf l) g₀ s₀.heap g s.heap→HR X g σ s.heap→ExcR X g s₀.heap.objs.size s.heap ea T→FramesOK X g s.heap l→kx σ=true→s.gens=s₀.gens→s.os=s₀.os→G):G:=
 x.of.elim λg q=>q.elim λσ q=>q.elim λea q=>k g σ ea q.1 q.2.1 q.2.2.1 q.2.2.2.1 q.2.2.2.2.1 q.2.2.2.2.2 x.gens x.os
theorem PX.kxs{X:Fix}{S:Addr→Prop}{l:List Env}{F:Addr}{g₀:GW}{s₀:Shared}{kx:KX}{e:Value}{s:Shared}(x:PX X S l F g₀ s₀ kx e s):∃σ,kx σ=true:=
 x.elim λT q=>XR.el q.2 λg σ ea _ _ _ _ _ h _ _=>⟨σ,h⟩
section
variable{X:Fix}{S:Addr→Prop}{l:List Env}{g₀:GW}{s₀:Shared}{kx:KX}{M:Model}{A:Around}{E:Value→Shared→Prop}{s:Shared}
theorem frameOf_rel{env fe:Env}{outer:List Env}{F:Addr}{g:GW}{σ:Sto}{Q:Value→Shared→Prop}(hA:A.frames=some (fe::outer))(hfe:fe.frame=some F)(hf:env.frame=some F)
  (R:HR X g σ s.heap) (hF:FramesOK X g s.heap (fe::outer))
  (h:∀h',Heap.SlotsOnly (fsOf (fe::outer)) s.heap h'→Q (.ref F) { s with heap:=h' }):wpAny M A (PySem.frameOf env) Q E s:=by
 refine wpAny_bind (wpAny_frameEnvs hA ?_)
 have hdw:((fe::outer).dropWhile λx=>x.frame != env.frame)=fe::outer:=by simp[List.dropWhile,hf,hfe]
 refine rwG hdw ?_
 refine wpAny_bind (wpAny_bind (wpAny_readyFrames_fun (hF.fun R) λh₁ hs₁=>wpAny_pure ?_))
 refine rwG hfe ?_
 exact wpAny_pure (h h₁ hs₁)
theorem HR.slots{g:GW}{σ:Sto}{h h':Heap}(R:HR X g σ h){l:List Env}(hF:FramesOK X g h l)(hs:Heap.SlotsOnly (fsOf l) h h'):HR X g σ h':=
 R.heap λb o e q=>(hs.2.1 b λhm=>by
  refine x0_4 (hF.mem hm) λn1 n2 n3 zz=>?_
  rcases q with q|q|q
  ·exact q n1
  ·exact n2 q
  ·exact n3 q).trans e
theorem HR.record{g:GW}{σ:Sto}{h:Heap}(R:HR X g σ h){a:Addr}{f:Obj→Obj}(n:g.Γ a=none∧a∉g.la∧a≠X.P):HR X g σ (h.update a f):=
 R.heap λb o e q=>(Heap.get?_update_other h f (neW n.1 n.2.1 n.2.2 q).symm).trans e
theorem HR.push{g:GW}{σ:Sto}{h:Heap}(R:HR X g σ h)(o:Obj):HR X g σ (h.push o):=R.heap λzz zz e zz=>Heap.get?_push_of_some _ e
theorem XR.step{g₀:GW}{s₀:Shared}{T':Option (Addr×Value)}{e:Value}{g:GW}{σ:Sto}{ea:Addr}{h':Heap}{tk:Nat}(hg:s.gens=s₀.gens)(hos:s.os=s₀.os)
  (he:e=.ref ea) (hs:Stp X S (fsOf l) g₀ s₀.heap g s.heap) (hsz:s.heap.objs.size≤h'.objs.size)
  (hk:∀b o,s.heap.get? b=some o→b<s₀.heap.objs.size→∃o',h'.get? b=some o'∧(o'=o∨(b∈fsOf l∧∃sl,o' = { o with slots:=sl })))
  (R:HR X g σ h') (hx:ExcR X g s₀.heap.objs.size h' ea T') (hF:FramesOK X g h' l) (hkx:kx σ=true):XR X S l g₀ s₀ kx T' e { s with heap:=h',toks:=tk }:=by
 refine⟨⟨g,σ,ea,he,⟨vE hs.size hsz,hs.ext,hs.new,hs.la,λb o e n1 n2 n3=>?_⟩,R,hx,hF,hkx⟩,hg,hos⟩
 refine x1_2 (hs.keep b o e n1 n2 n3) λo' e' r=>?_
 refine x1_2 (hk b o' e' (Heap.lt_size e)) λo'' e'' r'=>?_
 refine⟨o'',e'',?_⟩
 rcases r with rfl|⟨hF,sl,rfl⟩
 ·exact r'
 ·rcases r' with rfl|⟨zz,sl',rfl⟩
  ·exact .inr ⟨hF,sl,rfl⟩
  ·exact .inr ⟨hF,sl',rfl⟩
theorem newEntry_rel{env fe:Env}{outer:List Env}{F:Addr}{T:Option (Addr×Value)}{e head:Value}{hadNext:Bool}{Q:Unit→Shared→Prop}(hA:A.frames=some (fe::outer))(hfe:fe.frame=some F)(hf:env.frame=some F)
  (x:XR X S (fe::outer) g₀ s₀ kx T e s) (h:∀t s',XR X S (fe::outer) g₀ s₀ kx (some (t,rawInt F)) e s'→Q () s') :
  wpAny M A (do let a ←PySem.frameOf env;let pl ←entryPlaceOf F hadNext;let b ←EntryCells.newEntry head a .none (rawInt F) .none pl;setField e 1 b) Q E s:=by
 refine XR.el x λg σ ea he0 hst R hx hF hkx hg hos=>?_;clear x;subst he0
 refine wpAny_bind (frameOf_rel hA hfe hf R hF λh₁ hs₁=>?_)
 refine wpAny_bind (wpAny_entryPlaceOf λpl hpl=>?_)
 refine wpAny_bind (wpAny_newObj_type ?_ (hpl.sizeOk5 _ _ _ _ _))
 obtain⟨hle,hok,oe,vs,he,hcls,hd,hsz,hT⟩:=hx
 have hene:ea∉fsOf (fe::outer):=λhm=>by
  refine x0_4 (hF.mem hm) λzz zz zz hq3=>?_;refine x1_2 hq3 λo ho hq5=>?_;refine x2_1 hq5 λes n hdd=>?_
  rw[he]at ho;refine someI ho ?_;clear ho;intro hx;subst hx;rw[hd]at hdd;cases hdd
 have he₁:h₁.get? ea=some oe:=(hs₁.2.1 ea hene).trans he
 have he₂:=Heap.get?_push_of_some (h:=h₁) { cls:=.type "traceback",dict:=none,data:=.fields ([head,.ref F,.none,rawInt F,.none]++(if pl.isEmpty then List.replicate 6 Value.none else pl)).toArray } he₁
 dsimp only
 refine wpAny_setField he₂ hd hsz (h h₁.objs.size _ ?_)
 have R₁:=R.slots hF hs₁
 have hle₁:s₀.heap.objs.size≤h₁.objs.size:=by refine rwG hs₁.1 ?_;exact hst.size
 have hTe:h₁.objs.size≠ea:=Nat.ne_of_gt (Heap.lt_size he₁)
 have fr:=R₁.fresh (vD h₁.objs.size)
 refine XR.step (s:=s) hg hos rfl hst ?_ ?_ ((R₁.push _).record hok) ⟨hle,hok,_,_,Heap.get?_update_self _ he₂ (Obj.isFreed_of_fields (Obj.data_mapFields hd _)),(Obj.cls_mapFields _ _).trans hcls,Obj.data_mapFields hd _,by simpa using hsz,?_⟩ ?_ hkx
 ·rw[Heap.size_after_update,Heap.size_push,hs₁.1];exact Nat.le_succ _
 ·intro b o hb hlt
  have hbe:ea≠b:=λq=>absurd hle (Nat.not_le.mpr (q▸hlt))
  refine rwG (Heap.get?_update_other _ _ hbe) ?_
  by_cases hm:b∈fsOf (fe::outer)
  ·refine x1_1 (hs₁.2.2 b o hb) λsl e2=>?_
   exact⟨_,Heap.get?_push_of_some _ e2,.inr ⟨hm,sl,rfl⟩⟩
  ·exact⟨o,Heap.get?_push_of_some _ ((hs₁.2.1 b hm).trans hb),.inl rfl⟩
 ·refine⟨by simp[hsz],hTe,hle₁,fr,_,_,(Heap.get?_update_other _ _ (Ne.symm hTe)).trans (Heap.get?_push_size h₁ rfl),rfl,?_⟩
  rcases hpl with rfl|⟨zz,zz,zz,zz,zz,zz,zz,rfl⟩ <;> simp
 ·refine(hF.slots (h':=h₁) λb o hb zz=>?_).slots λb o hb hn=>?_
  ·refine x1_1 (hs₁.2.2 b o hb) λsl e2=>?_;exact⟨_,e2,rfl⟩
  ·refine⟨o,?_,rfl⟩
   have hbe:ea≠b:=by rintro rfl;rw[he₁]at hb;refine someI hb ?_;clear hb;intro hx;subst hx;exact hn _ hd
   refine rwG (Heap.get?_update_other _ _ hbe) ?_;exact Heap.get?_push_of_some _ hb
theorem noteFrame_rel{env fe:Env}{outer:List Env}{F:Addr}{e:Value}{Q:Unit→Shared→Prop}(hA:A.frames=some (fe::outer))(hfe:fe.frame=some F)(hf:env.frame=some F)
  (x:PX X S (fe::outer) F g₀ s₀ kx e s) (h:∀t s',XR X S (fe::outer) g₀ s₀ kx (some (t,rawInt F)) e s'→Q () s') :
  wpAny M A (noteFrame e env) Q E s:=by
 refine x1_2 x λT hT x=>?_
 refine XR.el x λg σ ea he0 hst R hx hF hkx hg hos=>?_;subst he0
 obtain⟨hle,hok,oe,vs,he,hcls,hd,hsz,hT'⟩:=hx
 unfold noteFrame
 simp only[hf]
 rcases hT with rfl|⟨t,rfl|rfl⟩
 ·refine wpAny_bind (wpAny_field he hd hT' ?_)
  refine rwG (if_neg (by decide)) ?_
  exact newEntry_rel hA hfe hf x h
 ·refine x0_5 hT' λh1 hte hlt ht hq4=>?_;refine x2_3 hq4 λoT ts hoT hdT h3=>?_
  refine wpAny_bind (wpAny_field he hd h1 ?_)
  rw[if_pos (show(Value.ref t != Value.none)=true from by simp)]
  refine wpAny_bind (wpAny_field hoT hdT h3 ?_)
  refine rwG (if_neg (show¬((Value.none==rawInt F)=true)from by simp[rawInt])) ?_
  refine wpAny_bind (wpAny_setField hoT hdT (Array.getElem?_eq_some_iff.mp h3).1 ?_)
  have other:∀b,t≠b→(s.heap.update t (Obj.mapFields (·.setIfInBounds 3 Value.none))).get? b=s.heap.get? b:=λb hb=>Heap.get?_update_other _ _ hb
  have x':XR X S (fe::outer) g₀ s₀ kx (some (t,.none)) (.ref ea) { s with heap:=s.heap.update t (Obj.mapFields (·.setIfInBounds 3 Value.none)) }:=by
   refine XR.step (s:=s) (tk:=s.toks) hg hos rfl hst (by rw[Heap.size_after_update];exact vD _) (λb o hb hl=>⟨o,(other b λq=>absurd hlt (Nat.not_le.mpr (q▸hl))).trans hb,.inl rfl⟩) (R.record ht)
    ⟨hle,hok,oe,vs,(other ea hte).trans he,hcls,hd,hsz,h1,hte,hlt,ht,_,_,Heap.get?_update_self _ hoT (Obj.isFreed_of_fields (Obj.data_mapFields hdT _)),Obj.data_mapFields hdT _,?_⟩ ?_ hkx
   ·simp[(Array.getElem?_eq_some_iff.mp h3).1]
   ·exact hF.slots λb o hb hn=>⟨o,(other b λq=>by subst q;rw[hoT]at hb;refine someI hb ?_;clear hb;intro hx;subst hx;exact hn _ hdT).trans hb,rfl⟩
  exact newEntry_rel hA hfe hf x' h
 ·refine x0_5 hT' λh1 hte hlt ht hq4=>?_;refine x2_3 hq4 λoT ts hoT hdT h3=>?_;clear hT'
  refine wpAny_bind (wpAny_field he hd h1 ?_)
  rw[if_pos (show(Value.ref t != Value.none)=true from by simp)]
  refine wpAny_bind (wpAny_field hoT hdT h3 ?_)
  refine rwG (if_pos (show(rawInt F==rawInt F)=true from by simp)) ?_
  exact wpAny_pure (h t s x)
theorem setFlight_rel{fr:Option Addr}{t:Addr}{fl:Value}{e:Value}{Q:Unit→Shared→Prop}(x:XR X S l g₀ s₀ kx (some (t,fl)) e s)
  (h:∀s',XR X S l g₀ s₀ kx (some (t,fr.elim .none λf=>rawInt f)) e s'→Q () s'):wpAny M A (setFlight e fr) Q E s:=by
 refine XR.el x λg σ ea he0 hst R hx hF hkx hg hos=>?_;subst he0
 obtain⟨hle,hok,oe,vs,he,hcls,hd,hsz,h1,hte,hlt,ht,oT,ts,hoT,hdT,h3⟩:=hx
 refine wpAny_bind (wpAny_field he hd h1 ?_)
 refine rwG (if_pos (show(Value.ref t != Value.none)=true from by simp)) ?_
 have other:∀b,t≠b→(s.heap.update t (Obj.mapFields (·.setIfInBounds 3 (fr.elim .none λf=>rawInt f)))).get? b=s.heap.get? b:=λb hb=>Heap.get?_update_other _ _ hb
 refine wpAny_setField hoT hdT (Array.getElem?_eq_some_iff.mp h3).1 (h _ ?_)
 refine XR.step (s:=s) (tk:=s.toks) hg hos rfl hst (by rw[Heap.size_after_update];exact vD _) (λb o hb hl=>⟨o,(other b λq=>absurd hlt (Nat.not_le.mpr (q▸hl))).trans hb,.inl rfl⟩) (R.record ht)
  ⟨hle,hok,oe,vs,(other ea hte).trans he,hcls,hd,hsz,h1,hte,hlt,ht,_,_,Heap.get?_update_self _ hoT (Obj.isFreed_of_fields (Obj.data_mapFields hdT _)),Obj.data_mapFields hdT _,?_⟩ ?_ hkx
 ·simp[(Array.getElem?_eq_some_iff.mp h3).1]
 ·exact hF.slots λb o hb hn=>⟨o,(other b λq=>by subst q;rw[hoT]at hb;refine someI hb ?_;clear hb;intro hx;subst hx;exact hn _ hdT).trans hb,rfl⟩
theorem leaving_rel{env fe:Env}{outer:List Env}{F:Addr}{e:Value}{Q:Unit→Shared→Prop}(hA:A.frames=some (fe::outer))(hfe:fe.frame=some F)(hf:env.frame=some F)
  (x:PX X S (fe::outer) F g₀ s₀ kx e s) (h:∀t s',XR X S (fe::outer) g₀ s₀ kx (some (t,.none)) e s'→Q () s') :
  wpAny M A (leaving env e) Q E s:=by
 exact wpAny_bind (noteFrame_rel hA hfe hf x λt s' x'=>setFlight_rel (fr:=none) x' λs'' x''=>h t s'' x'')
theorem cameBack_rel{env fe:Env}{outer:List Env}{F:Addr}{t:Addr}{e fl:Value}(hf:env.frame=some F)
  (x:XR X S (fe::outer) g₀ s₀ kx (some (t,fl)) e s) (h:∀s',PX X S (fe::outer) F g₀ s₀ kx e s'→E e s'):cameBackBy M A env E e s:=by
 refine XR.el x λg σ ea he0 hst R hx hF hkx hg hos=>?_;subst he0
 obtain⟨hle,hok,oe,vs,he,hcls,hd,hsz,h1,zz⟩:=hx
 refine wpAny_bind (wpAny_field he hd h1 ?_)
 refine rwG (if_neg (show¬((Value.ref t==Value.none)=true)from by simp)) ?_
 refine rwG hf ?_
 exact setFlight_rel (fr:=some F) x λs' x'=>h s' ⟨_,.inr ⟨t,.inr rfl⟩,x'⟩
theorem passOn_rel{α:Type}{what:String}{env fe:Env}{outer:List Env}{F:Addr}{t:Addr}{e fl:Value}{Q:α→Shared→Prop}(hf:env.frame=some F)
  (x:XR X S (fe::outer) g₀ s₀ kx (some (t,fl)) e s) (h:∀s',PX X S (fe::outer) F g₀ s₀ kx e s'→E e s'):wpAny M A (PySem.passOn what e env:Sem α) Q E s:=by
 refine XR.el x λg σ ea he0 hst R hx hF hkx hg hos=>?_;subst he0
 obtain⟨hle,hok,oe,vs,he,hcls,hd,hsz,h1,zz⟩:=hx
 refine wpAny_bind (wpAny_field he hd h1 ?_)
 refine rwG (if_neg (show¬((Value.ref t==Value.none)=true)from by simp)) ?_
 refine rwG hf ?_
 exact wpAny_bind (setFlight_rel (fr:=some F) x λs' x'=>wpAny_throw (h s' ⟨_,.inr ⟨t,.inr rfl⟩,x'⟩))
end
end
section
theorem eqL_eq:∀{a b:List Nat},eqL a b=true→a=b
 | [],[],_=>rfl
 |a::r,b::s,h=>by
  refine x0_2 (vJ (show(Nat.beq a b&&eqL r s)=true from h)) λh1 h2=>?_
  exact rwG (vB h1) (rwG (eqL_eq h2) rfl)
 | [],_::_,h=>by exact absF h
 |_::_,[],h=>by exact absF h
theorem eqL_self:∀a:List Nat,eqL a a=true
 | []=>rfl
 |a::r=>by show(Nat.beq a a&&eqL r r)=true;rw[Nat.beq_refl,eqL_self r];rfl
theorem eqL_false{a b:List Nat}(h:eqL a b=false):a≠b:=λe=>by subst e;rw[eqL_self]at h;exact absT h
theorem eqS_iff{a b:Str}:eqS a b=(a==b):=by
 cases h:eqS a b with
 |true=>
  have e:=eqL_eq h
  obtain⟨⟨x⟩⟩:=a;obtain⟨⟨y⟩⟩:=b
  have e':x=y:=e
  refine rwG e' ?_;clear e';simp
 |false=>
  have e:=eqL_false h
  symm;rw[beq_eq_false_iff_ne];intro q;subst q;exact e rfl
theorem lk_eq{α:Type}(x:Str):∀l:List (Str×α),lk x l=l.lookup x
 | []=>rfl
 |(y,v)::r=>by
  rw[lk_c,List.lookup_cons,eqS_iff,lk_eq x r]
  cases x==y <;> rfl
theorem lk_put{α:Type}(x y:Str)(v:α):∀l:List (Str×α),lk y (put x v l)=if y=x then some v else lk y l
 | []=>by
  by_cases h:y=x
  ·subst h;simp[put_n,lk_c,eqS_iff]
  ·have:(y==x)=false:=by simpa using h
   simp[put_n,lk_c,lk_n,eqS_iff,h]
 |(z,u)::r=>by
  rw[put_c]
  by_cases hxz:x=z
  ·subst hxz
   rw[if_pos (by refine rwG eqS_iff ?_;simp)]
   by_cases h:y=x
   ·subst h;simp[lk_c,eqS_iff]
   ·simp[lk_c,eqS_iff,h]
  ·rw[if_neg (by rw[eqS_iff];simpa using hxz)]
   rw[lk_c,lk_put x y v r]
   by_cases hyz:y=z
   ·subst hyz
    rw[if_pos (by rw[eqS_iff];simp),if_neg (Ne.symm hxz)]
    simp[lk_c,eqS_iff]
   ·have e:eqS y z=false:=by rw[eqS_iff];simpa using hyz
    rw[lk_c,e];simp
theorem den_append(θ)(a b:List Nat):den θ (a++b)=den θ a++den θ b:=by unfold den;exact rwG List.flatMap_append rfl
theorem den_lit{θ}:∀{r:List Nat},litR r=true→den θ r=r
 | [],_=>rfl
 |c::r,h=>by
  refine x0_2 (vJ (show(isLit c&&litR r)=true from h)) λh1 h2=>?_
  show(if isLit c then[c]else θ (c-symB))++den θ r=_
  refine rwG (if_pos h1) (rwG (den_lit h2) ?_);rfl
theorem den_ne{θ:Nat→List Nat}(hθ:∀i,θ i≠[]):∀{r:List Nat},r≠[]→den θ r≠[]
 | [],h=>absurd rfl h
 |c::r,_=>by
  intro e
  refine x0_2 (List.append_eq_nil_iff.mp e) λe1 zz=>?_
  refine iteS e1 ?_ ?_ <;> clear e1 <;> intro _ e1
  ·cases e1
  ·exact hθ _ e1
theorem den_len{θ:Nat→List Nat}(hθ:∀i,(θ i).length≤4096):∀r:List Nat,(den θ r).length≤4096*r.length
 | []=>vD _
 |c::r=>by
  show((if isLit c then[c]else θ (c-symB))++den θ r).length≤_
  refine rwG List.length_append (rwG List.length_cons ?_)
  have h1:=den_len hθ r
  have h2:(if isLit c then[c]else θ (c-symB)).length≤4096:=by split;(simp);exact hθ _
  (with_reducible exact Internal.ar24 (by assumption) (by assumption))
theorem okL_le'{α:Type}{r:List α}(h:okL r=true):r.length≤4000:=vA h
theorem okL_le{α:Type}{r:List α}(h:okL r=true):r.length≤4096:=vE (okL_le' h) (vA rfl)
noncomputable def BytEta(η:Nat→(Addr→Option Obj)→Value→Prop):Prop:=∀(c:Nat) (Γ:Addr→Option Obj) (v:Value),c<128→(η (1000+c) Γ v↔∃t,v=.bytes #[c.toUInt8] t)
structure FixOK(X:Fix):Prop where
 byt:BytEta X.η
 cl:∀(Γ:Addr→Option Obj) (v:Value),X.η 998 Γ v→∃a o fd,v=.ref a∧Γ a=some o∧o.data=.func fd
 th:∀i,X.θ i≠[]∧(X.θ i).length≤4096
 ky:KyOK X.θ
 inK:X.T.K.In X.B
 noP:X.B.get? X.P=none
 glob:∃o es ep,X.T.K.lookup mainGlobals=some o∧o.data=.dict es ep∧StrKeys es
 blt:∃mb,X.B.Ns builtinsNs mb∧∀x:Str,x≠"__name__"→mb x=bootBuiltins x
 nolimit:X.B.NoLimit
 nodigits:∃mc,X.B.Ns cStatics mc∧mc "sys.int_max_str_digits"=none
 dicts:∀a,memN a X.T.D=true→(a==sysModules)=false∧∃kvs,X.B.DictOf (strKind X.prog X.w) a kvs
 code:CodeHd X.B X.cc X.P
 bmain:∃mg,X.B.Ns mainGlobals mg∧X.B.BuiltinsAt mg X.P
 gP:mainGlobals≠X.P
 sh:∀o fd,X.T.K.lookup X.T.sh=some o→o.data=.func fd→fd.code=.ref X.cc∧(fd.qualname++(".<locals>.":Str))++("<lambda>":Str)=X.q
theorem mkS_len(l:List Nat):(mkS l).length=l.length:=by simp[mkS,Str.length]
theorem den_fits{X:Fix}(O:FixOK X){r:List Nat}(h:okL r=true):(mkS (den X.θ r)).length≤sizeLine:=by
 rw[mkS_len,sizeLine_eq]
 have:=den_len (λi=>(O.th i).2) r
 have:=okL_le h
 (with_reducible exact Internal.ar23 (by assumption) (by assumption))
theorem mkS_inj{a b:List Nat}:mkS a=mkS b↔a=b:=by
 constructor
 ·intro h;have:a.toArray=b.toArray:=congrArg Str.cps h;simpa using this
 ·intro h;exact rwG h rfl
theorem mkS_append(a b:List Nat):mkS (a++b)=mkS a++mkS b:=by
 show(⟨(a++b).toArray⟩:Str)=⟨a.toArray++b.toArray⟩
 simp
theorem mkS_toList(s:Str):mkS s.cps.toList=s:=by obtain⟨⟨l⟩⟩:=s;rfl
theorem kySy_eq{b n:Nat}{r:List Nat}(h:kySy b n r=true):∃i,i<n∧r=[symB+(b+i)]:=by
 refine oneE (P:=λr=>∃i,i<n∧r=[symB+(b+i)]) h fT λc h=>band2 h λh1 h2=>?_
 have h1:=vA h1
 have h2:c<symB+b+n:=vA h2
 exact⟨c-(symB+b),by lia,congrArg (λx=>[x]) (by lia)⟩
theorem den_sym(θ:Nat→List Nat)(i:Nat):den θ [symB+i]=θ i:=by
 show(if isLit (symB+i)then[symB+i]else θ (symB+i-symB))++[]=θ i
 rw[vO,if_neg (show¬isLit (symB+i)=true fromλq=>absurd (vA q) (by lia)),Nat.add_sub_cancel_left]
theorem kyNe_ok{X:Fix}(O:FixOK X){a b:List Nat}(h:kyNe a b=true):den X.θ a≠den X.θ b:=by
 unfold kyNe at h
 refine band2 h λh1 h2=>?_
 refine rwG (den_lit h1) ?_
 rcases vK h2 with h3|h3
 ·refine band2 h3 λh4 h5=>?_
  refine x1_2 (kySy_eq h4) λi hi he2=>?_;refine rwG he2 ?_;clear he2
  rw[den_sym]
  refine x0_3 (O.ky i hi) λ_ k2 k3=>?_
  intro q
  rw[q,eqL_eq h5]at k2
  exact k3 k2
 ·rcases vK h3 with h3|h3
  ·refine oneE (P:=λa=>den X.θ a≠b) h3 fT λc h3=>band3 h3 λh4 h5 h6=>?_
   refine x1_2 (vG h6) λw hw e=>?_
   have h4:=vA h4
   have h5:c<symB+64+24:=vA h5
   rw[eqL_eq e,show c=symB+(64+(c-(symB+64)))by lia,den_sym]
   exact(O.ky _ (by lia)).1 w hw
  ·refine band2 h3 λh4 h5=>?_
   refine x1_2 (kySy_eq h4) λi hi he2=>?_;refine rwG he2 ?_;clear he2
   rw[den_sym,eqL_eq h5]
   exact(O.ky i hi).2.2
set_option tactic.hygienic true in
theorem ropeEq_ok{X:Fix}(O:FixOK X){a b:List Nat}{t:Bool}(h:ropeEq a b=some t):decide (den X.θ a=den X.θ b)=t:=by
 unfold ropeEq at h
 refine iteS h ?_ ?_ <;> clear h <;> intro _ h
 ·rename_i e;refine someI h ?_;clear h;intro hx;subst hx;refine rwG (eqL_eq e) ?_;simp
 ·rename_i e
  have e':a≠b:=eqL_false (by simpa using e)
  refine iteS h ?_ ?_ <;> clear h <;> intro _ h
  ·rename_i l;refine someI h ?_;clear h;intro hx;subst hx
   refine band2 l λl1 l2=>?_;clear l
   refine rwG (den_lit l1) (rwG (den_lit l2) ?_);exact decide_eq_false e'
  ·refine iteS h ?_ ?_ <;> clear h <;> intro _ h
   ·rename_i q;refine someI h ?_;clear h;intro hx;subst hx
    rw[decide_eq_false_iff_not]
    have hθ:∀i,X.θ i≠[]:=λi=>(O.th i).1
    cases a with
    |nil=>cases b with
     |nil=>exact absurd rfl e'
     |cons c r=>exactλz=>den_ne hθ (List.cons_ne_nil c r) z.symm
    |cons c r=>cases b with
     |nil=>exactλz=>den_ne hθ (List.cons_ne_nil c r) z
     |cons=>simp at q
   ·refine iteS h ?_ ?_ <;> clear h <;> intro _ h
    ·rename_i q;refine someI h ?_;clear h;intro hx;subst hx
     rw[decide_eq_false_iff_not]
     cases q1:kyNe a b with
     |true=>exact kyNe_ok O q1
     |false=>rw[q1]at q;exactλz=>kyNe_ok O q z.symm
    ·exact absN h
theorem slcS_ok{X:Fix}(O:FixOK X){x z:List Nat}{l u:Option Int}(h:slcS x l u=some z):strCut (den X.θ x) l u=den X.θ z:=by
 unfold slcS at h
 by_cases hc:(litR x&&okL x)=true
 ·rw[if_pos hc]at h
  refine rwS (vC h) ?_
  refine band2 hc λhl _=>?_
  have hlit:litR (strCut x l u)=true:=by
   unfold strCut
   by_cases hq:((Builtin.Str.strSliceIndices l u 1 x.length).length==x.length)=true
   ·refine rwG (if_pos hq) ?_;exact hl
   ·refine rwG (if_neg hq) ?_
    unfold litR
    rw[List.all_eq_true]
    intro y hy
    refine x1_2 (List.mem_filterMap.mp hy) λj zz hj=>?_
    exact(vF hl) y (vN hj)
  exact rwG (den_lit hl) (rwG (den_lit hlit) rfl)
 ·rw[if_neg hc]at h
  refine ifE' h nS λi e h=>ifB h nS λhc h=>band3 hc λh1 h2 h3=>?_
  refine rwS (vC h) ?_
  refine x1_2 (kySy_eq h3) λj hj he2=>?_;refine rwG he2 ?_;clear he2
  refine rwG e ?_;clear e
  rw[eq_of_beq h1,Option.isNone_iff_eq_none.mp h2,den_sym]
  show _=den X.θ [symB+(64+j)+100]
  rw[show symB+(64+j)+100=symB+(164+j)by lia,den_sym]
  exact(O.ky j hj).2.1.symm
structure FrR(X:Fix)(g:GW)(ρ:Fr)(c:Env)(h:Heap):Prop where
 kind:c.scope.kind=.function
 glob:c.globals=mainGlobals
 blt:c.builtins=builtinsNs
 names:∀x k,lk x ρ.scope.names=some k→c.kindOf x=some k∨(k=.free∧c.kindOf x=some .cell)
 loc:∃m,h.Ns c.locals m∧∀x p,lk x ρ.scope.names=some .local→lk x ρ.vars=some p→∃v,m x=some v∧RepV X g v p
 locOk:g.Γ c.locals=none∧c.locals∉g.la∧c.locals≠X.P
 cell:∀x p,(lk x ρ.scope.names=some .cell∧lk x ρ.vars=some p∨lk x ρ.scope.names=some .free∧lk x ρ.up=some p) →
  ∃a v,c.cells.lookup x=some a∧h.IsCell a (some v)∧RepV X g v p∧a∉g.la∧a≠X.P∧(ρ.lam=true→∃o,g.Γ a=some o)∧(ρ.lam=false→g.Γ a=none)
 own:∀x,lk x ρ.scope.names=some .cell→∃a v,c.cells.lookup x=some a∧h.IsCell a v∧a∉g.la∧a≠X.P∧(ρ.lam=false→g.Γ a=none)
 inj:∀x y a,c.cells.lookup x=some a→c.cells.lookup y=some a→x=y
 all:∀z a,c.cells.lookup z=some a→(∃v,h.IsCell a v)∧a∉g.la∧a≠X.P
 shw:ρ.q=true→c.code=.ref X.cc∧c.qual++("<lambda>":Str)=X.q
noncomputable def noS:Addr→Prop:=λ_=>False
theorem Stp.fresh{X:Fix}{S FS g h g' h'}(x:Stp X S FS g h g' h'){a:Addr}{o:Obj}(e:h.get? a=some o)(h1:g.Γ a=none)(h2:a∉g.la):g'.Γ a=none∧a∉g'.la:=by
 constructor
 ·cases q:g'.Γ a with
  |none=>rfl
  |some o'=>
   rcases x.new a o' q with q|q
   ·rw[h1]at q;exact absN q
   ·exact absurd (Heap.lt_size e) (vL q)
 ·refine x1_2 x.la λt q ht=>?_
  refine rwG q ?_;intro hm
  rcases List.mem_append.mp hm with hm|hm
  ·exact h2 hm
  ·exact absurd (Heap.lt_size e) (vL (ht a hm))
theorem Stp.notLa{X:Fix}{S FS g h g' h'}(x:Stp X S FS g h g' h'){a:Addr}{o:Obj}(e:h.get? a=some o)(h2:a∉g.la):a∉g'.la:=by
 refine x1_2 x.la λt q ht=>?_
 refine rwG q ?_;intro hm
 rcases List.mem_append.mp hm with hm|hm
 ·exact h2 hm
 ·exact absurd (Heap.lt_size e) (vL (ht a hm))
theorem Ns.ofData{h h':Heap}{a:Addr}{m:Str→Option Value}(x:h.Ns a m)(k:∀o,h.get? a=some o→∃o',h'.get? a=some o'∧o'.data=o.data):h'.Ns a m:=by
 refine x3_3 x λo es ep ho hd r=>?_;clear x
 refine x1_2 (k o ho) λo' e1 e2=>?_
 exact⟨o',es,ep,e1,e2.trans hd,r⟩
theorem FrR.step{X:Fix}{S FS g h g' h'}{ρ:Fr}{c:Env}(x:FrR X g ρ c h)(y:Stp X S FS g h g' h')(hS:¬S c.locals)(hC:∀z a v,c.cells.lookup z=some a→h.IsCell a v→¬S a):FrR X g' ρ c h':=by
 refine x1_2 x.loc λm hn hm=>?_
 have hno:=hn
 refine x3_2 hno λo zz zz ho zz=>?_;clear hno
 refine⟨x.kind,x.glob,x.blt,x.names,⟨m,?_,λz p e1 e2=>?_⟩,?_,λz p e=>?_,λz e=>?_,x.inj,λz a e=>?_,x.shw⟩
 ·exact Ns.ofData hn λo ho=>let ⟨o',e1,e2,_⟩:=y.keepData ho hS x.locOk.2.1 x.locOk.2.2;⟨o',e1,e2⟩
 ·refine x1_2 (hm z p e1 e2) λv e r=>?_
  exact⟨v,e,repV_mono y.gext r⟩
 ·refine x0_2 (y.fresh ho x.locOk.1 x.locOk.2.1) λh1 h2=>?_
  exact⟨h1,h2,x.locOk.2.2⟩
 ·refine x2_7 (x.cell z p e) λa v e1 ho1 r n1 n2 n3 n4=>?_;refine x1_2 ho1 λoc e2 e3=>?_;clear ho1
  refine x1_3 (y.keepData e2 (hC z a _ e1 ⟨oc,e2,e3⟩) n1 n2) λo' f1 f2 zz=>?_
  refine⟨a,v,e1,⟨o',f1,f2.trans e3⟩,repV_mono y.gext r,y.notLa e2 n1,n2,λhl=>?_,λhl=>(y.fresh e2 (n4 hl) n1).1⟩
  refine x1_1 (n3 hl) λo₁ h1=>?_
  exact⟨o₁,y.ext _ _ h1⟩
 ·refine x2_5 (x.own z e) λa v e1 ho2 n1 n2 n4=>?_;refine x1_2 ho2 λoc e2 e3=>?_;clear ho2
  refine x1_3 (y.keepData e2 (hC z a _ e1 ⟨oc,e2,e3⟩) n1 n2) λo' f1 f2 zz=>?_
  exact⟨a,v,e1,⟨o',f1,f2.trans e3⟩,y.notLa e2 n1,n2,λhl=>(y.fresh e2 (n4 hl) n1).1⟩
 ·refine x0_3 (x.all z a e) λho3 n1 n2=>?_;refine x2_2 ho3 λv oc e2 e3=>?_;clear ho3
  refine x1_3 (y.keepData e2 (hC z a _ e ⟨oc,e2,e3⟩) n1 n2) λo' f1 f2 zz=>?_
  exact⟨⟨v,o',f1,f2.trans e3⟩,y.notLa e2 n1,n2⟩
structure To(X:Fix)(S:Addr→Prop)(l:List Env)(g:GW)(s:Shared)(g':GW)(s':Shared):Prop where
 st:Stp X S (fsOf l) g s.heap g' s'.heap
 gens:s'.gens=s.gens
 os:s'.os=s.os
theorem To.refl{X S l g s}:To X S l g s g s:=⟨Stp.refl,rfl,rfl⟩
theorem To.trans{X S l g s g' s' g'' s''}(x:To X S l g s g' s')(y:To X S l g' s' g'' s''):To X S l g s g'' s'':=⟨x.st.trans y.st,y.gens.trans x.gens,y.os.trans x.os⟩
theorem To.mono{X S S' l g s g' s'}(x:To X S l g s g' s')(h:∀b,S b→S' b):To X S' l g s g' s':=⟨x.st.mono h λzz q=>q,x.gens,x.os⟩
theorem To.toks{X S l g s g' s'}(x:To X S l g s g' s')(t:Nat):To X S l g s g' { s' with toks:=t }:=⟨x.st,x.gens,x.os⟩
theorem XR.base{X:Fix}{S:Addr→Prop}{l:List Env}{g g₁:GW}{s s₁ s₂:Shared}{kx:KX}{T:Option (Addr×Value)}{e:Value}(t:To X S l g s g₁ s₁)(x:XR X S l g₁ s₁ kx T e s₂):XR X S l g s kx T e s₂:=by
 refine XR.el x λg' σ ea he hst R hxx hF hk h1 h2=>?_;clear x;refine ExcR.el hxx λhle hok oe vs a1 a2 a3 a4 a5=>?_;clear hxx
 refine⟨⟨g',σ,ea,he,t.st.trans hst,R,⟨vE t.st.size hle,hok,oe,vs,a1,a2,a3,a4,?_⟩,hF,hk⟩,h1.trans t.gens,h2.trans t.os⟩
 cases T with
 |none=>exact a5
 |some q=>
  refine x0_4 a5 λb1 b2 b3 b4=>?_;clear a5
  exact⟨b1,b2,vE t.st.size b3,b4⟩
theorem XR.monoS{X:Fix}{S S':Addr→Prop}{l:List Env}{g:GW}{s s₂:Shared}{kx:KX}{T:Option (Addr×Value)}{e:Value}(x:XR X S l g s kx T e s₂)(h:∀b,S b→S' b):XR X S' l g s kx T e s₂:=by
 obtain⟨ho4,h1,h2⟩:=x;refine x3_3 ho4 λg' σ ea he hst r=>?_;clear ho4
 exact⟨⟨g',σ,ea,he,hst.mono h λzz q=>q,r⟩,h1,h2⟩
theorem PX.base{X:Fix}{S:Addr→Prop}{l:List Env}{F:Addr}{g g₁:GW}{s s₁ s₂:Shared}{kx:KX}{e:Value}(t:To X S l g s g₁ s₁)(x:PX X S l F g₁ s₁ kx e s₂):PX X S l F g s kx e s₂:=
 let ⟨T,h,r⟩:=x;⟨T,h,r.base t⟩
theorem PX.monoS{X:Fix}{S S':Addr→Prop}{l:List Env}{F:Addr}{g:GW}{s s₂:Shared}{kx:KX}{e:Value}(x:PX X S l F g s kx e s₂)(h:∀b,S b→S' b):PX X S' l F g s kx e s₂:=
 let ⟨T,h1,r⟩:=x;⟨T,h1,r.monoS h⟩
inductive VG{α:Type}(X:Fix)(S:Addr→Prop)(l:List Env)(g₀:GW)(s₀:Shared)(R:α→GW→Sto→Heap→Prop)(a:α)(s:Shared):Prop
 |mk (g:GW) (σ:Sto) (t:To X S l g₀ s₀ g s) (r:HR X g σ s.heap) (h:R a g σ s.heap):VG X S l g₀ s₀ R a s
theorem VG.el{α:Type}{X S l g₀ s₀}{R:α→GW→Sto→Heap→Prop}{a:α}{s:Shared}{G:Prop}(x:VG X S l g₀ s₀ R a s)(k:∀g σ,To X S l g₀ s₀ g s→HR X g σ s.heap→R a g σ s.heap→G):G:=VG.casesOn x k
theorem VG.base{α:Type}{X S l g s g₁ s₁}{R:α→GW→Sto→Heap→Prop}{a:α}{s₂:Shared}(t:To X S l g s g₁ s₁)(x:VG X S l g₁ s₁ R a s₂):VG X S l g s R a s₂:=x.el λg' σ h H r=>⟨g',σ,t.trans h,H,r⟩
theorem VG.mono{α:Type}{X S l g s}{R R':α→GW→Sto→Heap→Prop}{a:α}{s₂:Shared}(x:VG X S l g s R a s₂)(h:∀a g σ h,R a g σ h→R' a g σ h):VG X S l g s R' a s₂:=x.el λg' σ t H r=>⟨g',σ,t,H,h _ _ _ _ r⟩
inductive RV(X:Fix)(k:KV)(v:Value)(g:GW)(σ:Sto)(h:Heap):Prop
 |mk (p:PV) (r:RepV X g v p) (hk:k p σ=true):RV X k v g σ h
theorem RV.el{X:Fix}{k:KV}{v:Value}{g:GW}{σ:Sto}{h:Heap}{G:Prop}(x:RV X k v g σ h)(c:∀p,RepV X g v p→k p σ=true→G):G:=RV.casesOn x c
inductive RL(X:Fix)(k:List PV→Sto→Bool)(v:List Value)(g:GW)(σ:Sto)(h:Heap):Prop
 |mk (p:List PV) (r:RepL X g v p) (hk:k p σ=true):RL X k v g σ h
theorem RL.el{X:Fix}{k:List PV→Sto→Bool}{v:List Value}{g:GW}{σ:Sto}{h:Heap}{G:Prop}(x:RL X k v g σ h)(c:∀p,RepL X g v p→k p σ=true→G):G:=RL.casesOn x c
noncomputable def RB(k:Bool→Sto→Bool):Bool→GW→Sto→Heap→Prop:=λb _ σ _=>k b σ=true
section
variable{α β:Type}{X:Fix}{S:Addr→Prop}{l:List Env}{F:Addr}{g g₁:GW}{s s₁:Shared}{kx:KX}{M:Model}{A:Around}{E:Value→Shared→Prop}
end
end
section
section
variable{A:Around}{s:Shared}
theorem bytes_eq_str(b:Array UInt8)(t:Tok)(c:Str)(u:Tok):PySem.Gives (Builtin.«bytes.__eq__» ⟨[.bytes b t,.str c u],[]⟩) (.val (Value.notImplemented)):=by
 exact .of_wp λM A E s Q h=>by obtain⟨hp,g,d,tk,os⟩:=s;have f:=F.sub_str_bytes;wp_walk;exact⟨_,rfl,h⟩
theorem str_eq_bytes(a:Str)(t:Tok)(b:Array UInt8)(u:Tok):PySem.Gives (Builtin.«str.__eq__» ⟨[.str a t,.bytes b u],[]⟩) (.val (Value.notImplemented)):=
 .of_wp λM A E s Q h=>by obtain⟨hp,g,d,tk,os⟩:=s;wp_walk;exact⟨_,rfl,h⟩
theorem rc_bytes_str(a:Array UInt8)(t:Tok)(b:Str)(u:Tok):RcAt A s (.bytes a t) (.str b u) false:=λprog w E Q h=>
 rc_eq_decline_or (k:=false) (typeIs_bytes s a t) (typeIs_str s b u) rfl F.sub_str_bytes FB.slot_bytes_eq F.slot_str_eq_refl
  (λ_ hq=>call_gives FB.slot_bytes_eq (typeIs_bytes s a t) FB.entry_bytes_eq (FB.args_bytes_eq_2 _ _) (bytes_eq_str a t b u) hq)
  (λ_ hq=>call_gives F.slot_str_eq_refl (typeIs_str s b u) F.entry_str_eq (F.args_str_eq_2 _ _) (str_eq_bytes b u a t) hq)
  (λ_ hq=>wpAny_of_eq (rfl:isSame (.bytes a t) (.str b u)=pure false) hq) (.inl rfl) h
theorem eq_bytes_str(a:Array UInt8)(t:Tok)(b:Str)(u:Tok):EqAt A s (.bytes a t) (.str b u) false:=λprog w E Q h=>by
 refine wpAny_holding ?_
 refine wpAny_ite_split (λhab=>absurd (eq_of_beq hab) nofun) (λ_=>?_)
 exact wpAny_bind (rc_bytes_str a t b u prog w E _ (wpAny_truthy_bool h))
theorem bytes_ne_str(b:Array UInt8)(t:Tok)(c:Str)(u:Tok):PySem.Gives (Builtin.«bytes.__ne__» ⟨[.bytes b t,.str c u],[]⟩) (.val (Value.notImplemented)):=by
 exact .of_wp λM A E s Q h=>by obtain⟨hp,g,d,tk,os⟩:=s;have f:=F.sub_str_bytes;wp_walk;exact⟨_,rfl,h⟩
theorem str_ne_bytes(a:Str)(t:Tok)(b:Array UInt8)(u:Tok):PySem.Gives (Builtin.«str.__ne__» ⟨[.str a t,.bytes b u],[]⟩) (.val (Value.notImplemented)):=
 .of_wp λM A E s Q h=>by obtain⟨hp,g,d,tk,os⟩:=s;wp_walk;exact⟨_,rfl,h⟩
theorem rcne_bytes_str(a:Array UInt8)(t:Tok)(b:Str)(u:Tok):RcNeAt A s (.bytes a t) (.str b u) true:=λprog w E Q h=>
 rc_ne_decline_or (k:=false) (typeIs_bytes s a t) (typeIs_str s b u) rfl F.sub_str_bytes FB.slot_bytes_ne F.slot_str_ne_refl
  (λ_ hq=>call_gives FB.slot_bytes_ne (typeIs_bytes s a t) FB.entry_bytes_ne (FB.args_bytes_ne_2 _ _) (bytes_ne_str a t b u) hq)
  (λ_ hq=>call_gives F.slot_str_ne_refl (typeIs_str s b u) F.entry_str_ne (F.args_str_ne_2 _ _) (str_ne_bytes b u a t) hq)
  (λ_ hq=>wpAny_of_eq (rfl:isSame (.bytes a t) (.str b u)=pure false) hq) (.inl rfl) h
end
theorem byt_val{X:Fix}(O:FixOK X){g:GW}{v:Value}{h:Nat}(r:RepV X g v (.hole h))(hc:(Nat.ble 1000 h&&Nat.blt h 1128)=true):∃b t,v=.bytes b t:=by
 refine x0_2 (vJ hc) λh1 h2=>?_
 refine x1_2 r.iH λΓ₀ e _=>?_
 refine x1_1 (Nat.exists_eq_add_of_le (vA h1)) λc he1=>?_;subst he1
 have h3:c<128:=by have:1000+c<1128:=vA h2;lia
 refine x1_1 ((O.byt c Γ₀ v h3).mp e) λt he1=>?_;refine rwG he1 ?_;clear he1
 exact⟨_,t,rfl⟩
theorem RepV.isTuple{X:Fix}{g:GW}{σ:Sto}{h:Heap}(R:HR X g σ h){v:Value}{ps:List PV}(r:RepV X g v (.tup ps)):∃a vs,v=.ref a∧h.IsTuple a vs∧RepL X g vs.toList ps:=by
 refine x3_3 r.iT λzz zz zz he3=>?_;refine rwG he3 ?_;clear he3;intro e q
 exact⟨_,_,rfl,⟨_,R.frz _ _ e,rfl,_,rfl⟩,q⟩
theorem RepV.isList{X:Fix}{g:GW}{σ:Sto}{h:Heap}(R:HR X g σ h){v:Value}{i:Nat}{xs:List PV}(r:RepV X g v (.lst i))(e:σ[i]?=some xs):∃a vs,v=.ref a∧g.la[i]?=some a∧h.IsList a vs∧RepL X g vs.toList xs∧h.PlainList a vs:=by
 refine x1_2 r.iL λzz he1=>?_;refine rwG he1 ?_;clear he1;intro q
 refine x1_2 (R.lst _ _ _ q e) λvs l z=>?_
 refine x1_1 l λn l=>?_
 exact⟨_,vs,rfl,q,⟨_,l,rfl,n,rfl⟩,z,n,l⟩
section
variable{X:Fix}(O:FixOK X){g:GW}
include O in
theorem ropeB{x y:List Nat}{t:Bool}(h:ropeEq x y=some t):(mkS (den X.θ x)==mkS (den X.θ y))=t:=by
 refine rwS (ropeEq_ok O h) ?_
 by_cases hd:den X.θ x=den X.θ y
 ·rw[hd];simp
 ·rw[decide_eq_false hd,beq_eq_false_iff_ne];exactλz=>hd (mkS_inj.mp z)
theorem pvEqs_same{n:Nat}{σ:Sto}(ih:∀{v p q t},RepV X g v p→RepV X g v q→pvEq σ n p q=some t→t=true) :
  ∀{vs:List Value} {ps qs:List PV} {t:Bool},RepL X g vs ps→RepL X g vs qs→pvEqs (pvEq σ n) ps qs=some t→t=true
 |_,[],[],_,_,_,h=>by refine someI h ?_;clear h;intro hx;subst hx;rfl
 |_,[],_::_,_,r1,r2,h=>by obtain rfl:=r1.i0;refine x2_2 r2.i1 λzz zz e zz=>?_;cases e
 |_,_::_,[],_,r1,r2,h=>by obtain rfl:=r2.i0;refine x2_2 r1.i1 λzz zz e zz=>?_;cases e
 |_,p::ps,q::qs,t,r1,r2,h=>by
  refine x2_3 r1.i1 λzz zz he2=>?_;subst he2;intro a1 b1
  refine x2_3 r2.i1 λzz zz e a2 b2=>?_
  cases e
  refine ifE' h nS λx e1 h=>ifE' h nS λy e2 h=>?_
  rw[←vC h,ih a1 a2 e1,pvEqs_same ih b1 b2 e2];rfl
theorem seqI{c c':_}{v v':Array Value}{n n':Nat}(h:some ({ cls:=c,data:=.seq v n }:Obj)=some { cls:=c',data:=.seq v' n' }):v=v':=(Data.seq.inj (congrArg Obj.data (vC h))).1
include O in
theorem pvEq_same{σ:Sto}{h:Heap}(R:HR X g σ h):∀(n:Nat) {v:Value} {p q:PV} {t:Bool},RepV X g v p→RepV X g v q→pvEq σ n p q=some t→t=true:=λn=>by
 induction n with
 |zero=>exactλ_ _ h=>absN h
 |succ n ih=>
  intro v p q t r1 r2 h
  cases p with
  |none=>
   revert r2
   refine nilPE h nS ?_;clear h;intro h r2
   refine someI h ?_;clear h;intro hx;subst hx;rfl
  |bool x=>
   revert r2
   refine pboolE h nS ?_;clear h;intro y h r2
   exact rwS (vC h) (decide_eq_true (Value.bool.inj (r1.iB.symm.trans r2.iB)))
  |int x=>
   revert r2
   refine pintE h nS ?_;clear h;intro y h r2
   refine x1_1 r1.iI λzz he1=>?_;subst he1;refine x1_1 r2.iI λzz e=>?_;exact rwS (vC h) (decide_eq_true (Value.int.inj e).1)
  |str x=>
   revert r2
   refine pstrE h nS ?_;clear h;intro y h r2
   refine x1_1 r1.iS λzz he1=>?_;subst he1
   refine x1_1 r2.iS λzz e2=>?_
   have e:=mkS_inj.mp (Value.str.inj e2).1
   refine rwS (ropeEq_ok O h) ?_;simpa using e
  |tup xs=>
   revert r2
   refine ptupE h nS ?_;clear h;intro ys h r2
   refine x3_3 r1.iT λa vs zz he3=>?_;subst he3;intro e1 q1
   refine x3_3 r2.iT λb us zz e0 e2 q2=>?_
   have e0:=Value.ref.inj e0
   subst e0
   exact pvEqs_same (λa b c=>ih a b c) q1 (rwG (seqI (e1.symm.trans e2)) q2) h
  |lst i=>
   revert r2
   refine plstE h nS ?_;clear h;intro j h r2;refine ifE' h nS ?_;clear h;intro xs e1 h;refine ifE' h nS ?_;clear h;intro ys e2 h
   refine x1_2 r1.iL λa he1=>?_;subst he1;intro l1
   refine x1_2 r2.iL λb e0 l2=>?_
   have e0:=Value.ref.inj e0
   subst e0
   have hij:i=j:=by
    refine x1_1 (List.getElem?_eq_some_iff.mp l1) λk1 z1=>?_
    refine x1_1 (List.getElem?_eq_some_iff.mp l2) λk2 z2=>?_
    exact(List.getElem_inj R.nod).mp (z1.trans z2.symm)
   subst hij
   rw[e1]at e2;refine someI e2 ?_;clear e2;intro hx;subst hx
   refine x1_2 (R.lst _ _ _ l1 (gtS e1)) λvs zz z=>?_
   exact pvEqs_same (λa b c=>ih a b c) z z h
  |hole i=>
   revert r2
   refine ifB h nS λhc h=>pstrE h nS λy h r2=>?_
   refine x2_1 (byt_val O r1 hc) λb t he2=>?_;subst he2
   exact x1_1 r2.iS λ_ e=>Value.noConfusion e
  |_=>exact absN h
end
theorem pvEqs_get{eq:PV→PV→Option Bool}{ps qs:List PV}{t:Bool}(h:pvEqs eq ps qs=some t):∃e:Nat→Bool,(∀j p q,ps[j]?=some p→qs[j]?=some q→eq p q=some (e j)) ∧
   ((List.range (min ps.length qs.length)).all e&&ps.length==qs.length)=t:=by
 induction ps generalizing qs t with
 |nil=>cases qs with
  |nil=>exact⟨λ_=>true,λj p q e=>absN (List.getElem?_nil.symm.trans e),vC h⟩
  |cons b s=>exact⟨λ_=>true,λj p q e=>absN (List.getElem?_nil.symm.trans e),vC h⟩
 |cons a r ih=>cases qs with
  |nil=>exact⟨λ_=>true,λj p q _ e=>absN (List.getElem?_nil.symm.trans e),vC h⟩
  |cons b s=>
   refine ifE' h nS λx e1 h=>ifE' h nS λy e2 h=>?_
   refine x1_2 (ih e2) λe h1 h2=>?_
   refine⟨λj=>@Nat.casesOn (λ_=>Bool) j x e,λj p q i1 i2=>?_,?_⟩
   ·cases j with
    |zero=>exact rwS (vC i1) (rwS (vC i2) e1)
    |succ j=>exact h1 j p q i1 i2
   ·refine rwS (vC h) (rwS h2 ?_)
    simp only[List.length_cons,Nat.succ_min_succ,List.range_succ_eq_map,List.all_cons,List.all_map]
    exact(congrArg (λz=>x&&_&&z) (Bool.eq_iff_iff.mpr (by simp))).trans (Bool.and_assoc _ _ _)
section
variable{X:Fix}(O:FixOK X){g:GW}{A:Around}{s:Shared}{σ:Sto}(R:HR X g σ s.heap)
omit R in
theorem items_eq{eq:PV→PV→Option Bool}(ih:∀{v u:Value} {p q:PV} {t:Bool},RepV X g v p→RepV X g u q→eq p q=some t→EqAt A s v u t){ps qs:List PV}{vs us:Array Value}{t:Bool}(q1:RepL X g vs.toList ps)(q2:RepL X g us.toList qs)(hp:pvEqs eq ps qs=some t) :
  ∃e:Nat→Bool,(∀j (h1:j<vs.size) (h2:j<us.size),EqAt A s vs[j] us[j] (e j))∧((List.range (min vs.size us.size)).all e&&vs.size==us.size)=t:=by
 refine x1_2 (pvEqs_get hp) λe h1 h2=>?_
 have l1:=q1.length
 have l2:=q2.length
 rw[vH]at l1 l2
 refine⟨e,λj i1 i2=>?_,by refine rwG l1 (rwG l2 ?_);exact h2⟩
 have k1:j<ps.length:=l1▸i1
 have k2:j<qs.length:=l2▸i2
 refine x1_2 (q1.get (List.getElem?_eq_getElem k1)) λv' e1 z1=>?_
 refine x1_2 (q2.get (List.getElem?_eq_getElem k2)) λu' e2 z2=>?_
 have:=ih z1 z2 (h1 j _ _ (List.getElem?_eq_getElem k1) (List.getElem?_eq_getElem k2))
 have w1:vs[j]=v':=vC (((Array.getElem?_toList ..).trans (Array.getElem?_eq_getElem i1)).symm.trans e1)
 have w2:us[j]=u':=vC (((Array.getElem?_toList ..).trans (Array.getElem?_eq_getElem i2)).symm.trans e2)
 refine rwG w1 (rwG w2 ?_);exact this
include O R
theorem eqAt_ok:∀(n:Nat) {A:Around} {v u:Value} {p q:PV} {t:Bool},A.units+n<cLine→RepV X g v p→RepV X g u q→pvEq σ n p q=some t→EqAt A s v u t∧RcAt A s v u t:=by
 intro n
 induction n with
 |zero=>intro _ _ _ _ _ _ _ _ _ h;exact absN h
 |succ n ih=>
  intro A v u p q t hu r1 r2 h
  have hu0:A.units<cLine:=Nat.lt_of_le_of_lt (Nat.le_add_right _ _) hu
  have hu1:A.in1.units+n<cLine:=by rw[Around.in1_units];(with_reducible exact Internal.ar20 (by assumption))
  have hitems:∀{ps qs:List PV} {vs us:Array Value} {t:Bool},RepL X g vs.toList ps→RepL X g us.toList qs→pvEqs (pvEq σ n) ps qs=some t →
    ∃e:Nat→Bool,(∀j (h1:j<vs.size) (h2:j<us.size),EqAt A.in1 s vs[j] us[j] (e j))∧((List.range (min vs.size us.size)).all e&&vs.size==us.size)=t:=
   λq1 q2 hp=>items_eq (λr1 r2 h=>(ih hu1 r1 r2 h).1) q1 q2 hp
  replace h:pvEqB σ (pvEq σ n) _ _=_:=h
  cases p with
  |none=>
   revert r2
   refine nilPE h nS ?_;clear h;intro h r2
   obtain rfl:=r1.iN;obtain rfl:=r2.iN;refine someI h ?_;clear h;intro hx;subst hx;exact⟨EqAt.same _,RcAt.none_none⟩
  |bool x=>
   revert r2
   refine pboolE h nS ?_;clear h;intro y h r2
   obtain rfl:=r1.iB;obtain rfl:=r2.iB;refine someI h ?_;clear h;intro hx;subst hx;exact⟨EqAt.bool_bool _ _,RcAt.bool_bool _ _⟩
  |int x=>
   revert r2
   refine pintE h nS ?_;clear h;intro y h r2
   refine x1_1 r1.iI λzz he1=>?_;subst he1;refine x1_1 r2.iI λzz he1=>?_;subst he1;refine someI h ?_;clear h;intro hx;subst hx;exact⟨EqAt.int_int _ _ _ _,RcAt.int_int _ _ _ _⟩
  |str x=>
   revert r2
   refine pstrE h nS ?_;clear h;intro y h r2
   refine x1_1 r1.iS λzz he1=>?_;refine rwG he1 ?_;clear he1
   refine x1_1 r2.iS λzz he1=>?_;refine rwG he1 ?_;clear he1
   have e':=ropeB O h
   exact⟨e'▸EqAt.str_str _ _ _ _,e'▸RcAt.str_str _ _ _ _⟩
  |tup xs=>
   revert r2
   refine ptupE h nS ?_;clear h;intro ys h r2
   refine x2_3 (RepV.isTuple R r1) λa vs he2=>?_;subst he2;intro ht q1
   refine x2_3 (RepV.isTuple R r2) λb us he2=>?_;subst he2;intro ht' q2
   refine x1_2 (hitems q1 q2 h) λe he hr=>?_
   have rc:RcAt A s (.ref a) (.ref b) t:=hr▸RcAt.tuples ht ht' hu0 he
   refine⟨?_,rc⟩
   by_cases hab:a=b
   ·subst hab
    have ht1:t=true:=pvEq_same O R (n+1) r1 r2 h
    refine rwG ht1 ?_;exact EqAt.same _
   ·exact EqAt.of_refs hab rc
  |lst i=>
   revert r2
   refine plstE h nS ?_;clear h;intro j h r2
   have h0:=h
   refine ifE' h nS ?_;clear h;intro xs e1 h;refine ifE' h nS ?_;clear h;intro ys e2 h
   refine x2_5 (RepV.isList R r1 (gtS e1)) λa vs he2=>?_;subst he2;intro zz ht q1 zz
   refine x2_5 (RepV.isList R r2 (gtS e2)) λb us he2=>?_;subst he2;intro zz ht' q2 zz
   refine x1_2 (hitems q1 q2 h) λe he hr=>?_
   have rc:RcAt A s (.ref a) (.ref b) t:=by
    by_cases hz:vs.size=us.size
    ·have:=RcAt.lists (e:=e) ht ht' hz hu0 he
     have q:((List.range vs.size).all e)=t:=by rw[←hr,←hz,Nat.min_self];simp
     exact q▸this
    ·have q:false=t:=by refine rwS hr ?_;simp[hz]
     exact q▸RcAt.lists_lengths ht ht' (by simpa using hz) hu0
   refine⟨?_,rc⟩
   by_cases hab:a=b
   ·subst hab
    have ht1:t=true:=pvEq_same O R (n+1) r1 r2 h0
    refine rwG ht1 ?_;exact EqAt.same _
   ·exact EqAt.of_refs hab rc
  |hole i=>
   revert r2
   refine ifB h nS λhc h=>pstrE h nS λy h r2=>?_
   refine x2_1 (byt_val O r1 hc) λb t he2=>?_;refine rwG he2 ?_;clear he2
   refine x1_1 r2.iS λ_ he1=>?_;refine rwG he1 ?_;clear he1
   refine someI h ?_;clear h;intro hx;refine rwS hx ?_;clear hx
   exact⟨eq_bytes_str _ _ _ _,rc_bytes_str _ _ _ _⟩
  |_=>exact absN h
theorem rcNeAt_ok{n:Nat}{A:Around}{v u:Value}{p q:PV}{t:Bool}(hu:A.units+(n+1)<cLine)(r1:RepV X g v p)(r2:RepV X g u q)(h:pvEq σ (n+1) p q=some t):RcNeAt A s v u (!t):=by
  have hu0:A.units<cLine:=Nat.lt_of_le_of_lt (Nat.le_add_right _ _) hu
  have hu1:A.in1.units+n<cLine:=by rw[Around.in1_units];(with_reducible exact Internal.ar20 (by assumption))
  have hitems:∀{ps qs:List PV} {vs us:Array Value} {t:Bool},RepL X g vs.toList ps→RepL X g us.toList qs→pvEqs (pvEq σ n) ps qs=some t →
    ∃e:Nat→Bool,(∀j (h1:j<vs.size) (h2:j<us.size),EqAt A.in1 s vs[j] us[j] (e j))∧((List.range (min vs.size us.size)).all e&&vs.size==us.size)=t:=
   λq1 q2 hp=>items_eq (λr1 r2 h=>(eqAt_ok O R n hu1 r1 r2 h).1) q1 q2 hp
  replace h:pvEqB σ (pvEq σ n) _ _=_:=h
  cases p with
  |none=>
   revert r2
   refine nilPE h nS ?_;clear h;intro h r2
   obtain rfl:=r1.iN;obtain rfl:=r2.iN;refine someI h ?_;clear h;intro hx;subst hx;exact RcNeAt.none_none
  |bool x=>
   revert r2
   refine pboolE h nS ?_;clear h;intro y h r2
   refine rwG r1.iB ?_;refine rwG r2.iB ?_;refine someI h ?_;clear h;intro hx;subst hx;exact RcNeAt.bool_bool _ _
  |int x=>
   revert r2
   refine pintE h nS ?_;clear h;intro y h r2
   refine x1_1 r1.iI λzz he1=>?_;refine rwG he1 ?_;clear he1;refine x1_1 r2.iI λzz he1=>?_;refine rwG he1 ?_;clear he1;refine someI h ?_;clear h;intro hx;subst hx;exact RcNeAt.int_int _ _ _ _
  |str x=>
   revert r2
   refine pstrE h nS ?_;clear h;intro y h r2
   refine x1_1 r1.iS λzz he1=>?_;refine rwG he1 ?_;clear he1
   refine x1_1 r2.iS λzz he1=>?_;refine rwG he1 ?_;clear he1
   exact ropeB O h▸RcNeAt.str_str _ _ _ _
  |tup xs=>
   revert r2
   refine ptupE h nS ?_;clear h;intro ys h r2
   refine x2_3 (RepV.isTuple R r1) λa vs he2=>?_;subst he2;intro ht q1
   refine x2_3 (RepV.isTuple R r2) λb us he2=>?_;subst he2;intro ht' q2
   refine x1_2 (hitems q1 q2 h) λe he hr=>?_
   exact hr▸RcNeAt.tuples ht ht' hu0 he
  |lst i=>
   revert r2
   refine plstE h nS ?_;clear h;intro j h r2;refine ifE' h nS ?_;clear h;intro xs e1 h;refine ifE' h nS ?_;clear h;intro ys e2 h
   refine x2_5 (RepV.isList R r1 (gtS e1)) λa vs he2=>?_;refine rwG he2 ?_;clear he2;intro zz ht q1 zz
   refine x2_5 (RepV.isList R r2 (gtS e2)) λb us he2=>?_;refine rwG he2 ?_;clear he2;intro zz ht' q2 zz
   refine x1_2 (hitems q1 q2 h) λe he hr=>?_
   by_cases hz:vs.size=us.size
   ·have:=RcNeAt.lists (e:=e) ht ht' hz hu0 he
    have q:((List.range vs.size).all e)=t:=by rw[←hr,←hz,Nat.min_self];simp
    exact q▸this
   ·have q:false=t:=by refine rwS hr ?_;simp[hz]
    exact q▸RcNeAt.lists_lengths ht ht' (by simpa using hz) hu0
  |hole i=>
   revert r2
   refine ifB h nS λhc h=>pstrE h nS λy h r2=>?_
   refine x2_1 (byt_val O r1 hc) λb t he2=>?_;refine rwG he2 ?_;clear he2
   refine x1_1 r2.iS λ_ he1=>?_;refine rwG he1 ?_;clear he1
   refine someI h ?_;clear h;intro hx;refine rwS hx ?_;clear hx
   exact rcne_bytes_str _ _ _ _
  |_=>exact absN h
end
end
section
section
variable{X:Fix}(O:FixOK X){g:GW}{A:Around}{s:Shared}{σ:Sto}(R:HR X g σ s.heap){E:Value→Shared→Prop}
include O R
theorem truth_ok{p:PV}{v:Value}{b:Bool}{Q:Bool→Shared→Prop}(h:truthP σ p=some b)(r:RepV X g v p)(hQ:∀tk,Q b { s with toks:=tk }) :
  wpAny (model X.prog X.w) A (truthy v) Q E s:=by
 cases p with
 |bool b=>refine rwG r.iB ?_;refine someI h ?_;clear h;intro hx;refine rwG hx ?_;clear hx;exact wpAny_truthy_bool (hQ s.toks)
 |lst i=>
  refine ifE' h nS ?_;clear h;intro xs e1 h;refine ifB h nS ?_;clear h;intro hl h
  refine x2_5 (RepV.isList R r (gtS e1)) λa vs he2=>?_;refine rwG he2 ?_;clear he2;intro zz ht q zz
  refine someI h ?_;clear h;intro hx;subst hx
  have l1:=q.length
  rw[vH]at l1
  refine wpAny_truthy_list ht (by refine rwG l1 ?_;have:=okL_le hl;(with_reducible exact Internal.ar27 (by assumption))) ?_
  have e:(!vs.isEmpty) = !xs.isEmpty:=by
   cases xs with
   |nil=>simp at l1;simp[l1]
   |cons c t=>simp at l1;simp[Array.isEmpty,l1]
  refine rwG e ?_;exact hQ _
 |_=>exact absN h
omit O R in
theorem valueAt_cons{kv:Str×Value}{kvs:List (Str×Value)}{x:Str}:valueAt (kv::kvs) x=if kv.1=x then some kv.2 else valueAt kvs x:=by
 unfold valueAt
 refine rwG (List.find?_cons) ?_
 by_cases q:kv.1=x
 ·simp[q]
 ·simp[q]
omit O R in
theorem findK_ok{r:List Nat}(hl:litR r=true){es:List DictEntry}{kvs:List (Str×Value)}{z:Option Value}(hp:Pairs (strKind X.prog X.w) es kvs)(h:findK (.str r) es=some z):valueAt kvs (mkS r)=z:=by
 induction hp with
 |nil=>exact vC h
 | @cons e kv es kvs h1 h2 _ ih=>
  refine x1_1 (Value.isStrOf_shape (show Value.isStrOf kv.1 e.key=true from h1)) λt hk=>?_
  refine rwG valueAt_cons ?_
  have h':ifS none (some (eqL r kv.1.cps.toList)) (λc=>@Bool.casesOn (λ_=>Option (Option Value)) c (findK (.str r) es) (some (some e.val)))=some z:=by
   rw[←show keyIs (.str r) (.str kv.1 t)=some (eqL r kv.1.cps.toList)by dsimp only[keyIs];simp[hl],←hk];exact h
  clear h
  cases hq:eqL r kv.1.cps.toList with
  |true=>
   rw[hq]at h'
   exact rwG (if_pos (by rw[eqL_eq hq,mkS_toList])) (rwG h2.symm (vC h'))
  |false=>
   rw[hq]at h'
   exact rwG (if_neg (λq=>eqL_false hq (by rw[q];rfl))) (ih h')
omit O R in
theorem ofVs_ok{f:Value→Option PV}(hf:∀v p,f v=some p→RepV X g v p):∀{vs:List Value} {ps:List PV},ofVs f vs=some ps→RepL X g vs ps
 | [],_,h=>by refine someI h ?_;clear h;intro hx;refine rwS hx ?_;clear hx;exact .nil
 |v::r,ps,h=>by
  refine ifE' h nS λp e1 h=>ifE' h nS λqs e2 h=>?_
  refine rwS (vC h) ?_
  exact .cons (hf _ _ e1) (ofVs_ok hf e2)
theorem ofV_ok:∀(n:Nat) {v:Value} {p:PV},ofV X.T.K n v=some p→RepV X g v p:=by
 intro n
 induction n with
 |zero=>intro _ _ h;exact absN h
 |succ n ih=>
  intro v p h
  cases v with
  |none=>refine someI h ?_;clear h;intro hx;subst hx;exact .none
  |bool b=>refine someI h ?_;clear h;intro hx;subst hx;exact .bool b
  |int i t=>refine someI h ?_;clear h;intro hx;subst hx;exact .int i t
  |str x t=>
   refine ifB h nS λhl h=>?_
   refine rwS (vC h) ?_
   exact .str t (by rw[den_lit hl,mkS_toList])
  |ref a=>
   refine ifE' h nS λo e h=>?_
   revert h
   cases hz:seqO o with
   |none=>intro h;refine rwS (vC h) ?_;exact .old (klS e)
   |some z=>
    intro h
    refine ifB h nS λhc h=>ifE' h nS λps hps h=>?_
    refine rwS (vC h) ?_
    have e:=klS e
    rw[seqO_eq hz,eq_of_beq hc]at e
    exact .tup (R.base _ _ (O.inK _ _ e)) (ofVs_ok (λv p e=>ih e) hps)
  |_=>cases(show(none:Option PV)=some p from h)
theorem dictK_ok{a:Nat}{es:List DictEntry}(h:dictOfK X.T a=some es):(a==sysModules)=false∧∃kvs,s.heap.DictOf (strKind X.prog X.w) a kvs∧Pairs (strKind X.prog X.w) es kvs:=by
 refine iteS h (λhm h=>?_) λ_ h=>absN h
 refine ifE' h nS λo e h=>ifE' h nS λes hes h=>?_
 obtain rfl:=vC h
 refine x0_2 (O.dicts a hm) λh1 hq1=>x1_1 hq1 λkvs hd=>⟨h1,kvs,hd.keep λb o e=>R.frz _ _ (R.base _ _ e),?_⟩
 refine x3_6 hd λo' es' ep ho hx hdd hk hp zz=>?_
 have:=O.inK _ _ (klS e)
 rw[ho]at this
 obtain rfl:=vC this
 have hes:dictD o'.data=some es:=hes
 rw[hdd]at hes
 obtain rfl:=vC hes
 exact hp
end
noncomputable def HasVal(X:Fix)(g:GW)(o:Option Value):Option PV→Prop
 |some q=>∃v',o=some v'∧RepV X g v' q
 |none=>o=none
theorem repL_nil{X:Fix}{g:GW}{ps:List PV}(q:RepL X g [] ps):ps=[]:=q.jnv
theorem repL_cons{X:Fix}{g:GW}{v:Value}{vs:List Value}{ps:List PV}(q:RepL X g (v::vs) ps):∃p qs,ps=p::qs∧RepV X g v p∧RepL X g vs qs:=q.jnv
theorem findD_ok{X:Fix}{g:GW}{σ:Sto}{r:List Nat}(hl:litR r=true):∀{kvs:List (Str×Value)} {vs:List PV} {z:Option PV},(∀kv∈kvs,litR kv.1.cps.toList=true)→RepL X g (kvs.map (·.2)) vs →
   findD σ (.str r) (kvs.map λkv=>PV.str kv.1.cps.toList) vs=some z→HasVal X g (valueAt kvs (mkS r)) z
 | [],_,z,_,q,h=>by
  cases(show _=_ from repL_nil q)
  refine someI h ?_;clear h;intro hx;subst hx;rfl
 |kv::kvs,ps,z,hk,q,h=>by
  refine x2_3 (repL_cons q) λp ps he2=>?_;subst he2;intro a b
  have hkl:=hk kv (.head _)
  rw[List.map_cons]at h
  dsimp only[findD,consK]at h
  have hq:pvEq σ 4 (.str kv.1.cps.toList) (.str r)=some (eqL kv.1.cps.toList r):=by
   show ropeEq _ _=_
   unfold ropeEq
   cases e:eqL kv.1.cps.toList r with
   |true=>rfl
   |false=>simp[hkl,hl]
  rw[hq]at h
  cases e:eqL kv.1.cps.toList r with
  |true=>
   rw[e]at h;refine someI h ?_;clear h;intro hx;subst hx
   refine⟨kv.2,?_,a⟩
   exact rwG valueAt_cons (rwG (if_pos (by rw[←eqL_eq e,mkS_toList])) rfl)
  |false=>
   rw[e]at h
   rw[valueAt_cons,if_neg (λq=>eqL_false e (by refine rwG q ?_;rfl))]
   exact findD_ok hl (λkv' h'=>hk kv' (.tail _ h')) b h
theorem dictGet_ok{X:Fix}(O:FixOK X){g:GW}{s:Shared}{σ:Sto}(R:HR X g σ s.heap){v u:Value}{d p:PV}{z:Option PV}(h:dictGet X.T σ d p=some z)(r1:RepV X g v d)(r2:RepV X g u p)(hstr:∃r,p=.str r) :
  ∃a kvs x t,v=.ref a∧u=.str x t∧(a==sysModules)=false∧s.heap.DictOf (strKind X.prog X.w) a kvs∧HasVal X g (valueAt kvs x) z:=by
 refine x1_1 hstr λr he1=>?_;subst he1;clear hstr
 refine ifB h nS ?_;clear h;intro hl h
 refine x1_1 r2.iS λt he1=>?_;refine rwG he1 ?_;clear he1
 refine rwG (den_lit hl) ?_
 cases d with
 |old a=>
  refine ifE' h nS ?_;clear h;intro es he h;refine ifE' h nS ?_;clear h;intro z' hf h
  refine x0_2 (dictK_ok O R he) λh1 hq1=>?_;refine x1_2 hq1 λkvs hd hp=>?_
  refine x1_2 r1.iO λzz he1=>?_;subst he1;intro zz
  have hv:=findK_ok hl hp hf
  cases z' with
  |none=>refine someI h ?_;clear h;intro hx;subst hx;exact⟨_,kvs,_,_,rfl,rfl,h1,hd,hv⟩
  |some v'=>
   refine ifE' h nS ?_;clear h;intro q hq h
   refine someI h ?_;clear h;intro hx;subst hx
   exact⟨_,kvs,_,_,rfl,rfl,h1,hd,v',hv,ofV_ok O R _ hq⟩
 |dct ks vs=>
  refine x2_4 r1.inv λa o he1=>?_;refine rwG he1 ?_;clear he1;intro e1 e3 hh
  rcases hh with hh|hh
  ·refine x1_4 hh λkvs e2 e4 e5 e6=>?_
   refine⟨_,_,_,_,rfl,rfl,e3,Heap.dictOf_iff.mpr ⟨_,R.frz _ _ e1,e2⟩,?_⟩
   subst e4;exact findD_ok hl e5 e6 h
  ·refine x1_3 hh λkvs e2 e4 e5=>?_
   subst e4
   cases kvs with
   |nil=>
    obtain rfl:vs=[]:=e5.jnv
    refine someI h ?_;clear h;intro hx;subst hx
    refine⟨_,[],_,_,rfl,rfl,e3,Heap.dictOf_iff.mpr ⟨_,R.frz _ _ e1,?_⟩,rfl⟩
    refine x2_5 e2 λes ep x1 x2 x3 x4 x5=>?_;clear e2
    have:es = #[]:=by
     cases hes:es.toList with
     |nil=>exact Array.toList_eq_nil_iff.mp hes
     |cons=>rw[hes]at x4;cases x4
    subst this
    exact⟨#[],ep,x1,x2,(λe he=>by simp at he),.nil,List.nodup_nil⟩
   |cons kv kvs=>
    refine x2_3 (repL_cons e5) λq qs he _ _=>?_;subst he
    exact absN h
 |_=>exact absN h
end
section
theorem foldl_rep{α:Type}(a:Array α):∀(n:Nat) (acc:Array α),((List.replicate n a).foldl (λx y=>x++y) acc).toList=acc.toList++repL a.toList n
 |0,acc=>(vO _).symm
 |n+1,acc=>by
  rw[List.replicate_succ,List.foldl_cons,foldl_rep a n,Array.toList_append,List.append_assoc];rfl
theorem rep_len{α:Type}(a:List α):∀n,(repL a n).length=a.length*n
 |0=>rfl
 |n+1=>by rw[repL_c,List.length_append,rep_len a n,Nat.mul_succ,Nat.add_comm]
theorem rep_nil{α:Type}:∀n,repL ([]:List α) n=[]
 |0=>rfl
 |n+1=>rep_nil n
theorem rep_one{α:Type}(a:List α):repL a 1=a:=vO a
theorem den_rep{θ:Nat→List Nat}(r:List Nat):∀n,den θ (repL r n)=repL (den θ r) n
 |0=>rfl
 |n+1=>by rw[repL_c,den_append,den_rep r n];rfl
theorem RepL.rep{X:Fix}{g:GW}{vs:List Value}{ps:List PV}(r:RepL X g vs ps):∀n,RepL X g (repL vs n) (repL ps n)
 |0=>.nil
 |n+1=>r.append (RepL.rep r n)
theorem few_ok{n:Int}(h:few n=true):0≤n∧n.toNat≤16:=band2 h λh1 h2=>⟨of_decide_eq_true h1,vA h2⟩
theorem noFill_tuple_mul:fillsNumberSlot (.type "tuple") "mul"=pure false:=
 PySem.fillsNumberSlot_seq (id:="tuple.__mul__") (r:=some (.builtin "tuple.__rmul__")) PySem.F.slot_tuple_mul.lookup (by decide +kernel) PySem.F.slot_tuple_rmul.lookup (by decide +kernel)
theorem repeat_tuple:seqRepeat? (.type "tuple")=pure (some (.builtin "tuple.__mul__")):=by
 unfold seqRepeat?
 rw[PySem.seqSlot_of (T:="tuple") (name:="__mul__") (id:="tuple.__mul__") PySem.F.slot_tuple_mul.lookup (by decide +kernel),PySem.seqSlot_of (T:="tuple") (name:="__rmul__") (id:="tuple.__rmul__") PySem.F.slot_tuple_rmul.lookup (by decide +kernel)]
 rfl
theorem int_rmul_tuple(a:Int)(t:Tok)(l:Addr)(items:Array Value)(n:Nat) :
  Meets (Builtin.«int.__rmul__» ⟨[.int a t,.ref l],[]⟩) (λ_ R s=>s.heap.get? l=some { cls:=.type "tuple",data:=.seq items n }∧R (.ok (.ret Value.notImplemented)) s):=
 .of_wp λprog w A R s h=>by obtain⟨hp,g,d,tk,os⟩:=s;refine x0_2 h λhl h=>?_;wp_walk;exact⟨_,rfl,h⟩
theorem tup_mul_same(l:Addr)(items:Array Value)(n:Nat)(x:Int)(u:Tok)(hr:(decide (x < -(2 ^ 63:Int))||decide (x ≥ 2 ^ 63))=false)(h1:(items.isEmpty||x==1)=true) :
  Meets (Builtin.«tuple.__mul__» ⟨[.ref l,.int x u],[]⟩) (λ_ R s=>s.heap.get? l=some { cls:=.type "tuple",data:=.seq items n }∧R (.ok (.ret (.ref l))) s):=
 .of_wp λprog w A R s h=>by obtain⟨hp,g,d,tk,os⟩:=s;refine x0_2 h λhl h=>?_;have f1:=PySem.AutoSeq1.idx_int;have f2:=PySem.AutoSeq1.sub_tuple_tuple;wp_walk using PySem.AutoSeq1.wpAny_loadPart' hl;refine wpAny_ite_false (by rw[hr];rfl) ?_;wp_walk using PySem.AutoSeq1.wpAny_loadPart' hl;exact⟨_,rfl,h⟩
theorem tup_mul_new(l:Addr)(items:Array Value)(n:Nat)(x:Int)(u:Tok)(hr:(decide (x < -(2 ^ 63:Int))||decide (x ≥ 2 ^ 63))=false)(h1:(items.isEmpty||x==1)=false)(h2:(decide (x≤0)||items.isEmpty)=false)(h3:¬((items.size:Int)*x>(2 ^ 63-1)/8))(h4:Builtin.Tuple.tupleTooMany ((items.size:Int)*x)=false)
  (h5:(List.foldl (λx1 x2=>x1++x2) #[] (List.replicate x.toNat items)).size≤sizeLine) :
  Meets (Builtin.«tuple.__mul__» ⟨[.ref l,.int x u],[]⟩) (λ_ R s=>s.heap.get? l=some { cls:=.type "tuple",data:=.seq items n }∧R (.ok (.ret (.ref s.heap.objs.size))) { s with heap:=s.heap.push { cls:=.type "tuple",data:=.seq (List.foldl (λx1 x2=>x1++x2) #[] (List.replicate x.toNat items)) } }):=
 .of_wp λprog w A R s h=>by obtain⟨hp,g,d,tk,os⟩:=s;refine x0_2 h λhl h=>?_;have f1:=PySem.AutoSeq1.idx_int;have f2:=PySem.AutoSeq1.sub_tuple_tuple;wp_walk using PySem.AutoSeq1.wpAny_loadPart' hl;refine wpAny_ite_false (by rw[hr];rfl) ?_;wp_walk using PySem.AutoSeq1.wpAny_loadPart' hl;refine wpAny_ite_false (decide_eq_false h3) ?_;wp_walk;exact⟨_,rfl,h⟩
theorem tup_mul_none(l:Addr)(items:Array Value)(n:Nat)(u:Tok)(h1:items.isEmpty=false) :
  Meets (Builtin.«tuple.__mul__» ⟨[.ref l,.int 0 u],[]⟩) (λ_ R s=>s.heap.get? l=some { cls:=.type "tuple",data:=.seq items n }∧R (.ok (.ret (.ref s.heap.objs.size))) { s with heap:=s.heap.push { cls:=.type "tuple",data:=.seq #[] } }):=
 .of_wp λprog w A R s h=>by obtain⟨hp,g,d,tk,os⟩:=s;refine x0_2 h λhl h=>?_;have f1:=PySem.AutoSeq1.idx_int;have f2:=PySem.AutoSeq1.sub_tuple_tuple;wp_walk using PySem.AutoSeq1.wpAny_loadPart' hl;exact⟨_,rfl,h⟩
theorem inP_ok{X:Fix}(O:FixOK X){g:GW}{r:List Nat}{vs:List Value}{ps:List PV}{c:Bool}(q:RepL X g vs ps)(h:inP r ps=some c) :
  (∀y∈vs,∃x t,y=.str x t)∧vs.any (λy=>match y with|.str x _=>x==mkS (den X.θ r)|_=>false)=c:=by
 induction ps generalizing vs c with
 |nil=>
  obtain rfl:=q.i0
  obtain rfl:=vC h
  exact⟨λy h=>(List.not_mem_nil h).elim,rfl⟩
 |cons p ps ih=>
  refine x2_3 q.i1 λv us he a b=>?_;subst he
  revert a
  refine pstrE (P:=λp=>RepV X g v p→_) h nS λy h a=>ifE' h nS λx e1 h=>ifE' h nS λz e2 h=>?_
  obtain rfl:=vC h
  refine x1_1 a.iS λt e=>?_;subst e
  refine x0_2 (ih b e2) λh1 h2=>⟨λw hw=>?_,?_⟩
  ·rcases vI hw with rfl|hw
   ·exact⟨_,_,rfl⟩
   ·exact h1 w hw
  ·rw[List.any_cons,h2]
   refine congrArg (· ||z) (show(mkS (den X.θ y)==mkS (den X.θ r))=x from ?_)
   rw[←ropeEq_ok O e1]
   by_cases hd:den X.θ y=den X.θ r
   ·rw[hd,decide_eq_true rfl];exact beq_self_eq_true _
   ·rw[decide_eq_false hd,beq_eq_false_iff_ne];exactλz=>hd (mkS_inj.mp z)
section
variable{X:Fix}(O:FixOK X){g:GW}{A:Around}{s:Shared}{σ:Sto}(R:HR X g σ s.heap){E:Value→Shared→Prop}
include O R
theorem in_seq_ok{r:List Nat}{t:Tok}{vs:Array Value}{ps:List PV}{c:Bool}(q:RepL X g vs.toList ps)(h:inP r ps=some c) :
  (∀y,y∈vs→EqAt A.in1 s y (.str (mkS (den X.θ r)) t) (match y with|.str x _=>x==mkS (den X.θ r)|_=>false))∧vs.any (λy=>match y with|.str x _=>x==mkS (den X.θ r)|_=>false)=c:=by
 refine x0_2 (inP_ok O q h) λh1 h2=>?_
 refine⟨λy hy=>?_,?_⟩
 ·refine x2_1 (h1 y (Array.mem_toList_iff.mpr hy)) λx u he2=>?_;subst he2
  exact EqAt.str_str _ _ _ _
 ·rw[←h2,←Array.any_toList]
omit O R in
theorem plainNo_ok{v:Value}{p:PV}{t:Bool}(r:RepV X g v p)(h:plainNo p=some t):plainIs v .none=true∧(v == .none)=t:=by
 revert h
 exact@RepV.casesOn X g (λv p _=>plainNo p=some t→plainIs v .none=true∧(v == .none)=t) v p r (λh=>⟨rfl,vC h⟩) (λ_ h=>⟨rfl,vC h⟩) (λ_ _ h=>⟨rfl,vC h⟩) (λ_ _ h=>⟨rfl,vC h⟩) (λ_ _ h=>⟨rfl,vC h⟩) (λ_ h=>⟨rfl,vC h⟩) (λ_ h=>⟨rfl,vC h⟩) (λ_ _ _ _ _ _ h=>⟨rfl,vC h⟩) (λ_ _ _ _ _ h=>⟨rfl,vC h⟩) (λ_ _ _ _ _ _ _ _ _ _ _ _ _ h=>⟨rfl,vC h⟩) (λ_ _ _ h=>absN h)
theorem isNo_ok{v u:Value}{a b:PV}{c:Bool}{f:Bool→Bool}(h:isNo b a f=some c)(r1:RepV X g v a)(r2:RepV X g u b):u=.none∧plainIs v .none=true∧f (v == .none)=c:=by
 unfold isNo at h
 revert r2
 refine nilPE h nS ?_;clear h;intro h r2;refine ifE' h nS ?_;clear h;intro t e h
 obtain rfl:=r2.iN
 refine x0_2 (plainNo_ok r1 e) λh1 h2=>?_
 refine someI h ?_;clear h;intro hx;subst hx
 exact⟨rfl,h1,by rw[h2]⟩
omit O R in
theorem ltP_ok{v u:Value}{a b:PV}{c:Bool}{f:Int→Int→Bool}(h:ltP a b f=some c)(r1:RepV X g v a)(r2:RepV X g u b):∃x y t t',v=.int x t∧u=.int y t'∧f x y=c:=by
 unfold ltP at h
 revert r1
 refine pintE h nS ?_;clear h;intro x h r1
 revert r2
 refine pintE h nS ?_;clear h;intro y h r2
 refine x1_1 r1.iI λzz he1=>?_;subst he1
 refine x1_1 r2.iI λzz he1=>?_;subst he1
 refine someI h ?_;clear h;intro hx;subst hx
 exact⟨_,_,_,_,rfl,rfl,rfl⟩
theorem cmp_ok{op:CmpOp}{a b:PV}{v u:Value}{c:Bool}{Q:Value→Shared→Prop}(hu:A.units+64<cLine)(h:cmpP X.T op a b σ=some c)(r1:RepV X g v a)(r2:RepV X g u b)
  (hQ:∀tk,Q (.bool c) { s with toks:=tk }):wpAny (model X.prog X.w) A (compareOp op v u) Q E s:=by
 have hQ':=hQ s.toks
 cases op with
 |Eq=>exact(eqAt_ok O R 40 (by(with_reducible exact Internal.ar21 (by assumption))) r1 r2 h).2 _ _ _ _ hQ'
 |NotEq=>
  refine ifE' h nS ?_;clear h;intro c' e h
  refine someI h ?_;clear h;intro hx;subst hx;exact rcNeAt_ok O R (n:=39) (by(with_reducible exact Internal.ar21 (by assumption))) r1 r2 e _ _ _ _ hQ'
 |Lt=>refine x4_3 (ltP_ok (X:=X) h r1 r2) λx y t t' he4=>?_;subst he4;intro he5;subst he5;intro he6;subst he6;exact lt_int hQ'
 |LtE=>refine x4_3 (ltP_ok (X:=X) h r1 r2) λx y t t' he4=>?_;subst he4;intro he5;subst he5;intro he6;subst he6;exact le_int hQ'
 |Gt=>refine x4_3 (ltP_ok (X:=X) h r1 r2) λx y t t' he4=>?_;subst he4;intro he5;subst he5;intro he6;subst he6;exact gt_int hQ'
 |Is=>refine x0_3 (isNo_ok (X:=X) O R h r1 r2) λhe0=>?_;subst he0;intro h1 he2;subst he2;exact wpAny_is_plain h1 hQ'
 |IsNot=>refine x0_3 (isNo_ok (X:=X) O R h r1 r2) λhe0=>?_;subst he0;intro h1 he2;subst he2;exact wpAny_isNot_plain h1 hQ'
 |In=>
  revert r1
  refine pstrE h nS ?_;clear h;intro r h r1
  cases b with
  |tup xs=>
   refine x2_3 (RepV.isTuple R r2) λa vs he2=>?_;subst he2;intro ht q
   refine x1_1 r1.iS λt he1=>?_;subst he1
   refine x0_2 (in_seq_ok O R (A:=A) (t:=t) q h) λh1 h2=>?_
   exact in_tupleAt _ ht h1 (by rw[h2];exact hQ')
  |lst i=>
   refine ifE' h nS ?_;clear h;intro xs e1 h
   refine x2_5 (RepV.isList R r2 (gtS e1)) λa vs he2=>?_;subst he2;intro zz ht q zz
   refine x1_1 r1.iS λt he1=>?_;subst he1
   refine x0_2 (in_seq_ok O R (A:=A) (t:=t) q h) λh1 h2=>?_
   exact in_listAt _ ht h1 (by rw[h2];exact hQ')
  |old a=>
   refine ifE' h nS ?_;clear h;intro z e h
   refine someI h ?_;clear h;intro hx;subst hx
   refine x4_5 (dictGet_ok O R e r2 r1 ⟨_,rfl⟩) λa kvs x t he4=>?_;subst he4;intro he5;subst he5;intro hs hd hv
   refine wpAny_in_of (strKind_is _ _ x t) hs hd.mapOf ?_
   cases z with
   |none=>rw[show valueAt kvs x=none from hv];exact hQ _
   |some q=>refine x1_2 hv λv' hv zz=>?_;rw[hv];exact hQ _
  |_=>exact absN h
 |NotIn=>
  revert r1
  refine pstrE h nS ?_;clear h;intro r h r1
  revert r2
  refine ptupE h nS ?_;clear h;intro xs h r2;refine ifE' h nS ?_;clear h;intro z e h
  refine someI h ?_;clear h;intro hx;subst hx
  refine x2_3 (RepV.isTuple R r2) λa vs he2=>?_;subst he2;intro ht q
  refine x1_1 r1.iS λt he1=>?_;subst he1
  refine x0_2 (in_seq_ok O R (A:=A) (t:=t) q e) λh1 h2=>?_
  exact notIn_tupleAt _ ht h1 (by rw[h2];exact hQ')
 |_=>exact absN h
theorem vg_new{l:List Env}{S:Addr→Prop}{o:Obj}(hf:o.isFreed=false):To X S l g s g { s with heap:=s.heap.push o }∧HR X g σ (s.heap.push o)∧(s.heap.push o).get? s.heap.objs.size=some o∧(g.Γ s.heap.objs.size=none∧s.heap.objs.size∉g.la∧s.heap.objs.size≠X.P):=
 ⟨⟨Stp.heap (by show _≤(s.heap.push o).objs.size;rw[Heap.size_push];exact Nat.le_succ _) λzz zz e zz zz zz=>Heap.get?_push_of_some _ e,rfl,rfl⟩,R.push o,Heap.get?_push_size _ hf,R.fresh (vD _)⟩
theorem new_tuple{l:List Env}{S:Addr→Prop}{vs:Array Value}{ps:List PV}{k:KV}(q:RepL X g vs.toList ps)(hk:k (.tup ps) σ=true)(tk:Nat) :
  VG X S l g s (RV X k) (.ref s.heap.objs.size) { s with heap:=s.heap.push { cls:=.type "tuple",data:=.seq vs },toks:=tk }:=by
 refine x0_6 (vg_new O R (l:=l) (S:=S) (o:={ cls:=.type "tuple",data:=.seq vs }) rfl) λt R' ho n1 n2 n3=>?_
 refine⟨⟨λb=>if b=s.heap.objs.size then some { cls:=.type "tuple",data:=.seq vs }else g.Γ b,g.la⟩,σ,⟨(t.st.freeze (vD _) n1),t.gens,t.os⟩,R'.freeze ho n2 n3 n1,.tup ps,?_,hk⟩
 refine .tup (n:=0) (vs:=vs) (by simp) (repL_mono ?_ q)
 exact GExt.new n1
theorem new_list{l:List Env}{S:Addr→Prop}{vs:Array Value}{ps:List PV}{k:KV}(q:RepL X g vs.toList ps)(hk:k (.lst σ.length) (σ++[ps])=true)(tk:Nat) :
  VG X S l g s (RV X k) (.ref s.heap.objs.size) { s with heap:=s.heap.push { cls:=.type "list",data:=.seq vs },toks:=tk }:=by
 refine x0_6 (vg_new O R (l:=l) (S:=S) (o:={ cls:=.type "list",data:=.seq vs }) rfl) λt R' ho n1 n2 n3=>?_
 refine x0_2 (R'.newList (a:=s.heap.objs.size) (vs:=vs) (xs:=ps) ⟨0,ho⟩ q n1 n2 n3) λR'' r=>?_
 exact⟨_,_,⟨t.st.newList (vD _),t.gens,t.os⟩,R'',_,r,hk⟩
theorem vg_str{l:List Env}{S:Addr→Prop}{r:List Nat}{x:Str}{k:KV}(e:x=mkS (den X.θ r))(hk:k (.str r) σ=true)(t tk:Nat):VG X S l g s (RV X k) (.str x t) { s with toks:=tk }:=
 ⟨g,σ,To.refl.toks _,R,_,.str t e,hk⟩
theorem vg_val{l:List Env}{S:Addr→Prop}{v:Value}{p:PV}{k:KV}(r:RepV X g v p)(hk:k p σ=true)(tk:Nat):VG X S l g s (RV X k) v { s with toks:=tk }:=
 ⟨g,σ,To.refl.toks _,R,_,r,hk⟩
theorem arI_ok{v u:Value}{a b:PV}{f:Int→Int→Bool}(h:arI a b f=true)(r1:RepV X g v a)(r2:RepV X g u b):∃x y t t',v=.int x t∧u=.int y t'∧f x y=true:=by
 unfold arI at h
 revert r1
 refine pintE h fT ?_;clear h;intro x h r1
 revert r2
 refine pintE h fT ?_;clear h;intro y h r2
 refine x1_1 r1.iI λzz he1=>?_;subst he1
 refine x1_1 r2.iI λzz he1=>?_;subst he1
 exact⟨_,_,_,_,rfl,rfl,h⟩
theorem mul_ok{l:List Env}{S:Addr→Prop}{a b:PV}{v u:Value}{k:KV}(h:mulP a b σ k=true)(r1:RepV X g v a)(r2:RepV X g u b) :
  wpAny (model X.prog X.w) A (binaryOp .Mult v u) (VG X S l g s (RV X k)) E s:=by
 have rng:∀{n:Int},0≤n→n.toNat≤16→(decide (n < -(2 ^ 63:Int))||decide (n ≥ 2 ^ 63))=false:=λh1 h2=>by
  rw[decide_eq_false (by lia),decide_eq_false (by lia)];rfl
 cases a with
 |str x=>
  revert r2
  refine pintE h fT ?_;clear h;intro n h r2;refine ifB h fT ?_;clear h;intro hf h;refine band2 hf ?_;clear hf;intro hf hx;refine ifB h fT ?_;clear h;intro hl h
  refine x0_2 (few_ok hf) λn0 n1=>?_
  have hx:=vA hx
  refine x1_1 r1.iS λt1 he1=>?_;subst he1
  refine x1_1 r2.iI λt2 he1=>?_;subst he1
  have hd:=den_len (λi=>(O.th i).2) x
  have hb:(mkS (den X.θ x)).length*n.toNat≤16*819200:=by
   rw[mkS_len,Nat.mul_comm];exact Nat.mul_le_mul n1 (vE hd (Nat.mul_le_mul_left 4096 hx))
  have tl:∀{m:Nat},m≤16*819200→Builtin.Str.tooLong m=false:=λh=>decide_eq_false (vL (vE h (by decide)))
  have en:∀tk,VG X S l g s (RV X k) (.str (mkS (repL (den X.θ x) n.toNat)) tk) { s with toks:=s.toks+1 }:=λtk=>vg_str O R (r:=repL x n.toNat) (by rw[den_rep]) h tk _
  refine PySem.P.mul_str (rng n0 n1) (λq1 q2 q3=>?_) (λq1 q2=>?_) ?_
  ·have h3:(0:Int)<n:=by lia
   have h5:(((mkS (den X.θ x)).length*n.toNat:Nat):Int)≤((16*819200:Nat):Int):=Int.ofNat_le.mpr hb
   have h6:=(Int.lt_iff_add_one_le).mp q3
   have h8:(2 ^ 63-1:Int)<((2 ^ 63-1)/n+1)*n:=Int.lt_ediv_add_one_mul_self _ h3
   have h9:((2 ^ 63-1)/n+1)*n≤((mkS (den X.θ x)).length:Int)*n:=Int.mul_le_mul_of_nonneg_right h6 n0
   have h10:((mkS (den X.θ x)).length:Int)*n=(((mkS (den X.θ x)).length*n.toNat:Nat):Int):=by rw[Int.natCast_mul,Int.toNat_of_nonneg n0]
   lia
  ·exact tl hb
  ·by_cases z:n<1
   ·rw[if_pos z]
    obtain rfl:n=0:=by lia
    exact⟨by decide,en _⟩
   ·rw[if_neg z]
    by_cases z1:(n==1||(mkS (den X.θ x)).length==0)=true
    ·rw[if_pos z1]
     refine vg_str O R (r:=repL x n.toNat) ?_ h _ _
     rw[den_rep]
     rcases vK z1 with q|q
     ·obtain rfl:n=1:=by simpa using q
      rw[show(1:Int).toNat=1 from rfl,rep_one]
     ·have:den X.θ x=[]:=by rw[mkS_len]at q;simpa using q
      rw[this,rep_nil]
    ·rw[if_neg z1]
     have e:(⟨List.foldl (λx1 x2=>x1++x2) #[] (List.replicate n.toNat (mkS (den X.θ x)).cps)⟩:Str)=mkS (repL (den X.θ x) n.toNat):=by
      show _=(⟨_⟩:Str)
      congr 1
      apply Array.toList_inj.mp
      rw[foldl_rep];simp[mkS]
     refine⟨?_,e▸en _⟩
     rw[e,mkS_len,rep_len,←mkS_len];exact vE hb (by rw[sizeLine_eq];decide)
 |tup xs=>
  revert r2
  refine pintE h fT ?_;clear h;intro n h r2;refine ifB h fT ?_;clear h;intro hf h;refine band2 hf ?_;clear hf;intro hf hx;refine ifB h fT ?_;clear h;intro hl h
  refine x0_2 (few_ok hf) λn0 n1=>?_
  have hx:=vA hx
  refine x3_3 r1.iT λa vs m he3=>?_;subst he3;intro e1 q1
  refine x1_1 r2.iI λt2 he1=>?_;subst he1
  have o1:=R.frz _ _ e1
  have l1:=q1.length
  rw[vH]at l1
  have hT:s.TypeIs (.ref a) "tuple":=⟨_,o1,rfl⟩
  have hb:vs.size*n.toNat≤200*16:=Nat.mul_le_mul (l1▸hx) n1
  have road:∀{B:PySem.Spec},Meets (Builtin.«tuple.__mul__» ⟨[.ref a,.int n t2],[]⟩) B→B A (wants (VG X S l g s (RV X k)) E) s→wpAny (model X.prog X.w) A (binaryOp .Mult (.ref a) (.int n t2)) (VG X S l g s (RV X k)) E s:=λm1 m2=>
   wpAny_binaryOp_repeat_ref (T:="tuple") (U:="int") (by decide) hT (λs'=>typeIs_int s' n t2) noFill_tuple_mul PySem.F.fills_int_mul PySem.F.slot_int_rmul repeat_tuple PySem.F.slot_int_index.lookup
    (call_meets PySem.F.slot_int_rmul (typeIs_int s n t2) PySem.F.entry_int_rmul (PySem.F.args_int_rmul_2 _ _) (int_rmul_tuple n t2 a vs m)
     ⟨o1,rfl,hT,call_meets PySem.F.slot_tuple_mul hT PySem.F.entry_tuple_mul (PySem.F.args_tuple_mul_2 _ _) m1 m2⟩)
  by_cases z1:(vs.isEmpty||n==1)=true
  ·refine road (tup_mul_same a vs m n t2 (rng n0 n1) z1) ⟨o1,vg_val O R r1 ?_ s.toks⟩
   rcases vK z1 with q|q
   ·obtain rfl:xs=[]:=List.length_eq_zero_iff.mp (by rw[←l1];simpa using q)
    rw[rep_nil]at h;exact h
   ·obtain rfl:n=1:=by simpa using q
    rw[show(1:Int).toNat=1 from rfl,rep_one]at h;exact h
  ·have z1':(vs.isEmpty||n==1)=false:=by simpa using z1
   have z2:vs.isEmpty=false:=by cases q:vs.isEmpty with|true=>rw[q]at z1';cases z1'|false=>rfl
   by_cases z:n=0
   ·subst z
    exact road (tup_mul_none a vs m t2 z2) ⟨o1,new_tuple O R (vs:=#[]) (ps:=[]) .nil h s.toks⟩
   ·have e:=foldl_rep vs n.toNat #[]
    refine road (tup_mul_new a vs m n t2 (rng n0 n1) z1' (by rw[z2,decide_eq_false (by lia)];rfl) ?_ ?_ ?_) ⟨o1,new_tuple O R (vs:=List.foldl (λx1 x2=>x1++x2) #[] (List.replicate n.toNat vs)) (ps:=repL xs n.toNat) (by rw[e];exact q1.rep _) h s.toks⟩
    ·have h10:(vs.size:Int)*n=((vs.size*n.toNat:Nat):Int):=by rw[Int.natCast_mul,Int.toNat_of_nonneg n0]
     rw[h10];lia
    ·have h10:(vs.size:Int)*n=((vs.size*n.toNat:Nat):Int):=by rw[Int.natCast_mul,Int.toNat_of_nonneg n0]
     rw[h10];exact decide_eq_false (by rw[sizeLine_eq];lia)
    ·rw[←vH,e]
     show(repL vs.toList n.toNat).length≤_
     rw[rep_len,vH,sizeLine_eq];lia
 |lst i=>
  revert r2
  refine pintE h fT ?_;clear h;intro n h r2;refine ifE' h fT ?_;clear h;intro xs e1 h;refine ifB h fT ?_;clear h;intro hf h;refine band2 hf ?_;clear hf;intro hf hx;refine ifB h fT ?_;clear h;intro hl h
  refine x0_2 (few_ok hf) λn0 n1=>?_
  have hx:=vA hx
  refine x2_5 (RepV.isList R r1 (gtS e1)) λa vs he2=>?_;subst he2;intro zz ht q1 hq6;refine x1_1 hq6 λm o1=>?_
  refine x1_1 r2.iI λt2 he1=>?_;subst he1
  have l1:=q1.length
  rw[vH]at l1
  have hT:s.TypeIs (.ref a) "list":=ht.typeIs
  have hb:vs.size*n.toNat≤200*16:=Nat.mul_le_mul (l1▸hx) n1
  refine wpAny_binaryOp_repeat_ref (T:="list") (U:="int") (by decide) hT (λs'=>typeIs_int s' n t2) noFill_list_mul PySem.F.fills_int_mul PySem.F.slot_int_rmul repeat_list PySem.F.slot_int_index.lookup
   (call_meets PySem.F.slot_int_rmul (typeIs_int s n t2) PySem.F.entry_int_rmul (PySem.F.args_int_rmul_2 _ _) (int___rmul___int_list n t2 a vs m)
    ⟨o1,rfl,hT,call_meets PySem.F.slot_list_mul hT PySem.F.entry_list_mul (PySem.F.args_list_mul_2 _ _) (AutoListH.list___mul___list_int_3 a vs m n t2 (by simp[Builtin.List.listFitsIndex];lia) (by lia) (by simp[Builtin.List.listTooLong,sizeLine];lia)) ⟨o1,?_⟩⟩)
  refine new_list O R (ps:=repL xs n.toNat) ?_ h s.toks
  rw[foldl_rep]
  show RepL X g (repL vs.toList _) _
  by_cases z:vs.isEmpty=true
  ·have:vs.toList=[]:=by simpa using z
   rw[this,rep_nil]
   obtain rfl:xs=[]:=List.length_eq_zero_iff.mp (by rw[←l1];simpa using z)
   rw[rep_nil];exact .nil
  ·rw[if_neg z];exact q1.rep _
 |_=>
  refine x4_3 (arI_ok O R h r1 r2) λx y t t' he4=>?_;subst he4;intro he5;subst he5;intro h
  refine ifB h fT ?_;clear h;intro hs h
  refine PyProof.Rows.mul_int (vg_val O R (.int _ _) h _) ?_
  rcases vK hs with q|q
  ·exact IntMulOk.of_left (intBits_le (by unfold smallF at q;simpa using q))
  ·exact IntMulOk.of_right (intBits_le (by unfold smallF at q;simpa using q))
theorem bin_ok{l:List Env}{S:Addr→Prop}{op:Operator}{a b:PV}{v u:Value}{k:KV}(h:binP op a b σ k=true)(r1:RepV X g v a)(r2:RepV X g u b) :
  wpAny (model X.prog X.w) A (binaryOp op v u) (VG X S l g s (RV X k)) E s:=by
 cases op with
 |Add=>
  cases a with
  |str x=>
   revert r2
   refine pstrE h fT ?_;clear h;intro y h r2;refine ifB h fT ?_;clear h;intro hl h
   refine x1_1 r1.iS λt1 he1=>?_;subst he1
   refine x1_1 r2.iS λt2 he1=>?_;subst he1
   refine add_str (λt' tk=>vg_str O R (r:=x++y) (by rw[den_append,mkS_append]) h t' tk) ?_
   have:=den_fits O hl
   rw[den_append,mkS_len,List.length_append]at this
   rw[mkS_len,mkS_len];exact this
  |int x=>
   revert r2
   refine pintE h fT ?_;clear h;intro y h r2
   refine x1_1 r1.iI λzz he1=>?_;subst he1;refine x1_1 r2.iI λzz he1=>?_;subst he1
   exact add_int (vg_val O R (.int _ _) h _)
  |lst i=>
   revert r2
   refine plstE h fT ?_;clear h;intro j h r2;refine ifE' h fT ?_;clear h;intro xs e1 h;refine ifE' h fT ?_;clear h;intro ys e2 h;refine ifB h fT ?_;clear h;intro hl h
   refine x2_5 (RepV.isList R r1 (gtS e1)) λa vs he2=>?_;subst he2;intro zz ht q1 hq6;refine x1_1 hq6 λn1 p1=>?_
   refine x2_5 (RepV.isList R r2 (gtS e2)) λb us he2=>?_;subst he2;intro zz ht' q2 hq6;refine x1_1 hq6 λn2 p2=>?_
   have hlen:vs.size+us.size≤sizeLine:=by
    have l1:=q1.length;have l2:=q2.length
    rw[vH]at l1 l2
    have:=okL_le hl
    rw[List.length_append]at this
    rw[sizeLine_eq];(with_reducible exact Internal.ar28 (by assumption) (by assumption) (by assumption))
   refine wpAny_binaryOp_concat ht.typeIs ht'.typeIs noFill_list_add seq_list_add ?_
   refine call_meets F.slot_list_add ht.typeIs F.entry_list_add (F.args_list_add_2 _ _) (AutoSeq1.list___add___list_list_0 a vs n1 b us n2 hlen) ⟨p1,p2,?_⟩
   exact new_list O R (vs:=vs++us) (ps:=xs++ys) (by rw[Array.toList_append];exact q1.append q2) h _
  |tup xs=>
   revert r2
   refine ptupE h fT ?_;clear h;intro ys h r2;refine ifB h fT ?_;clear h;intro hl h
   have r1':=r1;have r2':=r2
   refine x3_3 r1.iT λa vs n he3=>?_;subst he3;intro e1 q1
   refine x3_3 r2.iT λb us m he3=>?_;subst he3;intro e2 q2
   have o1:=R.frz _ _ e1;have o2:=R.frz _ _ e2
   have l1:=q1.length;have l2:=q2.length
   rw[vH]at l1 l2
   have road:∀{B:PySem.Spec},Meets (Builtin.«tuple.__add__» ⟨[.ref a,.ref b],[]⟩) B→B A (wants (VG X S l g s (RV X k)) E) s→wpAny (model X.prog X.w) A (binaryOp .Add (.ref a) (.ref b)) (VG X S l g s (RV X k)) E s:=λm1 m2=>
    concat_meets ⟨_,o1,rfl⟩ ⟨_,o2,rfl⟩ noFill_tuple_add seq_tuple_add PySem.F.slot_tuple_add PySem.F.entry_tuple_add (PySem.F.args_tuple_add_2 _ _) m1 m2
   by_cases hv:vs.isEmpty=true
   ·obtain rfl:xs=[]:=List.length_eq_zero_iff.mp (by rw[←l1];simpa using hv)
    exact road (AutoSeq1.tuple___add___tuple_tuple_0 a vs n b us m hv) ⟨o1,o2,vg_val O R r2' h s.toks⟩
   ·by_cases hw:us.isEmpty=true
    ·obtain rfl:ys=[]:=List.length_eq_zero_iff.mp (by rw[←l2];simpa using hw)
     rw[vO]at h
     exact road (AutoSeq1.tuple___add___tuple_tuple_1 a vs n b us m hv hw) ⟨o1,o2,vg_val O R r1' h s.toks⟩
    ·refine road (AutoSeq1.tuple___add___tuple_tuple_2 a vs n b us m hv hw ?_) ⟨o1,o2,new_tuple O R (vs:=vs++us) (ps:=xs++ys) (by rw[Array.toList_append];exact q1.append q2) h s.toks⟩
     have:=okL_le hl
     rw[List.length_append]at this
     rw[sizeLine_eq];(with_reducible exact Internal.ar28 (by assumption) (by assumption) (by assumption))
  |_=>exact absF h
 |Mult=>exact mul_ok O R h r1 r2
 |FloorDiv=>
  refine x4_3 (arI_ok O R h r1 r2) λx y t t' he4=>?_;subst he4;intro he5;subst he5;intro h
  refine ifB h fT ?_;clear h;intro hs h;refine band2 hs ?_;clear hs;intro h1 h2
  have h1':=of_decide_eq_true h1
  exact PyProof.Rows.floordiv_int (by(with_reducible exact Internal.ar25 (by assumption))) (vg_val O R (.int _ _) h _) (.inl (PyProof.noPylong_small (by simpa using h2)))
 |Mod=>
  refine x4_3 (arI_ok O R h r1 r2) λx y t t' he4=>?_;subst he4;intro he5;subst he5;intro h
  refine ifB h fT ?_;clear h;intro hs h
  have h1':=of_decide_eq_true hs
  exact PyProof.Rows.mod_int' (by(with_reducible exact Internal.ar25 (by assumption))) (vg_val O R (.int _ _) h _)
 |Pow=>
  refine x4_3 (arI_ok O R h r1 r2) λx y t t' he4=>?_;subst he4;intro he5;subst he5;intro h
  refine ifB h fT ?_;clear h;intro hs h;refine band2 hs ?_;clear hs;intro h1 h2;refine band2 h2 ?_;clear h2;intro h3 h4
  exact PyProof.Rows.pow_int_small (of_decide_eq_true h3) (of_decide_eq_true h4) (by unfold smallF at h1;simpa using h1) (vg_val O R (.int _ _) h _)
 |_=>exact absF h
end
end
section
section
variable{prog:Program}{w:World}{A:Around}{E:Value→Shared→Prop}{s:Shared}
theorem getItem_tuple_all{t sl:Addr}{items:Array Value}{u:Tok}{Q:Value→Shared→Prop}(ht:IsTup s.heap t items)(hs:s.heap.IsSliceOf sl (.int 0 u) .none .none)
  (h:Q (.ref t) s):wpAny (model prog w) A (getItem (.ref t) (.ref sl)) Q E s:=by
 refine x1_3 (id hs) λos hos hcs hds=>?_
 have hTs:s.TypeIs (.ref sl) "slice":=⟨os,hos,hcs⟩
 unfold getItem
 try with_reducible refine wpAny_holding ?_
 first|refine wpAny_bind (wpAny_pure ?_)|skip
 refine wpAny_bind (wpAny_sequenceKey ht.typeIs rfl ?_)
 refine wpAny_bind (wpAny_callSpecial?_slot (name:=Str.ofString "__getitem__") ht.typeIs slot_tuple_getitem
  (wpAny_call_entry slot_tuple_getitem ht.typeIs entry_tuple_getitem ?_ (args_tuple_getitem _ _)))
 show wpAny _ _ (Builtin.Tuple.tupleItemsOf (.ref t) >>= _) _ _ s
 refine wpAny_bind (tupleItemsOf_ ht ?_)
 refine wpAny_bind (wpAny_typeOf hTs ?_)
 refine rwG (if_pos (by decide)) ?_
 refine wpAny_bind (sliceApplied_from (a:=0) hs (Nat.zero_le _) ?_)
 show wpAny _ _ (if(((0:Nat):Int)==0&&(1:Int)==1&&(items.size-0)==items.size)=true then _ else _) _ _ s
 refine rwG (if_pos (by simp)) ?_
 have hT:=ht.typeIs
 refine wpAny_bind (wpAny_bind (wpAny_typeOf hT (wpAny_pure ?_)))
 refine rwG (if_pos (by rfl)) ?_
 first
  |exact wpAny_bind (wpAny_rule (wpAny_pure ⟨_,rfl,wpAny_pure h⟩))
  |exact wpAny_pure ⟨_,rfl,wpAny_pure h⟩
  |skip
end
section
variable{X:Fix}(O:FixOK X){g:GW}{A:Around}{s:Shared}{σ:Sto}(R:HR X g σ s.heap){E:Value→Shared→Prop}
include O R
set_option tactic.hygienic true in
theorem idx_facts{α:Type}{xs:List α}{i:Int}{j:Nat}(hl:okL xs=true)(h:idxP i xs.length=some j) : -(2 ^ 63)≤i∧i<2 ^ 63∧((0≤i∧j=i.toNat)∨(i<0∧-(xs.length:Int)≤i∧j=(i+xs.length).toNat)):=by
 have hl':=okL_le hl
 dsimp only[idxP]at h
 by_cases h0:i<0
 ·simp only[h0,if_true]at h
  refine iteS h ?_ ?_ <;> clear h <;> intro _ h
  ·rename_i h1
   refine someI h ?_;clear h;intro hx;subst hx
   simp only[Bool.and_eq_true,decide_eq_true_eq]at h1
   exact⟨by(with_reducible exact Internal.ar31 (by assumption) (by assumption) (by assumption)),by(with_reducible exact Internal.ar32 (by assumption) (by assumption) (by assumption)),.inr ⟨h0,by(with_reducible exact Internal.ar33 (by assumption)),rfl⟩⟩
  ·exact absN h
 ·simp only[h0,if_false]at h
  refine iteS h ?_ ?_ <;> clear h <;> intro _ h
  ·rename_i h1
   refine someI h ?_;clear h;intro hx;subst hx
   simp only[Bool.and_eq_true,decide_eq_true_eq]at h1
   exact⟨by(with_reducible exact Internal.ar34 (by assumption)),by(with_reducible exact Internal.ar35 (by assumption) (by assumption)),.inl ⟨by(with_reducible exact Internal.ar36 (by assumption)),rfl⟩⟩
  ·exact absN h
noncomputable def Subbed(s:Shared)(v:Value):Prop:=∃T id,s.TypeIs v T∧typeLookup (.type T) "__getitem__"=pure (some (.builtin id))
theorem pick_ok{xs:List PV}{i p:PV}{u:Value}(h:pickP xs i=some p)(r2:RepV X g u i):∃n t j,u=.int n t∧okL xs=true∧idxP n xs.length=some j∧xs[j]?=some p:=by
 unfold pickP at h
 revert r2
 refine pintE h nS λn h r2=>ifB h nS λhl h=>ifE' h nS λj hj h=>?_
 refine x1_1 r2.iI λzz he1=>?_;refine rwG he1 ?_;clear he1
 exact⟨_,_,_,rfl,hl,hj,(gtS h)⟩
theorem key_ok{l:List Env}{S:Addr→Prop}{o i p:PV}{v u:Value}{k:KV}(h:keyP X.T σ o i=some p)(hk:k p σ=true)(r1:RepV X g v o)(r2:RepV X g u i) :
  Subbed s v∧wpAny (model X.prog X.w) A (getItem v u) (VG X S l g s (RV X k)) E s:=by
 unfold keyP at h
 revert r2
 refine pstrE h nS λr0 h r2=>ifE' h nS λz e h=>?_
 subst h
 refine x4_5 (dictGet_ok O R e r1 r2 ⟨_,rfl⟩) λa kvs x t he4=>?_;refine rwG he4 ?_;clear he4;intro he5;refine rwG he5 ?_;clear he5;intro hs hd hq8;refine x1_2 hq8 λv' hv rv=>?_
 exact⟨⟨"dict",_,hd.mapOf.typeIs,slot_dict_getitem.lookup⟩,wpAny_getItem_of (strKind_is _ _ x t) hd.mapOf hv (vg_val O R rv hk _)⟩
theorem item_ok{l:List Env}{S:Addr→Prop}{o i p:PV}{v u:Value}{k:KV}(h:itemP X.T o i σ=some p)(hk:k p σ=true)(r1:RepV X g v o)(r2:RepV X g u i) :
  Subbed s v∧wpAny (model X.prog X.w) A (getItem v u) (VG X S l g s (RV X k)) E s:=by
 cases o with
 |tup xs=>
  refine x3_4 (pick_ok O R h r2) λn tk j he3=>?_;subst he3;intro hl hj h
  refine x2_3 (RepV.isTuple R r1) λa vs he2=>?_;subst he2;intro ht q
  refine x1_2 (q.get h) λx hx rx=>?_
  refine x0_3 (idx_facts O R hl hj) λi1 i2 zz=>?_
  have l1:=q.length
  rw[vH]at l1
  exact⟨⟨"tuple",_,ht.typeIs,slot_tuple_getitem.lookup⟩,getItem_tuple ht i1 i2 (by refine rwG l1 ?_;exact hj) (by refine rwS (Array.getElem?_toList) ?_;exact hx) (vg_val O R rx hk _)⟩
 |lst c=>
  refine ifE' h nS ?_;clear h;intro xs e1 h
  refine x3_4 (pick_ok O R h r2) λn tk j he3=>?_;refine rwG he3 ?_;clear he3;intro hl hj h
  refine x2_5 (RepV.isList R r1 (gtS e1)) λa vs he2=>?_;refine rwG he2 ?_;clear he2;intro zz ht q zz
  refine x1_2 (q.get h) λx hx rx=>?_
  refine x0_3 (idx_facts O R hl hj) λi1 i2 i3=>?_
  have l1:=q.length
  rw[vH]at l1
  refine⟨⟨"list",_,ht.typeIs,slot_list_getitem.lookup⟩,?_⟩
  rcases i3 with⟨i3,rfl⟩|⟨i3,i4,rfl⟩
  ·exact wpAny_getItem_list ht i3 i2 (by refine rwS (Array.getElem?_toList) ?_;exact hx) (vg_val O R rx hk _)
  ·exact wpAny_getItem_list_neg ht i3 (by refine rwG l1 ?_;exact i4) i1 (by refine rwS (Array.getElem?_toList) (rwG l1 ?_);exact hx) (vg_val O R rx hk _)
 |old a=>exact key_ok O R h hk r1 r2
 |dct ks vs=>exact key_ok O R h hk r1 r2
 |_=>exact absN h
theorem part_ok{p:PV}{v:Value}{l:Option Int}(h:partP p=some l)(r:RepV X g v p):∃q,v=partValue q∧q.map (·.1)=l:=by
 cases p with
 |none=>refine rwG r.iN ?_;refine someI h ?_;clear h;intro hx;subst hx;exact⟨none,rfl,rfl⟩
 |int i=>refine x1_1 r.iI λt he1=>?_;refine rwG he1 ?_;clear he1;refine someI h ?_;clear h;intro hx;subst hx;exact⟨some (_,t),rfl,rfl⟩
 |_=>exact absN h
omit O R in
theorem pick_from(items:Array Value){x:Int}(h:0≤x):slicePick items (some x) none none=(items.toList.drop x.toNat).toArray:=by
 have e:sliceBounds (some x) none none items.size=(((min x.toNat items.size:Nat):Int),((items.size:Nat):Int),1):=by
  unfold sliceBounds
  simp only[Option.getD_none,if_pos (show(1:Int)>0 by decide),if_neg (Int.not_lt.mpr h)]
  congr 1
  lia
 refine rwG (PySem.W.kmk_pick_nat items e) ?_
 congr 1
 by_cases q:x.toNat≤items.size
 ·rw[Nat.min_eq_left q,List.take_of_length_le (by refine rwG List.length_drop (rwG vH ?_);exact vD _)]
 ·have q':=Nat.le_of_lt (Nat.lt_of_not_le q)
  exact rwG (Nat.min_eq_right q') (rwG (List.drop_of_length_le (by rw[vH];exact vD _)) (rwG (List.drop_of_length_le (by rw[vH];exact q')) (rwG List.take_nil rfl)))
theorem sliceR_ok{l:List Env}{S:Addr→Prop}{o lo hi st:PV}{v a b c:Value}{k:KV}(h:sliceR o lo hi st σ k=true)(r:RepV X g v o)(ra:RepV X g a lo)(rb:RepV X g b hi)(rc:RepV X g c st) :
  Subbed { s with heap:=s.heap.push { cls:=.type "slice",data:=.fields #[a,b,c] } } v ∧
  wpAny (model X.prog X.w) A (getItem v (.ref s.heap.objs.size)) (VG X S l g s (RV X k)) E { s with heap:=s.heap.push { cls:=.type "slice",data:=.fields #[a,b,c] } }:=by
 refine x0_6 (vg_new O R (l:=l) (S:=S) (o:={ cls:=.type "slice",data:=.fields #[a,b,c] }) rfl) λt0 R' ho n1 n2 n3=>?_
 revert r
 refine plstE h fT λi h r=>?_
 revert ra
 refine nilPE h fT λh ra=>?_
 revert rb
 refine nilPE h fT λh rb=>?_
 revert rc
 refine pintE h fT λz h rc=>ifB h fT λhz h=>ifE' h fT λxs e h=>ifB h fT λhl hk=>?_
 obtain rfl:=ra.iN
 obtain rfl:=rb.iN
 refine x1_1 rc.iI λtz he1=>?_;subst he1
 obtain rfl:z = -1:=eq_of_beq hz
 refine x2_5 (RepV.isList R' r (gtS e)) λl vs he2=>?_;refine rwG he2 ?_;clear he2;intro zz ht q zz
 refine⟨⟨"list",_,ht.typeIs,slot_list_getitem.lookup⟩,?_⟩
 have l1:=q.length
 rw[vH]at l1
 refine wpAny_getItem_list_slice (s:={ s with heap:=s.heap.push { cls:=.type "slice",data:=.fields #[.none,.none,.int (-1) tz] } }) ht (Heap.IsSliceOf.new ..) .none .none (.int _ _) (by decide) ?_ (by refine rwG l1 (rwG sizeLine_eq ?_);have:=okL_le hl;rw[List.length_reverse]at this;(with_reducible exact Internal.ar16 (by assumption)))
 rw[PySem.W.krv_pick]
 exact VG.base t0 (new_list O (s:={ s with heap:=s.heap.push { cls:=.type "slice",data:=.fields #[.none,.none,.int (-1) tz] } }) R' (vs:=vs.toList.reverse.toArray) (ps:=xs.reverse) (q.reverse) hk _)
theorem slice_ok{l:List Env}{S:Addr→Prop}{o lo hi st:PV}{v a b c:Value}{k:KV}(h:sliceP o lo hi st σ k=true)(r:RepV X g v o)(ra:RepV X g a lo)(rb:RepV X g b hi)(rc:RepV X g c st) :
  Subbed { s with heap:=s.heap.push { cls:=.type "slice",data:=.fields #[a,b,c] } } v ∧
  wpAny (model X.prog X.w) A (getItem v (.ref s.heap.objs.size)) (VG X S l g s (RV X k)) E { s with heap:=s.heap.push { cls:=.type "slice",data:=.fields #[a,b,c] } }:=by
 refine x0_6 (vg_new O R (l:=l) (S:=S) (o:={ cls:=.type "slice",data:=.fields #[a,b,c] }) rfl) λt0 R' ho n1 n2 n3=>?_
 unfold sliceP at h
 refine iteS h (λhc h'=>sliceR_ok O R h' r ra rb rc) λhc h'=>?_
 clear h;have h:=h';clear h'
 revert rc
 refine nilPE h fT ?_;clear h;intro h rc
 obtain rfl:=rc.iN
 cases o with
 |lst i=>
  revert ra
  refine pintE h fT ?_;clear h;intro x h ra
  revert rb
  refine nilPE h fT ?_;clear h;intro h rb;refine ifE' h fT ?_;clear h;intro xs e h;refine ifB h fT ?_;clear h;intro hc h;refine band2 hc ?_;clear hc;intro hl h0
  have h0:=of_decide_eq_true h0
  refine x1_1 ra.iI λtx he1=>?_;subst he1;obtain rfl:=rb.iN
  refine x2_5 (RepV.isList R' r (gtS e)) λl vs he2=>?_;refine rwG he2 ?_;clear he2;intro zz ht q zz
  refine⟨⟨"list",_,ht.typeIs,slot_list_getitem.lookup⟩,?_⟩
  have l1:=q.length
  rw[vH]at l1
  refine wpAny_getItem_list_slice (s:={ s with heap:=s.heap.push { cls:=.type "slice",data:=.fields #[.int x tx,.none,.none] } }) ht (Heap.IsSliceOf.new ..) (.int _ _) .none .none (by decide) ?_ (by refine rwG l1 (rwG sizeLine_eq ?_);have:=okL_le hl;(with_reducible exact Internal.ar16 (by assumption)))
  refine rwG (pick_from vs h0) ?_
  exact VG.base t0 (new_list O (s:={ s with heap:=s.heap.push { cls:=.type "slice",data:=.fields #[.int x tx,.none,.none] } }) R' (vs:=(vs.toList.drop x.toNat).toArray) (ps:=xs.drop x.toNat) (q.drop _) h _)
 |tup xs=>
  revert ra
  refine pintE h fT ?_;clear h;intro i h ra
  revert rb
  refine nilPE h fT ?_;clear h;intro h rb;refine ifB h fT ?_;clear h;intro hc h;refine band3 hc ?_;clear hc;intro hl hi0 hle
  have hi0':0≤i:=of_decide_eq_true hi0
  have hle':=vA hle
  refine x1_1 ra.iI λzz he1=>?_;subst he1;obtain rfl:=rb.iN
  refine x2_3 (RepV.isTuple R' r) λt vs he2=>?_;subst he2;intro ht q
  have l1:=q.length
  rw[vH]at l1
  refine⟨⟨"tuple",_,ht.typeIs,slot_tuple_getitem.lookup⟩,?_⟩
  by_cases hz:i.toNat=0
  ·have:i=0:=by(with_reducible exact Internal.ar37 (by assumption) (by assumption))
   subst this
   refine getItem_tuple_all (s:={ s with heap:=s.heap.push { cls:=.type "slice",data:=.fields #[.int 0 _,.none,.none] } }) ht (Heap.IsSliceOf.new ..) ?_
   exact VG.base t0 (vg_val O R' (p:=.tup xs) r (h) _)
  ·obtain⟨n,rfl⟩:∃n:Nat,i=n:=⟨i.toNat,by(with_reducible exact Internal.ar38 (by assumption))⟩
   have hn:((n:Int)).toNat=n:=by(with_reducible exact Internal.ar39)
   rw[hn]at h hle' hz
   refine getItem_tuple_from (s:={ s with heap:=s.heap.push { cls:=.type "slice",data:=.fields #[.int n _,.none,.none] } }) ht (Heap.IsSliceOf.new ..) (by(with_reducible exact Internal.ar40 (by assumption))) (by refine rwG l1 ?_;exact hle') ?_ (by refine rwG l1 (rwG sizeLine_eq ?_);have:=okL_le hl;(with_reducible exact Internal.ar16 (by assumption)))
   exact VG.base t0 (new_tuple O (s:={ s with heap:=s.heap.push { cls:=.type "slice",data:=.fields #[.int n _,.none,.none] } }) R' (vs:=(vs.toList.drop n).toArray) (ps:=xs.drop n) (q.drop n) h _)
 |str x=>
  refine ifE' h fT ?_;clear h;intro la ea h;refine ifE' h fT ?_;clear h;intro lb eb h;refine ifE' h fT ?_;clear h;intro z ez h
  refine x1_2 (part_ok O R ea ra) λqa he1=>?_;subst he1;intro ha
  refine x1_2 (part_ok O R eb rb) λqb he1=>?_;subst he1;intro hb
  refine x1_1 r.iS λt he1=>?_;refine rwG he1 ?_;clear he1
  refine⟨⟨"str",_,typeIs_str _ _ _,F.slot_str_getitem.lookup⟩,?_⟩
  refine wpAny_getItem_str_slice (l:=qa) (u:=qb) (st:=none) ⟨_,Heap.get?_push_size _ rfl,rfl,rfl⟩ rfl ?_
  have hy:=slcS_ok O ez
  generalize den X.θ x=y at hy
  have hp:slicePicked (mkS y) qa qb none=Builtin.Str.strSliceIndices la lb 1 y.length:=by
   unfold slicePicked
   rw[ha,hb,mkS_len];rfl
  refine ifB h fT ?_;clear h;intro hsz h
  unfold strCut at hy
  unfold sliceMade
  rw[hp,mkS_len]
  dsimp only at hy
  by_cases hq:(Builtin.Str.strSliceIndices la lb 1 y.length).length==y.length
  ·rw[if_pos hq]at hy
   rw[if_pos (by refine rwG hq ?_;rfl)]
   exact VG.base t0 (vg_str O R' (r:=z) (by exact rwG hy rfl) h _ _)
  ·rw[if_neg hq]at hy
   refine rwG (if_neg (by simpa using hq)) ?_
   have hst:(⟨((Builtin.Str.strSliceIndices la lb 1 y.length).filterMap ((mkS y).cps[·]?)).toArray⟩:Str)=mkS (den X.θ z):=by
    refine rwS hy ?_
    congr 2
    congr 1
    funext j
    show y.toArray[j]?=y[j]?
    simp
   refine rwG hst ?_
   exact⟨den_fits O hsz,VG.base t0 (vg_str O R' rfl h _ _)⟩
 |_=>exact absF h
end
end
section
structure Amb(X:Fix)(d:Nat)(A:Around)(fe:Env)(outer:List Env)(F:Addr)(c:Env):Prop where
 fr:A.frames=some (fe::outer)
 hd:A.handled=none
 fe:fe.frame=some F
 fc:c.frame=some F
 units:A.units+16*d+100≤cLine
 depth:A.depth+d≤900
structure Wh(X:Fix)(ρ:Fr)(c:Env)(l:List Env)(g:GW)(σ:Sto)(s:Shared):Prop where
 R:HR X g σ s.heap
 fs:FramesOK X g s.heap l
 fr:FrR X g ρ c s.heap
theorem Wh.step{X:Fix}{ρ:Fr}{c:Env}{l:List Env}{g g₁:GW}{σ σ₁:Sto}{s s₁:Shared}(w:Wh X ρ c l g σ s)(t:To X noS l g s g₁ s₁)(R:HR X g₁ σ₁ s₁.heap):Wh X ρ c l g₁ σ₁ s₁:=
 ⟨R,w.fs.step t.st λzz zz zz zz h=>h,w.fr.step t.st (λh=>h) λzz zz zz zz zz h=>h⟩
structure LvOK(X:Fix)(d:Nat)(L:Lvl):Prop where
 ev:∀{A fe outer F c ρ g σ s} (_:Amb X d A fe outer F c) (_:Wh X ρ c (fe::outer) g σ s) (e:Expr) (k:KV) (kx:KX),L.ev e ρ σ k kx=true →
  wpAny (model X.prog X.w) A (eval e c) (VG X noS (fe::outer) g s (RV X k)) (PX X noS (fe::outer) F g s kx) s
 tr:∀{A fe outer F c ρ g σ s} (_:Amb X d A fe outer F c) (_:Wh X ρ c (fe::outer) g σ s) (e:Expr) (k:Bool→Sto→Bool) (kx:KX),L.tr e ρ σ k kx=true →
  wpAny (model X.prog X.w) A (isTrue e c (eval e c)) (VG X noS (fe::outer) g s (RB k)) (PX X noS (fe::outer) F g s kx) s
section
variable{α β:Type}{X:Fix}{S:Addr→Prop}{l:List Env}{F:Addr}{g g₁:GW}{s s₁:Shared}{kx:KX}{M:Model}{A:Around}{E:Value→Shared→Prop}
theorem vgo{t:Sem α}{R:α→GW→Sto→Heap→Prop}{Q:α→Shared→Prop}(h:wpAny M A t (VG X S l g s R) E s)
  (hQ:∀a g₁ σ₁ s₁,To X S l g s g₁ s₁→HR X g₁ σ₁ s₁.heap→R a g₁ σ₁ s₁.heap→Q a s₁):wpAny M A t Q E s:=
 wpAny_mono h (λa s₁ hz1=>by refine VG.el hz1 λg₁ σ₁ t H r=>?_;clear hz1;exact hQ a g₁ σ₁ s₁ t H r) λzz zz e=>e
theorem vgoV{t:Sem Value}{k:KV}{Q:Value→Shared→Prop}(h:wpAny M A t (VG X S l g s (RV X k)) E s)
  (hQ:∀a g₁ σ₁ s₁,To X S l g s g₁ s₁→HR X g₁ σ₁ s₁.heap→∀p,RepV X g₁ a p→k p σ₁=true→Q a s₁):wpAny M A t Q E s:=
 vgo h λa g σ s t R q=>RV.el q λp q1 q2=>hQ a g σ s t R p q1 q2
theorem vgoL{t:Sem (List Value)}{k:List PV→Sto→Bool}{Q:List Value→Shared→Prop}(h:wpAny M A t (VG X S l g s (RL X k)) E s)
  (hQ:∀a g₁ σ₁ s₁,To X S l g s g₁ s₁→HR X g₁ σ₁ s₁.heap→∀p,RepL X g₁ a p→k p σ₁=true→Q a s₁):wpAny M A t Q E s:=
 vgo h λa g σ s t R q=>RL.el q λp q1 q2=>hQ a g σ s t R p q1 q2
theorem vre{t:Sem α}{R:α→GW→Sto→Heap→Prop}(b:To X S l g s g₁ s₁)(h:wpAny M A t (VG X S l g₁ s₁ R) (PX X S l F g₁ s₁ kx) s₁):wpAny M A t (VG X S l g s R) (PX X S l F g s kx) s₁:=
 wpAny_mono h (λzz zz q=>q.base b) λzz zz q=>q.base b
theorem vreQ{t:Sem α}{Q:α→Shared→Prop}(b:To X S l g s g₁ s₁)(h:wpAny M A t Q (PX X S l F g₁ s₁ kx) s₁):wpAny M A t Q (PX X S l F g s kx) s₁:=
 wpAny_mono h (λzz zz q=>q) λzz zz q=>q.base b
end
theorem Amb.units_lt{X d A fe outer F c}(a:Amb X d A fe outer F c):A.units+64<cLine:=by have:=a.units;(with_reducible exact Internal.ar19 (by assumption))
section
variable{X:Fix}(O:FixOK X){d:Nat}{L:Lvl}(H:LvOK X d L){A:Around}{fe:Env}{outer:List Env}{F:Addr}{c:Env}{ρ:Fr}{g:GW}{σ:Sto}{s:Shared}{kx:KX}
include O H
omit O H in
theorem starEach_cons{e:Expr}{r:List Expr}{c:Env}(h:noStar e=true):starEach (e::r) c=(false,eval e c)::starEach r c:=by
 cases e <;> first|rfl|(exact absF h;done)
omit O in
set_option tactic.hygienic true in
theorem evs_ok(am:Amb X d A fe outer F c)(pos:Pos):∀(es:List Expr) {g σ s} (_:Wh X ρ c (fe::outer) g σ s) (k:List PV→Sto→Bool),evs L es ρ σ k kx=true →
   wpAny (model X.prog X.w) A (spliced (backTo pos (starEach es c))) (VG X noS (fe::outer) g s (RL X k)) (PX X noS (fe::outer) F g s kx) s
 | [],g,σ,s,w,k,h=>spliced_nil ⟨g,σ,To.refl,w.R,[],.nil,h⟩
 |e::r,g,σ,s,w,k,h=>by
  refine iteS h ?_ ?_ <;> clear h <;> intro _ h
  ·rename_i hs
   have e1:backTo pos (starEach (e::r) c)=(false,eval e c)::backTo pos (starEach r c):=by
    refine rwG (starEach_cons hs) ?_;rfl
   refine rwG e1 ?_
   refine spliced_cons (vgoV (H.ev am w e _ kx h) λv g₁ σ₁ s₁ t R₁ p rp hk=>?_)
   refine wpAny_mono (evs_ok am pos r (w.step t R₁) _ hk) (λvs s₂ hz2=>?_) λzz zz q=>q.base t
   refine VG.el hz2 λg₂ σ₂ t₂ R₂ hq4=>?_;refine RL.el hq4 λps rps hk₂=>?_;clear hz2
   exact⟨g₂,σ₂,t.trans t₂,R₂,p::ps,.cons (repV_mono t₂.st.gext rp) rps,hk₂⟩
  ·exact absF h
omit H in
theorem const_ok{cst:Const}{x:Nat}{pos:Pos}{p:PV}{k:KV}(w:Wh X ρ c (fe::outer) g σ s)(h:constP cst=some p)(hk:k p σ=true){E:Value→Shared→Prop} :
  wpAny (model X.prog X.w) A (eval (.Constant cst x pos) c) (VG X noS (fe::outer) g s (RV X k)) E s:=by
 cases cst with
 |none=>refine someI h ?_;clear h;intro hx;subst hx;exact Constant_none (vg_val O w.R .none hk s.toks)
 |bool b=>refine someI h ?_;clear h;intro hx;subst hx;exact Constant_bool (vg_val O w.R (.bool _) hk s.toks)
 |int i=>
  refine someI h ?_;clear h;intro hx;subst hx
  exact wpAny_mkInt (vg_val O w.R (.int _ _) hk _)
 |str x=>
  refine ifB h nS ?_;clear h;intro hl h
  refine someI h ?_;clear h;intro hx;subst hx
  exact Constant_str (vg_str O w.R (by rw[den_lit hl,mkS_toList]) hk _ _)
 |bytes b=>
  refine oneE (P:=λb=>wpAny (model X.prog X.w) A (eval (.Constant (.bytes b) x pos) c) (VG X noS (fe::outer) g s (RV X k)) E s) h nS λc0 h=>ifB h nS λhc h=>?_
  obtain rfl:=vC h
  exact PySem.W.Constant_bytes (vg_val O w.R (.hole (Γ₀:=λzz=>none) _ ((O.byt c0.toNat _ _ (vA hc)).mpr ⟨_,by exact rwG (show c0.toNat.toUInt8=c0 from UInt8.ofNat_toNat ..) rfl⟩) λzz zz e=>absN e) hk _)
 |_=>exact absN h
omit H in
theorem glob_ns(R:HR X g σ s.heap):∃es ep,(∃o,X.T.K.lookup mainGlobals=some o∧o.data=.dict es ep)∧s.heap.Ns mainGlobals (nsFind es)∧StrKeys es:=by
 refine x3_3 O.glob λo es ep h1 h2 h3=>?_
 exact⟨es,ep,⟨o,h1,h2⟩,⟨o,es,ep,R.frz _ _ (R.base _ _ (O.inK _ _ h1)),h2,h3,λzz=>rfl⟩,h3⟩
omit O H in
theorem nsKeys{x:Str}:∀{es:List DictEntry},(∀e∈es,∃n t,e.key=.str n t) →
  es.find? (λe=>match e.key with|.str s _=>eqS s x|_=>false)=es.find? λe=>e.key.isStr x
 | [],_=>rfl
 |e::r,h=>by
  refine x2_1 (h e (.head _)) λn t hk=>?_
  refine rwG (List.find?_cons) (rwG (List.find?_cons) (rwG (nsKeys λe' h'=>h e' (.tail _ h')) (rwG hk ?_)))
  have:eqS n x=(Value.str n t).isStr x:=by
   refine rwG eqS_iff ?_
   rfl
  dsimp only
  exact rwG this rfl
omit H in
theorem nsK_find{es:Array DictEntry}{ep:Nat}{x:Str}(h:∃o,X.T.K.lookup mainGlobals=some o∧o.data=.dict es ep)(hs:StrKeys es):nsK X.T.K x=nsFind es x:=by
 refine x1_2 h λho1 h1 h2=>?_;clear h;obtain⟨c,d,dt,sl⟩:=ho1
 simp only at h2
 subst h2
 unfold nsK nsFind findBy
 refine rwG (kl_eq.trans h1) ?_
 refine(congrArg (Option.map (·.val)) (nsKeys λe he=>hs e (Array.mem_toList_iff.mp he))).trans ?_
 exact rwS (Array.find?_toList) rfl
omit O H in
theorem nameOk_ok{x:Str}(h:nameOk x=true):(x==("__debug__":Str))=false∧(x==("__classdict__":Str))=false:=by
 unfold nameOk at h
 rw[eqS_iff,eqS_iff]at h
 refine band2 h λh1 h2=>?_;clear h
 exact⟨by simpa using h1,by simpa using h2⟩
omit O H in
theorem kind_of{x:Str}{k:NameKind}(fr:FrR X g ρ c s.heap)(e:lk x ρ.scope.names=some k)(hk:k≠.free):c.kindOf x=some k:=(fr.names _ _ e).resolve_right λh=>hk h.1
omit H in
theorem name_val{cx:Cx}(hT:cx.T=X.T){x:Str}{pos:Pos}{p:PV}(w:Wh X ρ c (fe::outer) g σ s)(h:nameP cx x ρ=some p) :
  ∃v,RepV X g v p∧∀(Q:Value→Shared→Prop) (E:Value→Shared→Prop),Q v s→wpAny (model X.prog X.w) A (eval (.Name x pos) c) Q E s:=by
 refine ifB h nS λhn h=>ifE' h nS λk e h=>?_
 refine x0_2 (nameOk_ok hn) λhd hcl=>?_
 cases k with
 | «local» =>
  refine x1_2 w.fr.loc λm hns hm=>?_
  refine x1_2 (hm x p e h) λv hv r=>?_
  exact⟨v,r,λQ E hQ=>wpAny_Name (wpAny_loadName_local w.fr.kind (kind_of w.fr e nofun) hns hv hQ) hd⟩
 |cell=>
  refine x2_4 (w.fr.cell x p (.inl ⟨e,h⟩)) λa v h1 h2 r zz=>?_
  exact⟨v,r,λQ E hQ=>wpAny_Name (wpAny_loadName_cell w.fr.kind (kind_of w.fr e nofun) h1 h2 hQ) hd⟩
 |free=>
  refine x2_4 (w.fr.cell x p (.inr ⟨e,h⟩)) λa v h1 h2 r zz=>?_
  rcases w.fr.names _ _ e with hkd|⟨zz,hkd⟩
  ·exact⟨v,r,λQ E hQ=>wpAny_Name (wpAny_loadName_free w.fr.kind hkd h1 h2 hQ hcl) hd⟩
  ·exact⟨v,r,λQ E hQ=>wpAny_Name (wpAny_loadName_cell w.fr.kind hkd h1 h2 hQ) hd⟩
 |globalImplicit=>
  refine ifE' h nS λv hv h=>?_
  rw[hT]at hv h
  refine x2_3 (glob_ns O w.R) λes ep h1 h2 h3=>?_
  rw[nsK_find O h1 h3]at hv
  exact⟨v,ofV_ok O w.R _ h,λQ E hQ=>Name_function_global w.fr.kind (kind_of w.fr e nofun) (loadGlobal_global (w.fr.glob▸h2) hv hQ) hd⟩
 |_=>exact absN h
omit H in
theorem name_ok{cx:Cx}(hT:cx.T=X.T){x:Str}{pos:Pos}{p:PV}{k:KV}(w:Wh X ρ c (fe::outer) g σ s)(h:nameP cx x ρ=some p)(hk:k p σ=true){E:Value→Shared→Prop} :
  wpAny (model X.prog X.w) A (eval (.Name x pos) c) (VG X noS (fe::outer) g s (RV X k)) E s:=by
 obtain⟨v,r,hv⟩:=name_val O hT w h
 exact hv _ _ (vg_val O w.R r hk _)
omit H in
theorem blt_ok{cx:Cx}(hT:cx.T=X.T){x:Str}{pos:Pos}{b:String}{v:Value}{Q:Value→Shared→Prop}(w:Wh X ρ c (fe::outer) g σ s)(h:isBlt cx x ρ b=true)(hb:bootBuiltins (Str.ofString b)=some v)
  (hn:(Str.ofString b==("__debug__":Str))=false∧Str.ofString b≠"__name__") (hQ:Q v s) {E:Value→Shared→Prop}:wpAny (model X.prog X.w) A (eval (.Name x pos) c) Q E s:=by
 unfold isBlt at h
 refine band2 h λh1 h2=>?_;clear h
 refine band2 h1 λh3 h4=>?_;clear h1
 have hx:x=Str.ofString b:=by rw[eqS_iff]at h3;simpa using h3
 subst hx
 refine x2_3 (glob_ns O w.R) λes ep e1 e2 e3=>?_
 rw[hT,nsK_find O e1 e3]at h2
 refine x1_2 O.blt λmb hmb hall=>?_
 refine x3_2 hmb λo es' ep' f1 f2=>?_;clear hmb
 exact Name_function_global w.fr.kind (kind_of w.fr (isGl_eq h4) nofun) (loadGlobal_builtin (w.fr.glob▸e2) (by simpa using h2) (w.fr.blt▸⟨o,es',ep',w.R.frz _ _ (w.R.base _ _ f1),f2⟩) ((hall _ hn.2).trans hb) hQ) hn.1
end
end
section
section
variable{X:Fix}(O:FixOK X){d:Nat}{L:Lvl}(H:LvOK X d L){A:Around}{fe:Env}{outer:List Env}{F:Addr}{c:Env}{ρ:Fr}{g:GW}{σ:Sto}{s:Shared}{kx:KX}
include O H
omit O H in
theorem truth_end(O:FixOK X){l:List Env}{g:GW}{s:Shared}{S:Addr→Prop}(R:HR X g σ s.heap){p:PV}{v:Value}{b:Bool}{k:Bool→Sto→Bool}(r:RepV X g v p)(h:truthP σ p=some b)(hk:k b σ=true){E:Value→Shared→Prop} :
  wpAny (model X.prog X.w) A (truthy v) (VG X S l g s (RB k)) E s:=truth_ok O R h r λzz=>⟨g,σ,To.refl.toks _,R,hk⟩
theorem boolOp_ok(am:Amb X d A fe outer F c){op:BoolOp}{pos:Pos}{k:KV}:∀(es:List Expr) {g σ s} (_:Wh X ρ c (fe::outer) g σ s),evBool L ρ kx op es σ k=true →
   wpAny (model X.prog X.w) A (eval (.BoolOp op es pos) c) (VG X noS (fe::outer) g s (RV X k)) (PX X noS (fe::outer) F g s kx) s
 | [],_,_,_,_,h=>by exact absF h
 | [e],g,σ,s,w,h=>BoolOp_one (H.ev am w e _ kx h)
 |e::e'::r,g,σ,s,w,h=>by
  cases op with
  |And=>
   refine BoolOp_and (vgoV (H.ev am w e _ kx h) λv g₁ σ₁ s₁ t R₁ p rp hk=>ifE' hk fT λb hb hk=>truth_ok O R₁ hb rp λtk=>?_)
   cases b with
   |false=>exact VG.base t (vg_val O R₁ rp hk tk)
   |true=>exact vre (t.toks tk) (boolOp_ok am (e'::r) (w.step (t.toks tk) R₁) hk)
  |Or=>
   refine BoolOp_or (vgoV (H.ev am w e _ kx h) λv g₁ σ₁ s₁ t R₁ p rp hk=>ifE' hk fT λb hb hk=>truth_ok O R₁ hb rp λtk=>?_)
   cases b with
   |true=>exact VG.base t (vg_val O R₁ rp hk tk)
   |false=>exact vre (t.toks tk) (boolOp_ok am (e'::r) (w.step (t.toks tk) R₁) hk)
omit O H in
theorem truthy_b{b:Bool}{Q:Bool→Shared→Prop}{s:Shared}(h:Q b s){E:Value→Shared→Prop}:wpAny (model X.prog X.w) A (truthy (.bool b)) Q E s:=wpAny_truthy_bool h
theorem chainV_ok{cx:Cx}(hT:cx.T=X.T)(am:Amb X d A fe outer F c){pos:Pos}{k:KV}{ops:List CmpOp}{rs:List Expr}{a:PV}{v:Value}(w:Wh X ρ c (fe::outer) g σ s)(rv:RepV X g v a)(h:evChain cx L ρ kx a ops rs σ (λb σ=>k (.bool b) σ)=true) :
   wpAny (model X.prog X.w) A (compareChain pos v ops (evalEach rs c)) (VG X noS (fe::outer) g s (RV X k)) (PX X noS (fe::outer) F g s kx) s:=by
 unfold evChain at h
 refine consE h fT λop os h=>consE h fT λr es h=>?_
 have last:∀{op:CmpOp} {r:Expr} {a:PV} {v:Value} {g₁:GW} {σ₁:Sto} {s₁:Shared},Wh X ρ c (fe::outer) g₁ σ₁ s₁→RepV X g₁ v a→L.ev r ρ σ₁ (λb σ=>ifS false (cmpP cx.T op a b σ) λc=>k (.bool c) σ) kx=true →
   wpAny (model X.prog X.w) A (compareChain pos v [op] [eval r c]) (VG X noS (fe::outer) g₁ s₁ (RV X k)) (PX X noS (fe::outer) F g₁ s₁ kx) s₁:=λ{op r a v g₁ σ₁ s₁} w rv h=>chain_last (vgoV (H.ev am w r _ kx h) λu g₁ σ₁ s₁ t R₁ p rp hk=>ifE' hk fT λb hb hk=>vre t (cmp_ok O R₁ am.units_lt (hT▸hb) (repV_mono t.st.gext rv) rp λtk=>vg_val O R₁ (.bool b) hk tk))
 cases os with
 |nil=>exact nilE (P:=λes=>wpAny (model X.prog X.w) A (compareChain pos v [op] (evalEach (r::es) c)) (VG X noS (fe::outer) g s (RV X k)) (PX X noS (fe::outer) F g s kx) s) h fT λh=>last w rv h
 |cons op2 o2=>
  refine nilE (P:=λo2=>wpAny (model X.prog X.w) A (compareChain pos v (op::op2::o2) (evalEach (r::es) c)) (VG X noS (fe::outer) g s (RV X k)) (PX X noS (fe::outer) F g s kx) s) h fT λh=>oneE (P:=λes=>wpAny (model X.prog X.w) A (compareChain pos v [op,op2] (evalEach (r::es) c)) (VG X noS (fe::outer) g s (RV X k)) (PX X noS (fe::outer) F g s kx) s) h fT λr2 h=>?_
  refine chain_link (vgoV (H.ev am w r _ kx h) λu g₁ σ₁ s₁ t R₁ p rp hk=>ifE' hk fT λb hb hk=>cmp_ok O R₁ am.units_lt (hT▸hb) (repV_mono t.st.gext rv) rp λtk=>truthy_b ?_)
  cases b with
  |true=>exact vre (t.toks tk) (last (w.step (t.toks tk) R₁) rp hk)
  |false=>exact VG.base t (vg_val O R₁ (.bool false) hk tk)
theorem chainT_ok{cx:Cx}(hT:cx.T=X.T)(am:Amb X d A fe outer F c){pos:Pos}{k:Bool→Sto→Bool}{ops:List CmpOp}{rs:List Expr}{a:PV}{v:Value}(w:Wh X ρ c (fe::outer) g σ s)(rv:RepV X g v a)(h:evChain1 cx L ρ kx a ops rs σ k=true) :
   wpAny (model X.prog X.w) A (testChain pos v ops (evalEach rs c)) (VG X noS (fe::outer) g s (RB k)) (PX X noS (fe::outer) F g s kx) s:=by
 unfold evChain1 at h
 refine oneE h fT λop h=>oneE h fT λr h=>?_
 refine test_last (vgoV (H.ev am w r _ kx h) λu g₁ σ₁ s₁ t R₁ p rp hk=>?_)
 refine ifE' hk fT λb hb hk=>?_
 rw[hT]at hb
 exact cmp_ok O R₁ am.units_lt hb (repV_mono t.st.gext rv) rp λtk=>truthy_b (VG.base t ⟨g₁,σ₁,To.refl.toks tk,R₁,hk⟩)
omit O H in
theorem marks_of{a b:Bool}(h:¬(a||b)=true):a=false:=by
 cases a with
 |false=>rfl
 |true=>exact absurd rfl h
theorem compare_ok{cx:Cx}(hT:cx.T=X.T)(am:Amb X d A fe outer F c)(w:Wh X ρ c (fe::outer) g σ s){e:Expr}{ops:List CmpOp}{rs:List Expr}{pos:Pos}{k:KV}(hm:lastMarks ops rs=false)
  (h:L.ev e ρ σ (λa σ=>evChain cx L ρ kx a ops rs σ λb σ=>k (.bool b) σ) kx=true) :
  wpAny (model X.prog X.w) A (eval (.Compare e ops rs pos) c) (VG X noS (fe::outer) g s (RV X k)) (PX X noS (fe::outer) F g s kx) s:=by
 rw[arm_eval_Compare,markedEach_of_false _ _ _ hm]
 refine wpAny_bind (vgoV (H.ev am w e _ kx h) λv g₁ σ₁ s₁ t R₁ p rp hk=>?_)
 exact vre t (chainV_ok O H hT am (w.step t R₁) rp hk)
theorem compareT_ok{cx:Cx}(hT:cx.T=X.T)(am:Amb X d A fe outer F c)(w:Wh X ρ c (fe::outer) g σ s){e:Expr}{ops:List CmpOp}{rs:List Expr}{pos:Pos}{whole:Sem Value}{k:Bool→Sto→Bool}(hm:lastMarks ops rs=false)
  (h:L.ev e ρ σ (λa σ=>evChain1 cx L ρ kx a ops rs σ k) kx=true) :
  wpAny (model X.prog X.w) A (isTrue (.Compare e ops rs pos) c whole) (VG X noS (fe::outer) g s (RB k)) (PX X noS (fe::outer) F g s kx) s:=by
 rw[arm_isTrue_Compare,markedEach_of_false _ _ _ hm]
 refine wpAny_bind (vgoV (H.ev am w e _ kx h) λv g₁ σ₁ s₁ t R₁ p rp hk=>?_)
 exact vre t (chainT_ok O H hT am (w.step t R₁) rp hk)
theorem binop_ok(am:Amb X d A fe outer F c)(w:Wh X ρ c (fe::outer) g σ s){a b:Expr}{op:Operator}{pos:Pos}{k:KV}(h:L.ev a ρ σ (λx σ=>L.ev b ρ σ (λy σ=>binP op x y σ k) kx) kx=true) :
  wpAny (model X.prog X.w) A (eval (.BinOp a op b pos) c) (VG X noS (fe::outer) g s (RV X k)) (PX X noS (fe::outer) F g s kx) s:=by
 refine wpAny_BinOp (vgoV (H.ev am w a _ kx h) λv g₁ σ₁ s₁ t R₁ p rp hk=>?_)
 refine vreQ t (vgoV (H.ev am (w.step t R₁) b _ kx hk) λu g₂ σ₂ s₂ t₂ R₂ q rq hk₂=>?_)
 exact vre (t.trans t₂) (bin_ok O R₂ hk₂ (repV_mono t₂.st.gext rp) rq)
theorem ifexp_ok(am:Amb X d A fe outer F c)(w:Wh X ρ c (fe::outer) g σ s){e a b:Expr}{pos:Pos}{k:KV}(h:L.tr e ρ σ (λt σ=>if t then L.ev a ρ σ k kx else L.ev b ρ σ k kx) kx=true) :
  wpAny (model X.prog X.w) A (eval (.IfExp e a b pos) c) (VG X noS (fe::outer) g s (RV X k)) (PX X noS (fe::outer) F g s kx) s:=by
 refine IfExp_ (vgo (H.tr am w e _ kx h) λt g₁ σ₁ s₁ to R₁ hk=>?_)
 have hk':(if t=true then L.ev a ρ σ₁ k kx else L.ev b ρ σ₁ k kx)=true:=hk
 cases t with
 |true=>exact vre to (H.ev am (w.step to R₁) a _ kx hk')
 |false=>exact vre to (H.ev am (w.step to R₁) b _ kx hk')
theorem tuple_ok(am:Amb X d A fe outer F c)(w:Wh X ρ c (fe::outer) g σ s){es:List Expr}{x1}{pos:Pos}{k:KV}(h:evs L es ρ σ (λps σ=>mkL ps λps=>k (.tup ps) σ) kx=true) :
  wpAny (model X.prog X.w) A (eval (.Tuple es x1 pos) c) (VG X noS (fe::outer) g s (RV X k)) (PX X noS (fe::outer) F g s kx) s:=by
 refine wpAny_Tuple_spliced (vgoL (evs_ok H am pos es w _ h) λvs g₁ σ₁ s₁ t R₁ ps rp hk=>?_)
 refine ifB hk fT λhl hk=>?_
 ·refine⟨by refine rwG rp.length (rwG sizeLine_eq ?_);have:=okL_le hl;(with_reducible exact Internal.ar16 (by assumption)),VG.base t (new_tuple O R₁ (vs:=vs.toArray) (rp) hk _)⟩
theorem list_ok(am:Amb X d A fe outer F c)(w:Wh X ρ c (fe::outer) g σ s){es:List Expr}{pos:Pos}{k:KV}(h:evs L es ρ σ (λps σ=>mkL ps λps=>k (.lst σ.length) (σ++[ps])) kx=true) :
  wpAny (model X.prog X.w) A (eval (.List es pos) c) (VG X noS (fe::outer) g s (RV X k)) (PX X noS (fe::outer) F g s kx) s:=by
 refine wpAny_List_spliced (vgoL (evs_ok H am pos es w _ h) λvs g₁ σ₁ s₁ t R₁ ps rp hk=>?_)
 refine ifB hk fT λhl hk=>?_
 ·refine⟨by refine rwG rp.length (rwG sizeLine_eq ?_);have:=okL_le hl;(with_reducible exact Internal.ar16 (by assumption)),VG.base t (new_list O R₁ (vs:=vs.toArray) (rp) hk _)⟩
omit O H in
theorem subscripted_ops(slice:Expr)(o i:Value):∃ops,subscripted slice false o i=operate ops (getItem o i):=by
 cases slice with
 |Slice _ _ st _=>cases st with
  |none=>exact⟨_,rfl⟩
  |some=>exact⟨_,rfl⟩
 |_=>exact⟨_,rfl⟩
theorem sub_ok{cx:Cx}(hT:cx.T=X.T)(am:Amb X d A fe outer F c)(w:Wh X ρ c (fe::outer) g σ s){a b:Expr}{pos:Pos}{k:KV}(h:L.ev a ρ σ (λp σ=>L.ev b ρ σ (λq σ=>ifS false (itemP cx.T p q σ) λv=>k v σ) kx) kx=true) :
  wpAny (model X.prog X.w) A (eval (.Subscript a b pos) c) (VG X noS (fe::outer) g s (RV X k)) (PX X noS (fe::outer) F g s kx) s:=by
 refine Subscript_ (vgoV (H.ev am w a _ kx h) λv g₁ σ₁ s₁ t R₁ p rp hk=>?_)
 refine vreQ t (vgoV (H.ev am (w.step t R₁) b _ kx hk) λu g₂ σ₂ s₂ t₂ R₂ q rq hk₂=>?_)
 refine ifE' hk₂ fT λx hx hk₂=>?_
 ·rw[hT]at hx
  refine x0_2 (item_ok O (A:=A) (E:=PX X noS (fe::outer) F g s kx) (l:=fe::outer) (S:=noS) R₂ hx hk₂ (repV_mono t₂.st.gext rp) rq) λho1 hw=>?_;refine x2_2 ho1 λT id hty hlk=>?_;clear ho1
  refine x1_1 (subscripted_ops b v u) λops hops=>?_
  exact tail_any hty hlk (wpAny_mono hw (λzz zz q=>(q.base t₂).base t) λzz zz q=>q) hops
theorem opt_ok(am:Amb X d A fe outer F c)(w:Wh X ρ c (fe::outer) g σ s){e:Option Expr}{k:KV}(h:Internal.evOpt L e ρ σ k kx=true) :
  wpAny (model X.prog X.w) A (evalPart e c) (VG X noS (fe::outer) g s (RV X k)) (PX X noS (fe::outer) F g s kx) s:=by
 cases e with
 |none=>exact evalPart_none_step (vg_val O w.R .none h s.toks)
 |some e=>exact evalPart_some_step (H.ev am w e _ kx h)
theorem slc_ok(am:Amb X d A fe outer F c)(w:Wh X ρ c (fe::outer) g σ s){a:Expr}{lo hi st:Option Expr}{pos pos':Pos}{k:KV}
  (h:L.ev a ρ σ (λp σ=>Internal.evOpt L lo ρ σ (λl σ=>Internal.evOpt L hi ρ σ (λh σ=>Internal.evOpt L st ρ σ (λs σ=>sliceP p l h s σ k) kx) kx) kx) kx=true) :
  wpAny (model X.prog X.w) A (eval (.Subscript a (.Slice lo hi st pos') pos) c) (VG X noS (fe::outer) g s (RV X k)) (PX X noS (fe::outer) F g s kx) s:=by
 refine Subscript_ (vgoV (H.ev am w a _ kx h) λv g₁ σ₁ s₁ t R₁ p rp hk=>?_)
 refine vreQ t (wpAny_Slice ?_)
 have w₁:=w.step t R₁
 refine vgoV (opt_ok O H am w₁ hk) λx1 g₂ σ₂ s₂ t₂ R₂ p1 r1 hk₂=>?_
 have w₂:=w₁.step t₂ R₂
 refine vreQ t₂ (vgoV (opt_ok O H am w₂ hk₂) λx2 g₃ σ₃ s₃ t₃ R₃ p2 r2 hk₃=>?_)
 have w₃:=w₂.step t₃ R₃
 refine vreQ (t₂.trans t₃) (vgoV (opt_ok O H am w₃ hk₃) λx3 g₄ σ₄ s₄ t₄ R₄ p3 r3 hk₄=>?_)
 have tt:=(t₂.trans t₃).trans t₄
 refine x0_2 (slice_ok O (A:=A) (E:=PX X noS (fe::outer) F g s kx) (l:=fe::outer) (S:=noS) R₄ hk₄ (repV_mono tt.st.gext rp) (repV_mono (t₃.trans t₄).st.gext r1) (repV_mono t₄.st.gext r2) r3) λho2 hw=>?_;refine x2_2 ho2 λT id hty hlk=>?_;clear ho2
 refine x1_1 (subscripted_ops (.Slice lo hi st pos') v (.ref s₄.heap.objs.size)) λops hops=>?_
 refine tail_any hty hlk (wpAny_mono hw (λzz zz q=>(q.base tt).base t) λzz zz q=>q) hops
end
end
section
noncomputable def idxF(items:Array Value)(x:Str)(t:Tok)(i:Nat):Sem (ForInStep (Option PySem.Fin×Unit)):=
 match items[i]? with
 |some y=>do
  let b ←eqBool y (.str x t)
  if b=true then do
    let r ←retInt (i:Int)
    pure (ForInStep.done (some r,()))
   else pure (ForInStep.yield (none,()))
 |_=>pure (ForInStep.yield (none,()))
theorem idx_go{prog:Program}{w:World}{A:Around}{E:Value→Shared→Prop}{s:Shared}{items:Array Value}{x:Str}{t:Tok}{all:List Nat}{j:Nat}{Q:Option PySem.Fin×Unit→Shared→Prop}(hj:∃y u,items[j]?=some (.str y u)∧y=x)
  (hQ:Q (some (.done (.ret (.int (j:Int) s.toks))),()) { s with toks:=s.toks+1 }):∀(m i:Nat) (hh:∃bs,bs++List.range' i m=all),i≤j→j<i+m→(∀k,i≤k→k<j→∃y u,items[k]?=some (.str y u)∧y≠x) →
  wpAny (model prog w) A (List.forIn'.loop all (λa _ (__s:Option PySem.Fin×Unit)=>idxF items x t a) (List.range' i m) (none,()) hh) Q E s
 |0,i,_,h1,h2,_=>absurd h1 (Nat.not_le.mpr h2)
 |m+1,i,hh,h1,h2,h3=>by
  have hh':∃bs,bs++(i::List.range' (i+1) m)=all:=hh
  show wpAny (model prog w) A (List.forIn'.loop all (λa _ (__s:Option PySem.Fin×Unit)=>idxF items x t a) (i::List.range' (i+1) m) (none,()) hh') Q E s
  rw[List.forIn'.loop.eq_2]
  refine wpAny_bind ?_
  by_cases e:i=j
  ·subst e
   refine x2_2 hj λy u q1 he3=>?_;refine rwS he3 ?_;clear he3
   unfold idxF
   refine rwG q1 ?_
   refine wpAny_bind (wpAny_eqBool_str ?_)
   refine rwG (if_pos (by simp)) ?_
   refine wpAny_bind ?_
   exact wpAny_bind (wpAny_mkInt (wpAny_pure (wpAny_pure (wpAny_pure hQ))))
  ·refine x2_2 (h3 i (vD _) (by lia)) λy u q1 q2=>?_
   have:idxF items x t i=(do
    let b ←eqBool (.str y u) (.str x t)
    if b=true then do
      let r ←retInt (i:Int)
      pure (ForInStep.done (some r,()))
     else pure (ForInStep.yield (none,()))):=by unfold idxF;exact rwG q1 rfl
   refine rwG this ?_
   refine wpAny_bind (wpAny_eqBool_str ?_)
   refine rwG (if_neg (by simpa using q2)) ?_
   exact wpAny_pure (idx_go hj hQ m (i+1) _ (by lia) (by lia) λk k1 k2=>h3 k (Nat.le_of_lt ‹_›) k2)
theorem tup_index(l:Addr)(items:Array Value)(n:Nat)(x:Str)(t:Tok)(j:Nat)(hj:∃y u,items[j]?=some (.str y u)∧y=x)(hk:∀k,k<j→∃y u,items[k]?=some (.str y u)∧y≠x) :
  Meets (Builtin.«tuple.index» ⟨[.ref l,.str x t],[]⟩) (λ_ R s=>s.heap.get? l=some { cls:=.type "tuple",data:=.seq items n }∧R (.ok (.ret (.int (j:Int) s.toks))) { s with toks:=s.toks+1 }):=
 .of_wp λprog w A R s h=>by
  obtain⟨hp,g,d,tk,os⟩:=s;refine x0_2 h λhl h=>?_;have f1:=PySem.AutoSeq1.idx_int;have f2:=PySem.AutoSeq1.sub_tuple_tuple
  unfold Builtin.«tuple.index»
  simp only[Std.Legacy.Range.forIn_eq_forIn_range']
  wp_walk using PySem.AutoSeq1.wpAny_loadPart' hl
  have hlt:j<items.size:=by refine x2_2 hj λy u e _=>?_;exact(Array.getElem?_eq_some_iff.mp e).1
  refine idx_go (j:=j) hj ?_ _ 0 _ (Nat.zero_le _) (by rw[Nat.zero_add,Std.Legacy.Range.size];simp;exact hlt) λk _ k2=>hk k k2
  exact wpAny_pure ⟨_,rfl,h⟩
end
section
section
variable{M:Model}{A:Around}{E:Value→Shared→Prop}{s:Shared}
theorem evalArgs_all{f:Value}{l:List (Bool×Sem Value)}{Q:Args→Shared→Prop}(hl:l.any (·.1)=false)
  (h:wpAny M A (spliced l) (λvs s'=>Q ⟨vs,[]⟩ s') E s):wpAny M A (evalArgs f true l []) Q E s:=by
 cases l with
 |nil=>
  refine wpAny_bind (wpAny_mono h (λvs s' h'=>?_) λzz zz x=>x)
  refine wpAny_holding ?_
  exact wpAny_bind (wpAny_pure (wpAny_bind (wpAny_pure (wpAny_pure h'))))
 |cons a r=>
  obtain⟨b,x⟩:=a
  have hb:b=false:=by simp at hl;exact hl.1
  subst hb
  exact evalArgs_plain h
theorem starEach_plain{c:Env}{pos:Pos}:∀{es:List Expr},es.all noStar=true→(backTo pos (starEach es c)).any (·.1)=false∧(backTo pos (starEach es c)).all (λx=>!x.1)=true
 | [],_=>⟨rfl,rfl⟩
 |e::r,h=>by
  rw[List.all_cons,Bool.and_eq_true]at h
  obtain⟨h1,h2⟩:=starEach_plain (c:=c) (pos:=pos) h.2
  refine rwG (starEach_cons h.1) ?_
  show((false,eval e c)::backTo pos (starEach r c)).any _=false∧((false,eval e c)::backTo pos (starEach r c)).all _=true
  refine rwG List.any_cons (rwG List.all_cons (rwG h1 (rwG h2 ?_)))
  exact⟨rfl,rfl⟩
theorem attributeBase_plain{o:Expr}{m:Str}{c:Env}{whole:Sem Value}(h:notCall o=true):attributeBase o m c whole=whole:=by
 cases o <;> first|rfl|(exact absF h;done)
end
section
variable{X:Fix}(O:FixOK X){d:Nat}{L:Lvl}(H:LvOK X d L){A:Around}{fe:Env}{outer:List Env}{F:Addr}{c:Env}{ρ:Fr}{g:GW}{σ:Sto}{s:Shared}{kx:KX}
include O H
theorem args_call(am:Amb X d A fe outer F c)(w:Wh X ρ c (fe::outer) g σ s){id:String}{first:List Value}{es:List Expr}{pos:Pos}{k:List PV→Sto→Bool}{Q:Value→Shared→Prop}
  (hs:es.all noStar=true) (h:evs L es ρ σ k kx=true)
  (hc:∀vs g₁ σ₁ s₁ ps,To X noS (fe::outer) g s g₁ s₁→HR X g₁ σ₁ s₁.heap→RepL X g₁ vs ps→k ps σ₁=true→wpAny (model X.prog X.w) A (call (.builtin id) (first++vs)) Q (PX X noS (fe::outer) F g s kx) s₁) :
  wpAny (model X.prog X.w) A (callWith pos (.builtin id) first (backTo pos (starEach es c)) []) Q (PX X noS (fe::outer) F g s kx) s:=by
 have hp:=(starEach_plain (c:=c) (pos:=pos) hs).1
 refine callWith_builtin hp (evalArgs_all hp (vgoL (evs_ok H am pos es w k h) λvs g₁ σ₁ s₁ t R₁ ps rp hk=>?_))
 exact hc vs g₁ σ₁ s₁ ps t R₁ rp hk
omit H in
theorem list_facts(R:HR X g σ s.heap){o:PV}{v:Value}{k:Nat→List PV→Bool}(r:RepV X g v o)(h:listP o σ k=true) :
  ∃i a vs xs n,o=.lst i∧v=.ref a∧g.la[i]?=some a∧σ[i]?=some xs∧s.heap.get? a=some { cls:=.type "list",data:=.seq vs n }∧RepL X g vs.toList xs∧vs.size≤4096∧k i xs=true:=by
 unfold listP at h
 revert r
 refine plstE h fT λi h r=>ifE' h fT λxs e h=>ifB h fT λhl h=>?_
 obtain⟨a,vs,rfl,hi,zz,q,ho1⟩:=RepV.isList R r (gtS e);obtain⟨n,hp⟩:=ho1
 have l1:=q.length
 rw[vH]at l1
 exact⟨i,a,vs,xs,n,rfl,rfl,hi,(gtS e),hp,q,by refine rwG l1 ?_;exact okL_le hl,h⟩
omit H in
theorem set_end{l:List Env}{S:Addr→Prop}(R:HR X g σ s.heap){i:Nat}{a:Addr}{vs:Array Value}{xs:List PV}{h':Heap}{n:Nat}{k:KV}{v:Value}{p:PV}{tk:Nat}(hi:g.la[i]?=some a)(hs:Heap.SameBut a s.heap h')
  (ho:h'.get? a=some { cls:=.type "list",data:=.seq vs n }) (q:RepL X g vs.toList xs) (r:RepV X g v p) (hk:k p (σ.set i xs)=true) :
  VG X S l g s (RV X k) v { s with heap:=h',toks:=tk }:=
 ⟨g,σ.set i xs,⟨Stp.setList (vN hi) hs,rfl,rfl⟩,R.setList hi hs ⟨n,ho⟩ q,p,r,hk⟩
omit O H in
set_option tactic.hygienic true in
theorem join_ok{θ:Nat→List Nat}{g:GW}{X:Fix}{sep:List Nat}:∀{vs:List Value} {xs:List PV} {r:List Nat},RepL X g vs xs→joinR sep xs=some r→∃ys,StrsAre vs ys∧Txt.join (mkS (den X.θ sep)) ys=mkS (den X.θ r)∧(ys.map (·.length)).sum+ys.length*(den X.θ sep).length≤(den X.θ r).length+(den X.θ sep).length
 |vs,[],_,q,h=>by
  refine someI h ?_;clear h;intro hx;subst hx
  refine rwG q.i0 ?_
  exact⟨[],.nil,rfl,by simp⟩
 |vs,[p],r,q,h=>by
  obtain⟨v,rfl,a⟩:=q.one
  cases p with
  |str r0=>
   obtain⟨t,rfl⟩:=a.iS
   have hr:r0=r:=vC h
   refine rwS hr ?_;clear hr
   exact⟨[mkS (den X.θ r0)],.cons _ _ .nil,rfl,by simp[mkS_len]⟩
  |_=>exact absN h
 |ws,p::p'::ps,r,q0,h=>by
  obtain⟨v,us,rfl,a,q1⟩:=q0.i1
  cases p with
  |str r0=>
   obtain⟨t,rfl⟩:=a.iS
   refine ifE' h nS λr1 hj h=>?_
   refine rwS (vC h) ?_
   obtain⟨ys,h1,h2,h3⟩:=join_ok (θ:=θ) q1 hj
   obtain⟨v',us',rfl,-,-⟩:=q1.i1
   cases h1 with
   |cons y t' h1'=>
    rename_i ys'
    refine⟨mkS (den X.θ r0)::y::ys',.cons _ _ (.cons y t' h1'),?_,?_⟩
    ·have ej:∀z zs,Txt.join z zs=Str.join z zs:=StrLaws.glued_eq_join
     rw[ej,PyProof.Rows.join_cons_cons,←ej,h2]
     rw[den_append,den_append];simp only[←mkS_append,List.append_assoc]
    ·rw[List.map_cons,List.sum_cons,den_append,den_append,List.length_append,List.length_append,mkS_len,List.length_cons,Nat.succ_mul]
     lia
  |_=>exact absN h
omit H in
theorem joinG_ok{g:GW}{sep:List Nat}{vs:List Value}{xs:List PV}{r:List Nat}(q:RepL X g vs xs)(h:joinG sep xs=some r)(hl:okL r=true) :
  ∃ys,StrsAre vs ys∧Txt.join (mkS (den X.θ sep)) ys=mkS (den X.θ r)∧(ys.map (·.length)).sum+ys.length*(mkS (den X.θ sep)).length≤16777216:=by
 refine ifB h nS λhs h=>?_
 obtain⟨ys,y1,y2,y3⟩:=join_ok (X:=X) (θ:=X.θ) q h
 have hfit:=den_len (λi=>(O.th i).2) r
 have hfit2:=den_len (λi=>(O.th i).2) sep
 have hfit0:=okL_le' hl
 have hs':=vA hs
 exact⟨ys,y1,y2,by rw[mkS_len];lia⟩
omit O H in
theorem methK_name{m:Str}{mk:MK}(hm:methK m=some mk):m=mkName mk:=by
 have:=List.find?_some hm
 rw[eqS_iff]at this
 exact eq_of_beq this
omit H in
theorem recv_list(R:HR X g σ s.heap){p:PV}{v:Value}(r:RepV X g v p)(h:isLstIn σ p=true) :
  s.TypeIs v "list"∧∀a,v=.ref a→∃ob,s.heap.get? a=some ob∧ob.dict=none:=by
 cases p with
 |lst i=>
  have hi:i<σ.length:=by simpa [isLstIn]using h
  obtain⟨a,vs,rfl,zz,zz,zz,n,ho⟩:=RepV.isList R r (List.getElem?_eq_getElem hi)
  exact⟨⟨_,ho,rfl⟩,λb e=>by cases e;exact⟨_,ho,rfl⟩⟩
 |_=>exact absF h
noncomputable def CallM(X:Fix)(mk:MK)(id:String):Prop:=∀{A:Around} {g:GW} {σ:Sto} {s:Shared} {l:List Env} {E:Value→Shared→Prop} {v:Value} {p:PV} {vs:List Value} {ps:List PV} {k:KV},HR X g σ s.heap→RepV X g v p→RepL X g vs ps→methP X.T mk p ps σ k=true →
 wpAny (model X.prog X.w) A (call (.builtin id) (v::vs)) (VG X noS l g s (RV X k)) E s
noncomputable def RecvM(X:Fix)(mk:MK)(T:String):Prop:=∀{g:GW} {σ:Sto} {s:Shared} {p:PV} {v:Value},HR X g σ s.heap→RepV X g v p→recvOk mk p σ=true→s.TypeIs v T∧∀a,v=.ref a→∃ob,s.heap.get? a=some ob∧ob.dict=none
structure MethG(X:Fix)(mk:MK)(T id:String):Prop where
 plain:PlainAttrs T
 slot:Slot T (mkName mk) id
 type:typeOf (.builtin id)=pure (.type "method_descriptor")
 recv:RecvM X mk T
 call:CallM X mk id
theorem meth_go{cx:Cx}(hT:cx.T=X.T)(am:Amb X d A fe outer F c)(w:Wh X ρ c (fe::outer) g σ s){o:Expr}{m:Str}{apos pos:Pos}{args:List Expr}{mk:MK}{k:KV}(hg:methGood o apos pos args=true)(hm:methK m=some mk)
  (h:L.ev o ρ σ (λp σ=>if recvOk mk p σ then evs L args ρ σ (λps σ=>methP cx.T mk p ps σ k) kx else false) kx=true) {T id:String} (G:MethG X mk T id) :
  wpAny (model X.prog X.w) A (eval (.Call (.Attribute o m apos) args [] pos) c) (VG X noS (fe::outer) g s (RV X k)) (PX X noS (fe::outer) F g s kx) s:=by
 unfold methGood at hg
 refine band4 hg λg1 g2 g3 g4=>?_;clear hg
 have hfew:((backTo pos (starEach args c)).all (λx=>!x.1)&&(backToKw pos (keywordEach [] c)).all (λx=>x.1.isSome)
   && decide (args.length+([]:List Keyword).length+(if([]:List Keyword).isEmpty then 0 else 1)<30))=true:=by
  refine rwG ((starEach_plain g2).2) ?_
  have:args.length<29:=Nat.blt_eq▸g3
  exact decide_eq_true (p:=args.length+0+0<30) (ar41 this)
 refine rwG (methK_name hm) ?_
 refine wpAny_Call_method (attributeBase_plain g1) hfew g4 G.plain G.slot G.type (vgoV (H.ev am w o _ kx h) λv g₁ σ₁ s₁ t R₁ p rp hk=>?_)
 refine ifB hk fT λhr hk=>?_
 obtain⟨a1,a2⟩:=G.recv R₁ rp hr
 refine⟨a1,a2,vre t (args_call O H am (w.step t R₁) g2 hk λvs g₂ σ₂ s₂ ps t₂ R₂ rps hk₂=>?_)⟩
 rw[hT]at hk₂
 exact vre t₂ (G.call R₂ (repV_mono t₂.st.gext rp) rps hk₂)
omit H in
theorem m_append:MethG X .append "list" "list.append":=⟨PySem.F.plainAttrs_list,PySem.F.slot_list_append,PySem.F.type_list_append,λR r h=>recv_list O R r h,λR r rs h=>by
  obtain⟨i,a,vs,xs,n,rfl,rfl,hi,e,ho,q,hz,h⟩:=list_facts O R r h
  revert rs
  refine oneE h fT λp h rs=>?_
  obtain⟨v,rfl,rv⟩:=rs.one
  refine PyProof.Rows.append_at ho (λh' hs ho'=>?_) (by refine rwG sizeLine_eq ?_;(with_reducible exact Internal.ar16 (by assumption)))
  exact set_end O R hi hs ho' (by refine rwG Array.toList_push ?_;exact q.append (.cons rv .nil)) .none h⟩
omit H in
theorem m_extend:MethG X .extend "list" "list.extend":=⟨PySem.F.plainAttrs_list,PySem.F.slot_list_extend,PySem.F.type_list_extend,λR r h=>recv_list O R r h,λR r rs h=>by
  obtain⟨i,a,vs,xs,n,rfl,rfl,hi,e,ho,q,hz,h⟩:=list_facts O R r h
  revert rs
  refine oneE h fT λp h rs=>?_
  obtain⟨v,rfl,rv⟩:=rs.one
  obtain⟨j,b,us,ys,n',rfl,rfl,hj,e',ho',q',hz',h⟩:=list_facts O R rv h
  refine ifB h fT λzz h=>ifB h fT λhl h=>?_
  refine call_meets PySem.F.slot_list_extend ⟨_,ho,rfl⟩ PySem.F.entry_list_extend (PySem.F.args_list_extend_2 _ _) (AutoSeq1.list_extend_list_list_0 a vs n b us n' ?_ (by refine rwG sizeLine_eq ?_;(with_reducible exact Internal.ar16 (by assumption))) (by refine rwG sizeLine_eq ?_;(with_reducible exact Internal.ar30 (by assumption) (by assumption)))) ⟨ho,ho',?_⟩
  ·unfold Builtin.List.listTooLong
   refine rwG sizeLine_eq ?_
   simp;lia
  ·have e2:=Heap.get?_update_self (Obj.mapSeq λx=>x++us) ho rfl
   exact set_end O R (vs:=vs++us) hi (Heap.SameBut.update ..) (by refine rwG e2 ?_;rfl) (by refine rwG Array.toList_append ?_;exact q.append q') .none h⟩
omit H in
theorem m_reverse:MethG X .reverse "list" "list.reverse":=⟨PySem.F.plainAttrs_list,PySem.F.slot_list_reverse,PySem.F.type_list_reverse,λR r h=>recv_list O R r h,λR r rs h=>by
  obtain⟨i,a,vs,xs,n,rfl,rfl,hi,e,ho,q,hz,h⟩:=list_facts O R r h
  revert rs
  refine nilE h fT λh rs=>?_
  refine rwG rs.i0 ?_
  refine call_meets PySem.F.slot_list_reverse ⟨_,ho,rfl⟩ PySem.F.entry_list_reverse (PySem.F.args_list_reverse_1 _) (AutoSeq1.list_reverse_list_0 a vs n (by refine rwG sizeLine_eq ?_;(with_reducible exact Internal.ar16 (by assumption)))) ⟨ho,?_⟩
  have e2:=Heap.get?_update_self (Obj.mapSeq λx=>x.reverse) ho rfl
  exact set_end O R (vs:=vs.reverse) hi (Heap.SameBut.update ..) (by refine rwG e2 ?_;rfl) (by refine rwG Array.toList_reverse ?_;exact q.reverse) .none h⟩
omit H in
theorem m_pop:MethG X .pop "list" "list.pop":=⟨PySem.F.plainAttrs_list,PySem.F.slot_list_pop,PySem.F.type_list_pop,λR r h=>recv_list O R r h,λR r rs h=>by
  obtain⟨i,a,vs,xs,n,rfl,rfl,hi,e,ho,q,hz,h⟩:=list_facts O R r h
  revert rs
  refine nilE h fT λh rs=>ifE' h fT λp hp h=>?_
  refine rwG rs.i0 ?_
  have hp':xs[xs.length-1]?=some p:=by refine rwS (List.getLast?_eq_getElem?) ?_;exact hp
  obtain⟨v,hv,rv⟩:=q.get hp'
  have l1:=q.length
  rw[vH]at l1
  refine PyProof.Rows.Copied.pop_at (y:=v) ho (by refine rwS (Array.getElem?_toList) (rwG l1 ?_);exact hv) (λh' hs ho'=>?_) (by refine rwG sizeLine_eq ?_;(with_reducible exact Internal.ar16 (by assumption)))
  refine set_end O R hi hs ho' (xs:=xs.dropLast) ?_ rv h
  refine rwG Array.toList_pop (rwG List.dropLast_eq_take (rwG List.dropLast_eq_take (rwG vH (rwG l1 ?_))))
  exact q.take _⟩
omit O H in
theorem recv_str{s:Shared}{p:PV}{v:Value}(r:RepV X g v p)(h:isStrP p=true):s.TypeIs v "str"∧∀a,v=.ref a→∃ob,s.heap.get? a=some ob∧ob.dict=none:=by
 cases p with
 |str r0=>obtain⟨zz,rfl⟩:=r.iS;exact⟨typeIs_str _ _ _,λa e=>nomatch e⟩
 |_=>exact absF h
omit H in
theorem m_join:MethG X .join "str" "str.join":=⟨PySem.F.plainAttrs_str,PySem.F.slot_str_join,PySem.F.type_str_join,λR r h=>recv_str r h,λR r rs h=>by
  revert r
  refine pstrE h fT λr0 h r=>?_
  revert rs
  refine oneE h fT λp h rs=>?_
  obtain⟨v,rfl,rv⟩:=rs.one
  obtain⟨i,a,vs,xs,n,rfl,rfl,hi,e,ho,q,hz,h⟩:=list_facts O R rv h
  refine ifE' h fT λz hz' h=>ifB h fT λhl h=>?_
  obtain⟨t,rfl⟩:=r.iS
  obtain⟨ys,y1,y2,y3⟩:=joinG_ok O q hz' hl
  exact PyProof.Rows.join_list (ys:=ys) ⟨_,ho,rfl,n,rfl⟩ y1 y3 λt' k'=>vg_str O R y2 h _ _⟩
omit O H in
theorem isD{p:PV}{v:Value}(R:HR X g σ s.heap)(r:RepV X g v p)(h:isDct p=true):∃a o,v=.ref a∧s.heap.get? a=some o∧o.cls=.type "dict"∧o.dict=none:=by
 revert h
 exact@RepV.casesOn X g (λv p _=>isDct p=true→∃a o,v=.ref a∧s.heap.get? a=some o∧o.cls=.type "dict"∧o.dict=none) v p r absF (λ_=>absF) (λ_ _=>absF) (λ_ _=>absF) (λ_ _=>absF) (λ_=>absF) (λ_=>absF)
  (λe1 e2 _ _ _ _ _=>x1_1 e2 λes h=>x1_2 h λep x _=>⟨_,_,rfl,R.frz _ _ e1,x.1,x.2.1⟩) (λe1 e2 _ _ _ _=>x1_1 e2 λes h=>x1_2 h λep x _=>⟨_,_,rfl,R.frz _ _ e1,x.1,x.2.1⟩) (λ_ _ _ _ _ _ _ _ _ _ _ _ _=>absF) (λ_ _ _=>absF)
omit H in
theorem m_get:MethG X .get "dict" "dict.get":=⟨PySem.F.plainAttrs_dict,PySem.F.slot_dict_get,PySem.F.type_dict_get,λR r h=>by
  obtain⟨a,o,rfl,h1,h2,h3⟩:=isD R r h
  exact⟨⟨o,h1,h2⟩,λb e=>by cases e;exact⟨o,h1,h3⟩⟩,λ{A g σ s l E v p vs ps k} R r rs h=>by
  revert rs
  refine twoE h fT λq1 q2 h rs=>?_
  revert rs
  refine pstrE h fT λr0 h rs=>ifB h fT λhd h=>ifE' h fT λz e h=>?_
  obtain⟨v1,v2,rfl,a,b⟩:=rs.two
  obtain⟨a1,o1,rfl,ho1,hc1,zz⟩:=isD R r hd
  obtain⟨a',kvs,x,t,ev,rfl,hs,hdd,hv⟩:=dictGet_ok O R e r a ⟨_,rfl⟩
  cases ev
  refine call_meetsIn PySem.F.slot_dict_get ⟨o1,ho1,hc1⟩ PySem.F.entry_dict_get (PySem.F.args_dict_get_3 _ _ _) (meets_dict_get_default (knd:=PySem.strKind _ _) _ (hkey:=strKind_is _ _ x t) (hd:=hs) (dflt:=_)) ⟨_,hdd.mapOf,?_⟩
  cases z with
  |some z=>
   obtain⟨v',hv,rv⟩:=hv
   refine rwG hv ?_
   exact vg_val O R rv h _
  |none=>
   refine rwG (show valueAt kvs x=none from hv) ?_
   exact vg_val O R b h _⟩
omit O H in
theorem idxS_ok(O:FixOK X){r:List Nat}{vs:List Value}{ps:List PV}{n m:Nat}(q:RepL X g vs ps)(h:idxS r ps n=some m):∃k,m=n+k∧(∃y u,vs[k]?=some (.str y u)∧y=mkS (den X.θ r))∧∀i,i<k→∃y u,vs[i]?=some (.str y u)∧y≠mkS (den X.θ r):=by
 induction ps generalizing vs n m with
 |nil=>exact absN h
 |cons p ps ih=>
  refine x2_3 q.i1 λv vs he2=>?_;refine rwG he2 ?_;clear he2;intro a b
  revert a
  refine pstrE h nS λy h a=>ifE' h nS λc e h=>?_
  refine x1_1 a.iS λt he1=>?_;refine rwG he1 ?_;clear he1 a q
  have e':=ropeB O e
  cases c with
  |true=>
   refine rwG (vC h) ?_
   exact⟨0,rfl,⟨_,_,rfl,eq_of_beq e'⟩,λi hi=>absurd hi (Nat.not_lt_zero _)⟩
  |false=>
   refine x1_3 (ih b h) λk he h1 h2=>?_
   refine⟨k+1,he.trans (Nat.add_right_comm n 1 k),h1,λi hi=>?_⟩
   cases i with
   |zero=>exact⟨_,_,rfl,λz=>absurd (e'.symm.trans (beq_iff_eq.mpr z)) Bool.false_ne_true⟩
   |succ i=>exact h2 i (Nat.lt_of_succ_lt_succ hi)
omit H in
theorem m_index:MethG X .index "tuple" "tuple.index":=⟨PySem.F.plainAttrs_tuple,PySem.F.slot_tuple_index,PySem.F.type_tuple_index,λR r h=>by
  revert r
  refine ptupE h fT λxs h r=>?_
  obtain⟨a,vs,n,rfl,e,q⟩:=r.iT
  exact⟨⟨_,R.frz _ _ e,rfl⟩,λb hb=>by cases hb;exact⟨_,R.frz _ _ e,rfl⟩⟩,λR r rs h=>by
  revert r
  refine ptupE h fT λxs h r=>?_
  revert rs
  refine oneE h fT λp h rs=>?_
  revert rs
  refine pstrE h fT λr0 h rs=>ifE' h fT λm e h=>?_
  obtain⟨a,vs,n,rfl,e1,q⟩:=r.iT
  obtain⟨v,rfl,rv⟩:=rs.one
  obtain⟨t,rfl⟩:=rv.iS
  have o1:=R.frz _ _ e1
  obtain⟨k0,rfl,h1,h2⟩:=idxS_ok O q e
  rw[Nat.zero_add]at h
  refine call_meets PySem.F.slot_tuple_index ⟨_,o1,rfl⟩ PySem.F.entry_tuple_index (PySem.F.args_tuple_index_2 _ _) (tup_index a vs n _ t k0 (by simpa using h1) (by simpa using h2)) ⟨o1,vg_val O R (.int _ _) h _⟩⟩
omit H in
theorem m_upper:MethG X .upper "str" "str.upper":=⟨PySem.F.plainAttrs_str,PySem.F.slot_str_upper,PySem.F.type_str_upper,λR r h=>recv_str r h,λR r rs h=>by
  revert r
  refine pstrE h fT λr0 h r=>?_
  revert rs
  refine nilE h fT λh rs=>ifB h fT λhc h=>band2 hc λh1 h2=>?_
  refine rwG rs.i0 ?_
  obtain⟨t,rfl⟩:=r.iS
  have hA:∀c∈r0,c<128:=λc hc=>vA ((vF h1) c hc)
  have hl:litR r0=true:=List.all_eq_true.mpr λc hc=>Nat.ble_eq_true_of_le (Nat.lt_of_lt_of_le (hA c hc) (vA rfl))
  have hl':litR (r0.map PyProof.Rows.up1)=true:=List.all_eq_true.mpr λc hc=>by
   obtain⟨d,hd,rfl⟩:=List.mem_map.mp hc
   have:=hA d hd
   refine Nat.ble_eq_true_of_le (show PyProof.Rows.up1 d+1≤1114112 from ?_)
   unfold PyProof.Rows.up1;split <;> lia
  refine rwG (den_lit hl) ?_
  refine PyProof.Rows.SCL.upper ?_ λ_=>vg_str O R (r:=r0.map PyProof.Rows.up1) ?_ h _ _
  ·rw[mkS_len];have:=okL_le h2;lia
  ·refine rwG (den_lit hl') (rwG (PyProof.Rows.upper_ascii (by simpa [mkS]using hA)) ?_);simp[mkS]⟩
omit H in
theorem m_replace:MethG X .replace "str" "str.replace":=⟨PySem.F.plainAttrs_str,PySem.F.slot_str_replace,PySem.F.type_str_replace,λR r h=>recv_str r h,λR r rs h=>by
  revert r
  refine pstrE h fT λr0 h r=>?_
  revert rs
  refine twoE h fT λp1 p2 h rs=>?_
  revert rs
  refine pstrE h fT λx h rs=>?_
  revert rs
  refine pstrE h fT λy h rs=>ifB h fT λhc h=>band3 hc λh1 h2 h3=>?_
  obtain⟨v1,v2,rfl,a,b⟩:=rs.two
  have r':=r
  obtain⟨t,rfl⟩:=r.iS
  obtain⟨t1,rfl⟩:=a.iS
  obtain⟨t2,rfl⟩:=b.iS
  have hq:((Builtin.Str.occurrences (mkS (den X.θ r0)) (mkS (den X.θ x)) 0 (mkS (den X.θ r0)).length ((mkS (den X.θ r0)).length+1)).isEmpty||((mkS (den X.θ x)).length==0&&(mkS (den X.θ y)).length==0))=true:=by
   refine rwG (den_lit h1) (rwG (den_lit h2) ?_)
   exact Bool.or_eq_true_iff.mpr (.inl h3)
  refine call_gives PySem.F.slot_str_replace (typeIs_str _ _ _) PySem.F.entry_str_replace (PySem.F.args_str_replace_3 _ _ _) (gives_str_replace _ _ _ t t1 t2 λq=>by rw[hq]at q;exact absT q) ?_
  refine rwG (if_pos hq) ?_
  exact vg_val O R r' h _⟩
theorem meth_ok{cx:Cx}(hT:cx.T=X.T)(am:Amb X d A fe outer F c)(w:Wh X ρ c (fe::outer) g σ s){o:Expr}{m:Str}{apos pos:Pos}{args:List Expr}{mk:MK}{k:KV}(hg:methGood o apos pos args=true)(hm:methK m=some mk)
  (h:L.ev o ρ σ (λp σ=>if recvOk mk p σ then evs L args ρ σ (λps σ=>methP cx.T mk p ps σ k) kx else false) kx=true) :
  wpAny (model X.prog X.w) A (eval (.Call (.Attribute o m apos) args [] pos) c) (VG X noS (fe::outer) g s (RV X k)) (PX X noS (fe::outer) F g s kx) s:=by
 cases mk with
 |append=>exact meth_go O H hT am w hg hm h (m_append O)
 |extend=>exact meth_go O H hT am w hg hm h (m_extend O)
 |reverse=>exact meth_go O H hT am w hg hm h (m_reverse O)
 |pop=>exact meth_go O H hT am w hg hm h (m_pop O)
 |join=>exact meth_go O H hT am w hg hm h (m_join O)
 |get=>exact meth_go O H hT am w hg hm h (m_get O)
 |index=>exact meth_go O H hT am w hg hm h (m_index O)
 |upper=>exact meth_go O H hT am w hg hm h (m_upper O)
 |replace=>exact meth_go O H hT am w hg hm h (m_replace O)
end
end
section
theorem collect_sized{prog:Program}{w:World}{A:Around}{E:Value→Shared→Prop}{s:Shared}{Q:List Value→Shared→Prop}(it:Addr){o:Obj}{items:Array Value}{n:Nat}(ho:s.heap.get? it=some o)(hc:o.cls=.type "list")(hd:o.data=.seq items n)(hsz:items.size≤sizeLine)
  (hQ:∀h',(∀b o',s.heap.get? b=some o'→h'.get? b=some o')→s.heap.objs.size≤h'.objs.size→Q items.toList { s with heap:=h' }):wpAny (model prog w) A (collect (.ref it)) Q E s:=
 wpAny_mono (wpAny_sized (wpAny_collect_seq (Q:=λv s'=>∃h':Heap,v=items.toList∧s' = { s with heap:=h' }∧∀b o',s.heap.get? b=some o'→h'.get? b=some o') (E:=E) it (.inl rfl) ho hc hd (λh' hk=>⟨h',rfl,rfl,hk⟩) hsz))
  (λv s' ⟨⟨h',e1,e2,hk⟩,hs⟩=>by refine rwG e1 ?_;clear e1;subst e2;exact hQ h' hk hs) λ_ _ q=>q.1
theorem tuple_of_list(l:Addr)(o:Obj)(items:Array Value)(n:Nat)(hc:o.cls=.type "list")(hd:o.data=.seq items n)(hsz:items.size≤sizeLine) :
  Meets (Builtin.«tuple.__new__» ⟨[.type "tuple",.ref l],[]⟩)
   (λ_ R s=>s.heap.get? l=some o∧∀h':Heap,(∀b o',s.heap.get? b=some o'→h'.get? b=some o')→s.heap.objs.size≤h'.objs.size→R (.ok (.ret (.ref h'.objs.size))) { s with heap:=h'.push { cls:=.type "tuple",data:=.seq items } }):=
 .of_wp λprog w A R s h=>by
  obtain⟨hp,g,d,tk,os⟩:=s;refine x0_2 h λht h=>?_
  have hsub:=sub_tuple_self
  have hinit:=init_tuple_lookup
  have hmh:=madeHere_tuple
  have hT:Shared.TypeIs ⟨hp,g,d,tk,os⟩ (.ref l) "list":=⟨o,ht,hc⟩
  wp_walk using PySem.AutoSeq1.wpAny_loadPart' ht,wpAny_typeOf hT,collect_sized l ht hc hd hsz
  intro h' hk hs
  show wpAny _ _ (Builtin.Tuple.tupleExact items.toList.toArray >>= λv=>ret v) _ _ _
  refine rwG Array.toArray_toList ?_
  exact wpAny_bind (wpAny_newObj_type (wpAny_pure ⟨_,rfl,h h' hk hs⟩) hsz)
set_option maxRecDepth 8000 in
theorem miss_keys{prog:Program}{w:World}{A:Around}{E:Value→Shared→Prop}{s:Shared}{a:Addr}{xs:Array Value}{k:Nat}{Q:Option Value→Shared→Prop}(hx:s.heap.get? a=some { cls:=.type "tuple",data:=.seq xs k })(hA:A.handled=none)
  (h:∀h' tk,(∀b o,s.heap.get? b=some o→h'.get? b=some o)→Q none { s with heap:=h',toks:=tk }):wpAny (model prog w) A (getAttr? (.ref a) "keys") Q E s:=by
 obtain⟨hp,g,d,tk,os⟩:=s
 have hT:∀tk',(⟨hp,g,d,tk',os⟩:Shared).TypeIs (.ref a) "tuple":=λ_=>⟨_,hx,rfl⟩
 have hmiss:typeLookup (.type "tuple") (Str.ofString "keys")=pure none:=by rw[typeLookup_type,builtinLookup_eq_fast];kernel_rfl
 have f1:=sub_AttributeError
 have f3:=PySem.F.slot_tuple_getattribute.lookup
 have f4:=PySem.F.slot_tuple_getattribute.bind (.ref a)
 have f5:=am_tuple_getattr_none
 repeat (any_goals (first|assumption|exact hT _|((with_reducible show wpAny _ _ (call (Value.builtin "tuple.__getattribute__") _ _) _ _ _);refine call_meets PySem.F.slot_tuple_getattribute (hT _) am_entry_tuple_getattribute (PySem.F.args_tuple_getattribute_2 _ _) (meets_getattribute_miss_tuple a xs k #[] "keys" _ hmiss rfl (vA rfl)) ⟨hx,hA,λh' tk' e hx'=>?_⟩)|wp_step))
 refine x2_1 hx'.there λt' u' he=>?_
 unfold getattributeRaised
 repeat (any_goals (first|assumption|wp_step))
 exact h h' tk' hx'.keeps
theorem entry_dul:entryFor table "dict.update.loop"=some Builtin.«dict.update.loop» := entryFor_of_tree (by kernel_rfl)
theorem plain_dul:plainId "dict.update.loop"=true:=by decide +kernel
structure PairsIn(items:Array Value)(kvs:List (Str×Value))(D I:Addr)(h:Heap):Prop where
 len:items.size=kvs.length
 pair:∀i,i<items.size→∃p n x t v,items[i]?=some (.ref p)∧kvs[i]?=some (x,v)∧p≠D∧p≠I∧h.get? p=some { cls:=.type "tuple",data:=.seq #[.str x t,v] n }
theorem ltSucc{a i k:Nat}(h:a-i=k+1):i<a:=by lia
theorem predS{a i k:Nat}(h:a-i=k+1):a-(i+1)=k:=by lia
theorem stored_take{kvs:List (Str×Value)}(hn:(kvs.map (·.1)).Nodup){i:Nat}{x:Str}{v:Value}(e2:kvs[i]?=some (x,v)):stored (kvs.take i) x v=kvs.take (i+1):=by
 refine x1_1 (List.getElem?_eq_some_iff.mp e2) λhlt e4=>?_;clear e2
 refine rwG (List.take_succ_eq_append_getElem hlt) (rwG e4 ?_)
 refine if_neg λq=>?_
 refine x1_2 (vG q) λkv hkv hx=>?_
 have hx:=of_decide_eq_true hx
 refine x1_1 (List.getElem_of_mem hkv) λj hq1=>?_;refine x1_1 hq1 λhj hjj=>?_
 have hj':j<i∧j<kvs.length:=Nat.lt_min.mp (List.length_take▸hj)
 have h1:(kvs.map (·.1))[j]'(by rw[List.length_map];exact hj'.2)=(kvs.map (·.1))[i]'(by rw[List.length_map];exact hlt):=by
  rw[List.getElem_map,List.getElem_map,←List.getElem_take (h:=hj),hjj,e4];exact hx
 exact absurd ((List.getElem_inj hn).mp h1) (Nat.ne_of_lt hj'.1)
theorem dul_go{prog:Program}{w:World}{A:Around}{R:Result→Shared→Prop}(hh:A.handled=none){D I T:Addr}{items:Array Value}{kvs:List (Str×Value)}(hDI:D≠I)(hTD:T≠D)(hTI:T≠I)(hn:(kvs.map (·.1)).Nodup)(hz:kvs.length≤15) :
  ∀(k i:Nat) (s:Shared),items.size-i=k→i≤items.size→s.heap.IsTupleIter I T i→s.heap.IsTuple T items→PairsIn items kvs D I s.heap→s.heap.DictOf (strKind prog w) D (kvs.take i) →
   (∀h' tk,h'.DictOf (strKind prog w) D kvs→(∀b o,b≠D→b≠I→s.heap.get? b=some o→h'.get? b=some o)→R (.ok (.ret .none)) { s with heap:=h',toks:=tk }) →
   codeAny (model prog w) A (.builtin "dict.update.loop" ⟨[.ref D,.ref I,rawInt (i:Int),.none],[]⟩) R s:=by
 intro k
 induction k with
 |zero=>
  intro i s hk hi hit ht hp hd hR
  have hin:i=items.size:=Nat.le_antisymm hi (Nat.le_of_sub_eq_zero hk)
  refine codeAny_builtin entry_dul ?_
  rw[Around.under_plainId plain_dul _]
  show wpAny _ A.in1 (pyNext (.ref I) >>= _) _ _ s
  refine wpAny_bind (wpAny_pyNext_tuple_end (by rw[Around.in1_handled];exact hh) hit ht (by refine rwG hin ?_;simp) λh' he=>?_)
  refine wpAny_bind (wpAny_pure (wpAny_pure (hR h' s.toks ?_ λb o _ n e=>he b o n e)))
  rw[show kvs=kvs.take i by exact rwG hin (rwG hp.len (rwG List.take_length rfl))]
  exact hd.extBut he hDI
 |succ k ih=>
  intro i s hk hi hit ht hp hd hR
  have hlt:i<items.size:=ltSucc hk
  refine x3_1 (hp.pair i hlt) λp n x hq3=>?_;refine x2_5 hq3 λt v e1 e2 p1 p2 ho=>?_
  refine codeAny_builtin entry_dul ?_
  refine rwG (Around.under_plainId plain_dul _) ?_
  refine wpAny_bind (wpAny_pyNext_tuple_item hit ht e1 λh₁ hit₁ hs₁=>?_)
  have ho₁:h₁.get? p=some { cls:=.type "tuple",data:=.seq #[.str x t,v] n }:=(hs₁.2 p p2).trans ho
  have hd₁:h₁.DictOf (strKind prog w) D (kvs.take i):=hd.extBut hs₁.extBut hDI
  have hT:(⟨h₁,s.gens,s.drawn,s.toks,s.os⟩:Shared).TypeIs (.ref p) "tuple":=⟨_,ho₁,rfl⟩
  refine wpAny_bind (wpAny_holding ?_)
  refine wpAny_bind (wpAny_tryCatch ?_)
  refine wpAny_bind (wpAny_typeOf hT ?_)
  refine rwG (if_pos (by decide)) ?_
  refine wpAny_bind (wpAny_seqItems ho₁ rfl (wpAny_pure ?_))
  refine wpAny_holding (wpAny_dictSet_pairs (knd:=PySem.strKind prog w) (strKind_is _ _ x t) hd₁ (λh₂ hd₂ hs₂=>?_) (by refine rwG List.length_take (rwG sizeLine_eq ?_);lia))
  have e3:=stored_take hn e2
  rw[e3]at hd₂
  have kp:∀b o,b≠D→b≠I→s.heap.get? b=some o→h₂.get? b=some o:=λb o n1 n2 e=>(hs₂.2 b n1).trans ((hs₁.2 b n2).trans e)
  refine wpAny_pure ⟨plainId_quiet plain_dul _,?_⟩
  refine ih (i+1) _ (predS hk) hlt (hit₁.extBut hs₂.extBut hDI.symm) ?_ ⟨hp.len,λj hj=>?_⟩ hd₂ λh' tk a b=>hR h' tk a λc o n1 n2 e=>b c o n1 n2 (kp c o n1 n2 e)
  ·refine x1_2 ht λo hoT r=>?_;clear ht;exact⟨o,kp T o hTD hTI hoT,r⟩
  ·refine x3_1 (hp.pair j hj) λp n x hq3=>?_;refine x2_5 hq3 λt v e1 e2 p1 p2 ho=>?_
   exact⟨p,n,x,t,v,e1,e2,p1,p2,kp p _ p1 p2 ho⟩
theorem call_dict_pairs{prog:Program}{w:World}{A:Around}{E:Value→Shared→Prop}{s:Shared}(hh:A.handled=none){T:Addr}{items:Array Value}{n:Nat}{kvs:List (Str×Value)}{Q:Value→Shared→Prop}(hT:s.heap.get? T=some { cls:=.type "tuple",data:=.seq items n })
  (hl:items.size=kvs.length) (hp:∀i,i<items.size→∃p n x t v,items[i]?=some (.ref p)∧kvs[i]?=some (x,v)∧s.heap.get? p=some { cls:=.type "tuple",data:=.seq #[.str x t,v] n }) (hn:(kvs.map (·.1)).Nodup) (hz:kvs.length≤15)
  (h:∀h' tk,h'.DictOf (PySem.strKind prog w) s.heap.objs.size kvs→(∀b o,s.heap.get? b=some o→h'.get? b=some o)→Q (.ref s.heap.objs.size) { s with heap:=h',toks:=tk }) :
  wpAny (model prog w) A (call (.type "dict") [.ref T]) Q E s:=by
 refine callType_codes (Q₁:=λobj s₁=>obj=.ref s.heap.objs.size∧s₁ = { s with heap:=s.heap.push { cls:=.type "dict",data:=.dict #[] } }) PySem.F.kt_called_dict (PySem.F.kt_typeCall_dict_1 _) PySem.F.entry_dict_init (kt_code_dict_new _ ⟨rfl,rfl⟩) ?_
 rintro obj s₁ ⟨rfl,rfl⟩
 have hnew:(s.heap.push { cls:=.type "dict",data:=.dict #[] }).DictOf (PySem.strKind prog w) s.heap.objs.size []:=Heap.DictOf.new s.heap
 have hlt:T<s.heap.objs.size:=Heap.lt_size hT
 have hT':(s.heap.push { cls:=.type "dict",data:=.dict #[] }).get? T=some { cls:=.type "tuple",data:=.seq items n }:=Heap.get?_push_of_some _ hT
 have hTt:(⟨s.heap.push { cls:=.type "dict",data:=.dict #[] },s.gens,s.drawn,s.toks,s.os⟩:Shared).TypeIs (.ref T) "tuple":=⟨_,hT',rfl⟩
 refine⟨hnew.typeIs,PySem.F.args_dict_init_2 _ _,?_⟩
 refine wpAny_bind ?_
 refine wpAny_bind (wpAny_notOrdered_dict hnew.typeIs ?_)
 refine wpAny_pure ?_
 show wpAny _ _ (Builtin.Dict.updateFrom "dict.__init__" s.heap.objs.size (.ref T) [] .none) _ _ _
 refine wpAny_bind (wpAny_typeOf hTt ?_)
 refine rwG (if_pos (by decide)) ?_
 refine wpAny_bind (miss_keys hT' (by rw[Around.in1_handled,Around.in1_handled];exact hh) λh₁ tk k₁=>?_)
 refine wpAny_bind (wpAny_rule ?_)
 have hD₁:h₁.DictOf (PySem.strKind prog w) s.heap.objs.size []:=let ⟨o,es,ep,ho,r⟩:=hnew;⟨o,es,ep,k₁ _ _ ho,r⟩
 have hlt₁:s.heap.objs.size<h₁.objs.size:=by refine x3_2 hD₁ λo es ep ho r=>?_;exact Heap.lt_size ho
 have hT₁:h₁.IsTuple T items:=⟨_,k₁ _ _ hT',rfl,n,rfl⟩
 refine wpAny_bind (wpAny_pyIter_tuple hT₁ ?_)
 have kp:∀b o,s.heap.get? b=some o→(h₁.push { cls:=.type "tuple_iterator",data:=.fields #[.ref T,.int 0 0] }).get? b=some o:=λb o e=>Heap.get?_push_of_some _ (k₁ _ _ (Heap.get?_push_of_some _ e))
 refine wpAny_pure ⟨plainId_quiet plain_dul _,?_⟩
 refine dul_go (by rw[Around.in1_handled];exact hh) (Nat.ne_of_lt hlt₁) (Nat.ne_of_lt hlt) (Nat.ne_of_lt (Nat.lt_trans hlt hlt₁)) hn hz items.size 0 _ (Nat.sub_zero _) (Nat.zero_le _) ⟨_,Heap.get?_push_size _ rfl,rfl,rfl⟩ ⟨_,Heap.get?_push_of_some _ (k₁ _ _ hT'),rfl,n,rfl⟩ ⟨hl,λi hi=>?_⟩ (hD₁.push _) λh' tk' a b=>⟨rfl,h h' tk' a λb' o e=>b b' o (Nat.ne_of_lt (Heap.lt_size e)) (Nat.ne_of_lt (Nat.lt_trans (Heap.lt_size e) hlt₁)) (kp b' o e)⟩
 refine x3_1 (hp i hi) λp m x hq3=>?_;refine x2_3 hq3 λt v e1 e2 e3=>?_
 exact⟨p,m,x,t,v,e1,e2,Nat.ne_of_lt (Heap.lt_size e3),Nat.ne_of_lt (Nat.lt_trans (Heap.lt_size e3) hlt₁),kp p _ e3⟩
theorem distinct_nodup{σ:Sto}:∀{kvs:List (Str×Value)},(∀kv∈kvs,litR kv.1.cps.toList=true)→distinctK σ (kvs.map λkv=>PV.str kv.1.cps.toList)=true→(kvs.map (·.1)).Nodup
 | [],_,_=>List.nodup_nil
 |kv::kvs,hl,h=>by
  refine band2 (show(_&&_)=true from h) λh1 h2=>?_;clear h
  rw[List.map_cons,List.nodup_cons]
  refine⟨λhm=>?_,distinct_nodup (λkv' hk'=>hl kv' (.tail _ hk')) h2⟩
  refine x1_2 (List.mem_map.mp hm) λkv' hk' e=>?_
  rw[List.all_map]at h1
  have:=(vF h1) kv' hk'
  rw[Function.comp]at this
  have e2:pvEq σ 4 (PV.str kv.1.cps.toList) (PV.str kv'.1.cps.toList)=some true:=by
   show ropeEq _ _=_
   unfold ropeEq
   rw[e,eqL_self];rfl
  rw[e2]at this
  exact absF this
theorem unPairs_ok{X:Fix}{g:GW}{vs:List Value}{xs:List PV}{z:List PV×List PV}(q:RepL X g vs xs)(h:unPairs xs=some z):∃kvs:List (Str×Value),z.1=kvs.map (λkv=>PV.str kv.1.cps.toList)∧(∀kv∈kvs,litR kv.1.cps.toList=true)∧RepL X g (kvs.map (·.2)) z.2∧vs.length=kvs.length ∧
   ∀i,i<vs.length→∃p n x t v,vs[i]?=some (.ref p)∧kvs[i]?=some (x,v)∧g.Γ p=some { cls:=.type "tuple",data:=.seq #[.str x t,v] n }:=by
 induction xs generalizing vs z with
 |nil=>
  refine rwG q.i0 ?_
  refine rwS (vC h) ?_
  exact⟨[],rfl,(λ_ h=>(List.not_mem_nil h).elim),.nil,rfl,λi hi=>absurd hi (Nat.not_lt_zero _)⟩
 |cons p xs ih=>
  refine x2_3 q.i1 λv vs he2=>?_;refine rwG he2 ?_;clear he2;intro a b
  revert a
  refine ptupE h nS λps h=>twoE h nS λp1 p2 h=>ifE' h nS λy hy h=>pstrE h nS λr h a=>ifB h nS λhl h=>?_
  refine rwS (vC h) ?_
  refine x1_5 (ih b hy) λkvs e1 e2 e3 e4 e5=>?_
  refine x3_3 a.iT λc us n he3=>?_;refine rwG he3 ?_;clear he3;intro o1 qq
  obtain⟨us⟩:=us
  have qq:RepL X g us [.str r,p2]:=qq
  refine x2_3 qq.two λu1 u2 e0 a1 a2=>?_
  subst e0
  refine x1_1 a1.iS λt he1=>?_;subst he1
  rw[den_lit hl]at o1
  refine⟨(mkS r,u2)::kvs,by refine rwG e1 ?_;simp[mkS],λkv hk=>?_,.cons a2 e3,by exact rwG List.length_cons (rwG List.length_cons (rwG e4 rfl)),λi hi=>?_⟩
  ·rcases vI hk with rfl|hk
   ·simpa [mkS]using hl
   ·exact e2 kv hk
  ·cases i with
   |zero=>exact⟨c,n,mkS r,t,u2,rfl,rfl,o1⟩
   |succ i=>simpa using e5 i (Nat.lt_of_succ_lt_succ hi)
end
section
noncomputable def PlainF(f:Value):Prop:=(∃id,f=.builtin id)∨∃T,f=.type T
theorem callWith_plain{M:Model}{A:Around}{E:Value→Shared→Prop}{s:Shared}{pos:Pos}{f:Value}{first:List Value}{args:List (Bool×Sem Value)}{Q:Value→Shared→Prop}(hf:PlainF f)(hplain:args.any (·.1)=false)
  (h:wpAny M A (spliced args) (λvs s₁=>wpAny M A (call f (first++vs) []) Q E s₁) E s):wpAny M A (callWith pos f first args []) Q E s:=by
 rcases hf with⟨id,rfl⟩|⟨T,rfl⟩
 ·exact callWith_builtin hplain (evalArgs_all hplain h)
 ·exact PyProof.Rows.callWith_type hplain (evalArgs_all hplain h)
section
variable{X:Fix}(O:FixOK X){d:Nat}{L:Lvl}(H:LvOK X d L){A:Around}{fe:Env}{outer:List Env}{F:Addr}{c:Env}{ρ:Fr}{g:GW}{σ:Sto}{s:Shared}{kx:KX}
include O H
theorem args_plain(am:Amb X d A fe outer F c)(w:Wh X ρ c (fe::outer) g σ s){f:Value}{first:List Value}{es:List Expr}{pos:Pos}{k:List PV→Sto→Bool}{Q:Value→Shared→Prop}(hf:PlainF f)
  (hs:es.all noStar=true) (h:evs L es ρ σ k kx=true)
  (hc:∀vs g₁ σ₁ s₁ ps,To X noS (fe::outer) g s g₁ s₁→HR X g₁ σ₁ s₁.heap→RepL X g₁ vs ps→k ps σ₁=true→wpAny (model X.prog X.w) A (call f (first++vs)) Q (PX X noS (fe::outer) F g s kx) s₁) :
  wpAny (model X.prog X.w) A (callWith pos f first (backTo pos (starEach es c)) []) Q (PX X noS (fe::outer) F g s kx) s:=by
 have hp:=(starEach_plain (c:=c) (pos:=pos) hs).1
 exact callWith_plain hf hp (vgoL (evs_ok H am pos es w k h) λvs g₁ σ₁ s₁ t R₁ ps rp hk=>hc vs g₁ σ₁ s₁ ps t R₁ rp hk)
theorem blt_call{cx:Cx}(hT:cx.T=X.T)(am:Amb X d A fe outer F c)(w:Wh X ρ c (fe::outer) g σ s){x:Str}{p pos:Pos}{b:String}{v:Value}{es:List Expr}{k:List PV→Sto→Bool}{Q:Value→Shared→Prop}
  (hb:isBlt cx x ρ b=true) (hv:bootBuiltins (Str.ofString b)=some v) (hn:(Str.ofString b==("__debug__":Str))=false∧Str.ofString b≠"__name__") (hf:PlainF v) (hs:es.all noStar=true) (h:evs L es ρ σ k kx=true)
  (hc:∀vs g₁ σ₁ s₁ ps,To X noS (fe::outer) g s g₁ s₁→HR X g₁ σ₁ s₁.heap→RepL X g₁ vs ps→k ps σ₁=true→wpAny (model X.prog X.w) A (call v vs) Q (PX X noS (fe::outer) F g s kx) s₁) :
  wpAny (model X.prog X.w) A (eval (.Call (.Name x p) es [] pos) c) Q (PX X noS (fe::outer) F g s kx) s:=
 PyProof.Rows.Call_Name rfl (blt_ok O hT w hb hv hn (args_plain O H (first:=[]) am w hf hs h λvs g₁ σ₁ s₁ ps t R₁ rp hk=>hc vs g₁ σ₁ s₁ ps t R₁ rp hk))
omit O H in
theorem rep2{g:GW}{vs:List Value}{p q:PV}(r:RepL X g vs [p,q]):∃v u,vs=[v,u]∧RepV X g v p∧RepV X g u q:=r.two
omit H in
theorem len_ok{l:List Env}{S:Addr→Prop}(R:HR X g σ s.heap){p:PV}{v:Value}{n:Nat}{k:KV}(r:RepV X g v p)(h:lenP σ p=some n)(hk:k (.int n) σ=true){E:Value→Shared→Prop} :
  wpAny (model X.prog X.w) A (call (.builtin "len") [v]) (VG X S l g s (RV X k)) E s:=by
 cases p with
 |tup xs=>
  refine ifB h nS ?_;clear h;intro hl h
  refine someI h ?_;clear h;intro hx;subst hx
  refine x2_3 (RepV.isTuple R r) λa vs he2=>?_;refine rwG he2 ?_;clear he2;intro ht q
  have l1:=q.length
  rw[vH]at l1
  have:=okL_le hl
  refine PyProof.Rows.len_tuple ht (by(with_reducible exact Internal.ar26 (by assumption) (by assumption))) ?_
  refine rwG l1 ?_;exact vg_val O R (.int _ _) hk _
 |lst i=>
  refine ifE' h nS ?_;clear h;intro xs e h;refine ifB h nS ?_;clear h;intro hl h
  refine someI h ?_;clear h;intro hx;subst hx
  refine x2_5 (RepV.isList R r (gtS e)) λa vs he2=>?_;refine rwG he2 ?_;clear he2;intro zz ht q zz
  have l1:=q.length
  rw[vH]at l1
  have:=okL_le hl
  refine PyProof.Rows.len_list ht (by(with_reducible exact Internal.ar26 (by assumption) (by assumption))) ?_
  refine rwG l1 ?_;exact vg_val O R (.int _ _) hk _
 |_=>exact absN h
omit O H in
theorem allP_ok{g:GW}:∀{vs:List Value} {xs:List PV} {b:Bool},RepL X g vs xs→allP xs=some b→∃bs:List Bool,vs=bs.map Value.bool∧bs.all id=b
 |_,[],_,q,h=>by refine rwG q.i0 ?_;refine someI h ?_;clear h;intro hx;subst hx;exact⟨[],rfl,rfl⟩
 |_,p::ps,b,q,h=>by
  refine x2_3 q.i1 λv vs he2=>?_;refine rwG he2 ?_;clear he2;intro a q'
  cases p with
  |bool c=>
   dsimp only[allP]at h
   split at h
   ·rename_i b' e
    refine someI h ?_;clear h;intro hx;subst hx
    refine x1_2 (allP_ok q' e) λbs he1=>?_;refine rwG he1 ?_;clear he1;intro e2
    refine rwG a.iB ?_
    exact⟨c::bs,rfl,by refine rwG List.all_cons (rwG e2 ?_);rfl⟩
   ·exact absN h
  |_=>exact absN h
omit H in
theorem kept_end{α:Type}{l:List Env}{S:Addr→Prop}(R:HR X g σ s.heap){h':Heap}{tk:Nat}{RR:α→GW→Sto→Heap→Prop}{a:α}(hk:∀b o,s.heap.get? b=some o→h'.get? b=some o)(hs:s.heap.objs.size≤h'.objs.size)(r:RR a g σ h') :
  VG X S l g s RR a { s with heap:=h',toks:=tk }:=
 ⟨g,σ,⟨Stp.heap hs λb o e zz zz zz=>hk b o e,rfl,rfl⟩,R.heap λb o e zz=>hk b o e,r⟩
omit H in
theorem all_ok{l:List Env}{S:Addr→Prop}(hh:A.handled=none)(R:HR X g σ s.heap){i:Nat}{xs:List PV}{v:Value}{b:Bool}{k:KV}(r:RepV X g v (.lst i))(e:σ[i]?=some xs)(h:allP xs=some b)(hk:k (.bool b) σ=true){E:Value→Shared→Prop} :
  wpAny (model X.prog X.w) A (call (.builtin "all") [v]) (VG X S l g s (RV X k)) E s:=by
 refine x2_5 (RepV.isList R r e) λa vs he2=>?_;refine rwG he2 ?_;clear he2;intro zz hl q hq6;refine x1_1 hq6 λn ho=>?_
 have hlt:a<s.heap.objs.size:=Heap.lt_size ho
 refine x1_2 (allP_ok q h) λbs hbs hall=>?_
 refine wpAny_mono (wpAny_sized (Q:=λv s'=>∃h' tk,v=.bool b∧s' = { s with heap:=h',toks:=tk }∧∀b o,s.heap.get? b=some o→h'.get? b=some o) (E:=E) (call_all_walk (wpAny_pyIter_list hl ?_)))
  (λv s' ⟨⟨h',tk,e1,e2,kp⟩,hs⟩=>?_) λzz zz q=>q.1
 rotate_left
 ·refine rwG e1 ?_;clear e1;subst e2
  exact kept_end O R kp hs ⟨_,.bool b,hk⟩
 refine⟨s.heap.objs.size,[s.heap.objs.size,a],[s.heap.objs.size],vs.size,_,_,λi=>(bs[i]?).getD true,rfl,Walks.list (A:=A.in1) hh _ a (Nat.ne_of_lt hlt) vs,
  ⟨⟨_,Heap.get?_push_size _ rfl,rfl,rfl⟩,hl.push _⟩,λi v s' Q' E' hP hQ=>?_,λh' tk hk'=>?_⟩
 ·have hP':vs.toList[i]?=some v:=by refine rwG (Array.getElem?_toList) ?_;exact hP
  rw[hbs,List.getElem?_map]at hP'
  cases hbi:bs[i]? with
  |none=>rw[hbi]at hP';exact absN hP'
  |some c=>
   rw[hbi]at hP';refine someI hP' ?_;clear hP';intro hx;refine rwS hx ?_;clear hx
   simp only[hbi,Option.getD_some]at hQ
   exact wpAny_truthy_bool hQ
 ·have hsz:vs.size=bs.length:=by rw[←vH,hbs,List.length_map]
  have e2:((List.range vs.size).all λi=>(bs[i]?).getD true)=b:=by
   refine rwS hall (rwG hsz ?_)
   clear hbs hall hsz hk'
   rw[Bool.eq_iff_iff,List.all_eq_true,List.all_eq_true]
   constructor
   ·intro h x hx
    refine x1_1 (List.getElem_of_mem hx) λi hq1=>?_;refine x1_1 hq1 λhi he2=>?_;refine rwS he2 ?_;clear he2
    have:=h i (List.mem_range.mpr hi)
    simpa [hi]using this
   ·intro h i hi
    have hi':=List.mem_range.mp hi
    have:=h bs[i] (List.getElem_mem hi')
    simpa [hi']using this
  refine rwG e2 ?_
  have kp:∀b o,s.heap.get? b=some o→h'.get? b=some o:=λb x e=>hk' b x (λhm=>by rw[vM hm]at e;exact Nat.lt_irrefl _ (Heap.lt_size e)) (Heap.get?_push_of_some _ e)
  exact⟨h',tk,rfl,rfl,kp⟩
omit H in
theorem listOf_ok{l:List Env}{S:Addr→Prop}(R:HR X g σ s.heap){xs:List PV}{v:Value}{k:KV}(r:RepV X g v (.tup xs))(hl:okL xs=true)(hk:k (.lst σ.length) (σ++[xs])=true){E:Value→Shared→Prop} :
  wpAny (model X.prog X.w) A (call (.type "list") [v]) (VG X S l g s (RV X k)) E s:=by
 refine x2_3 (RepV.isTuple R r) λa vs he2=>?_;refine rwG he2 ?_;clear he2;intro ho1 q;refine x1_3 ho1 λo ho hc hq3=>?_;refine x1_1 hq3 λn hd=>?_;clear ho1
 have l1:=q.length
 rw[vH]at l1
 have:=okL_le hl
 refine wpAny_mono (wpAny_sized (Q:=λv s'=>∃h' c',v=.ref s.heap.objs.size∧s' = { s with heap:=h' }∧(∀b o,s.heap.get? b=some o→h'.get? b=some o)∧h'.get? s.heap.objs.size=some { cls:=.type "list",data:=.seq vs c' }) (E:=E)
  (call_list_seq a (.inr rfl) ho hc hd (λh' c' hk hD=>⟨h',c',rfl,rfl,hk,hD⟩) (by refine rwG sizeLine_eq ?_;(with_reducible exact Internal.ar17 (by assumption) (by assumption))))) (λv s' hz2=>?_) λzz zz q=>q.1
 refine x0_2 hz2 λho2 hs=>?_;clear hz2;refine x2_4 ho2 λh' c' e1 e2 kp hD=>?_;clear ho2
 subst e1;subst e2
 have R':HR X g σ h':=R.heap λb o e zz=>kp b o e
 refine x0_3 (R.fresh (vD s.heap.objs.size)) λn1 n2 n3=>?_
 refine x0_2 (R'.newList (a:=s.heap.objs.size) (vs:=vs) (xs:=xs) ⟨c',hD⟩ q n1 n2 n3) λR'' r''=>?_
 exact⟨_,_,⟨(Stp.heap hs λb o e zz zz zz=>kp b o e).newList (vD _),rfl,rfl⟩,R'',_,r'',hk⟩
noncomputable def CallB(X:Fix)(f:Value)(run:List PV→Sto→KV→Bool):Prop:=∀{A:Around} {g:GW} {σ:Sto} {s:Shared} {l:List Env} {E:Value→Shared→Prop} {vs:List Value} {ps:List PV} {k:KV},A.handled=none→HR X g σ s.heap→RepL X g vs ps→run ps σ k=true →
 wpAny (model X.prog X.w) A (call f vs) (VG X noS l g s (RV X k)) E s
structure BltG(X:Fix)(b:String×(List PV→Sto→KV→Bool))(v:Value):Prop where
 boot:bootBuiltins (Str.ofString b.1)=some v
 name:(Str.ofString b.1==("__debug__":Str))=false∧Str.ofString b.1≠"__name__"
 plain:PlainF v
 call:CallB X v b.2
noncomputable def BltL(X:Fix):List (String×(List PV→Sto→KV→Bool))→Prop
 | []=>True
 |b::r=>(∃v,BltG X b v)∧BltL X r
omit H in
theorem b_len:BltG X ("len",blLen) (.builtin "len"):=⟨boot_len,by decide,.inl ⟨_,rfl⟩,λhh R rp h=>by
  revert rp
  refine oneE h fT λp h rp=>ifE' h fT λn hn h=>?_
  refine x1_2 rp.one λv he1=>?_;refine rwG he1 ?_;clear he1;intro r
  exact len_ok O R r hn h⟩
omit H in
theorem b_str:BltG X ("str",blStr) (.type "str"):=⟨PyProof.Rows.boot_str,by decide,.inr ⟨_,rfl⟩,λ{A g σ s l E vs ps k} hh R rp h=>by
  revert rp
  refine oneE h fT λp h rp=>?_
  refine x1_2 rp.one λv he1=>?_;refine rwG he1 ?_;clear he1;intro r
  cases p with
  |int i=>
   refine ifB h fT λhn h=>band2 hn λhn hlit=>?_
   refine x1_1 r.iI λzz he1=>?_;refine rwG he1 ?_;clear he1
   refine P.str_of_int ?_ (vg_str O R (r:=intText i) (by refine rwG (den_lit hlit) ?_;exact(mkS_toList _).symm) h _ _)
   have hn':i.natAbs<1000000:=vA hn
   by_cases h0:i.natAbs=0
   ·refine rwG h0 ?_;decide
   ·exact Nat.lt_of_lt_of_le (Nat.log2_lt h0 |>.mpr (Nat.lt_of_lt_of_le hn' (by decide:1000000≤2 ^ 20))) (vA rfl)
  |str r0=>refine x1_1 r.iS λt he1=>?_;subst he1;exact P.str_of_str (vg_val O R r h s.toks)
  |none=>refine rwG r.iN ?_;exact P.str_of_none (vg_str O R (r:=[78,111,110,101]) (by rw[den_lit rfl];decide +kernel) h _ _)
  |_=>exact absF h⟩
omit H in
theorem b_chr:BltG X ("chr",blChr) (.builtin "chr"):=⟨PyProof.Rows.boot_chr,by decide,.inl ⟨_,rfl⟩,λhh R rp h=>by
  revert rp
  refine oneE h fT λp h=>pintE h fT λi h rp=>ifB h fT λhn h=>band2 hn λh1 h2=>?_
  refine x1_2 rp.one λv he1=>?_;refine rwG he1 ?_;clear he1;intro r
  refine x1_1 r.iI λzz he1=>?_;refine rwG he1 ?_;clear he1
  have h1:=of_decide_eq_true h1
  have h2:i.toNat<128:=vA h2
  refine PyProof.Rows.chr_of_range h1 (by lia) (vg_str O R (r:=[i.toNat]) ?_ h _ _)
  rw[den_lit (show litR [i.toNat]=true from List.all_eq_true.mpr λc hc=>by
   refine rwG (vM hc) ?_
   exact Nat.ble_eq_true_of_le (Nat.lt_of_lt_of_le h2 (vA rfl)))];rfl⟩
omit H in
theorem b_tup:BltG X ("tuple",blTup) (.type "tuple"):=⟨PyProof.Rows.boot_tuple,by decide,.inr ⟨_,rfl⟩,λ{A g σ s l E vs ps k} hh R rp h=>by
  revert rp
  refine oneE h fT λp h=>plstE h fT λi h rp=>ifE' h fT λxs e h=>ifB h fT λhl h=>?_
  refine x1_2 rp.one λv he1=>?_;refine rwG he1 ?_;clear he1;intro r
  refine x2_5 (RepV.isList R r (gtS e)) λa us he2=>?_;refine rwG he2 ?_;clear he2;intro zz ht q zz
  have l1:=q.length
  rw[vH]at l1
  have:=okL_le hl
  refine x1_3 ht λo ho hc hq3=>?_;refine x1_1 hq3 λn hd=>?_;clear ht
  refine callType_new PySem.F.called_tuple rfl (PySem.F.typeCall_tuple_1 _) (PySem.F.newCall_tuple_1 _) (λobj=>PySem.F.args_object_init_2 obj _) PySem.F.entry_tuple_new (tuple_of_list a o us n hc hd (by refine rwG sizeLine_eq ?_;lia)) ⟨ho,λh' kp hs=>⟨⟨_,Heap.get?_push_size _ rfl,rfl⟩,?_⟩⟩
  have R':HR X g σ h':=R.heap λb o e zz=>kp b o e
  exact VG.base (s₁:={ s with heap:=h' }) ⟨Stp.heap hs λb o e zz zz zz=>kp b o e,rfl,rfl⟩ (new_tuple O (s:={ s with heap:=h' }) R' (vs:=us) (ps:=xs) (k:=k) q h s.toks)⟩
omit H in
theorem b_dict:BltG X ("dict",blDict) (.type "dict"):=⟨PyProof.Rows.boot_dict,by decide,.inr ⟨_,rfl⟩,λ{A g σ s l E vs ps k} hh R rp h=>by
  revert rp
  refine oneE h fT λp h=>ptupE h fT λxs h rp=>ifE' h fT λz hz h=>ifB h fT λhc h=>band2 hc λh1 h2=>?_
  refine x1_2 rp.one λv he1=>?_;refine rwG he1 ?_;clear he1;intro r
  refine x3_3 r.iT λa us n he3=>?_;refine rwG he3 ?_;clear he3;intro e q
  refine x1_5 (unPairs_ok q hz) λkvs e1 e2 e3 e4 e5=>?_
  have hlen:kvs.length≤15:=by refine rwS e4 (rwG q.length ?_);exact vA h1
  rw[e1]at h2
  have hnd:=distinct_nodup e2 h2
  rw[vH]at e4
  refine x0_3 (R.fresh (vD s.heap.objs.size)) λn1 n2 n3=>?_
  refine call_dict_pairs hh (R.frz _ _ e) e4 (λi hi=>?_) hnd hlen λh' tk hd' kp=>?_
  ·refine x3_1 (e5 i (by refine rwG vH ?_;exact hi)) λp n x hq3=>?_;refine x2_3 hq3 λt v f1 f2 f3=>?_
   exact⟨p,n,x,t,v,by refine rwS (Array.getElem?_toList) ?_;exact f1,f2,R.frz _ _ f3⟩
  ·refine x1_2 (Heap.dictOf_iff.mp hd') λo hoo hdo=>?_
   have R':HR X g σ h':=R.heap λb ob e zz=>kp b ob e
   have hlt:=Heap.lt_size hoo
   refine⟨⟨λb=>if b=s.heap.objs.size then some o else g.Γ b,g.la⟩,σ,⟨(Stp.heap (Nat.le_of_lt hlt) λb ob e zz zz zz=>kp b ob e).freeze (vD _) n1,rfl,rfl⟩,R'.freeze hoo n2 n3 n1,.dct z.1 z.2,?_,h⟩
   refine .dct (kvs:=kvs) (o:=o) (by simp) hdo ?_ e1 e2 (repL_mono (GExt.new n1) e3)
   refine x2_3 (glob_ns O R) λzz zz zz hg zz=>?_
   have hlt:=hg.lt
   have:sysModules<mainGlobals:=by decide
   rw[beq_eq_false_iff_ne]
   intro e
   rw[←e]at this
   exact Nat.lt_irrefl _ (Nat.lt_trans this hlt)⟩
omit H in
theorem b_abs:BltG X ("abs",blAbs) (.builtin "abs"):=⟨PyProof.Rows.boot_abs,by decide,.inl ⟨_,rfl⟩,λhh R rp h=>by
  revert rp
  refine oneE h fT λp h=>pintE h fT λi h rp=>?_
  refine x1_2 rp.one λv he1=>?_;refine rwG he1 ?_;clear he1;intro r
  refine x1_1 r.iI λzz he1=>?_;refine rwG he1 ?_;clear he1
  refine PyProof.Rows.call_abs_int λu tk=>?_
  have e:(if i<0 then -i else i)=((i.natAbs:Nat):Int):=by split <;> lia
  refine rwG e ?_;exact vg_val O R (.int _ _) h _⟩
omit H in
theorem b_all:BltG X ("all",blAll) (.builtin "all"):=⟨PyProof.Rows.boot_all,by decide,.inl ⟨_,rfl⟩,λhh R rp h=>by
  revert rp
  refine oneE h fT λp h=>plstE h fT λi h rp=>ifE' h fT λxs e h=>ifE' h fT λb hb h=>?_
  refine x1_2 rp.one λv he1=>?_;refine rwG he1 ?_;clear he1;intro r
  exact all_ok O hh R r (gtS e) hb h⟩
omit H in
theorem b_list:BltG X ("list",blList) (.type "list"):=⟨PyProof.Rows.boot_list,by decide,.inr ⟨_,rfl⟩,λhh R rp h=>by
  revert rp
  refine oneE h fT λp h=>ptupE h fT λxs h rp=>ifB h fT λhl h=>?_
  refine x1_2 rp.one λv he1=>?_;refine rwG he1 ?_;clear he1;intro r
  exact listOf_ok O R r hl h⟩
omit H in
theorem b_int:BltG X ("int",blInt) (.type "int"):=⟨PyProof.Rows.boot_int,by decide,.inr ⟨_,rfl⟩,λ{A g σ s l E vs ps k} hh R rp h=>by
  revert rp
  refine oneE h fT λp h rp=>?_
  refine x1_2 rp.one λv he1=>?_;refine rwG he1 ?_;clear he1;intro r
  cases p with
  |int i=>refine x1_1 r.iI λzz he1=>?_;refine rwG he1 ?_;clear he1;exact call_int_int (vg_val O R (.int _ _) h s.toks)
  |bool b=>refine rwG r.iB ?_;exact call_int_bool (vg_val O R (.int _ _) h _)
  |_=>exact absF h⟩
omit H in
theorem b_dm:BltG X ("divmod",blDm) (.builtin "divmod"):=⟨PyProof.Rows.boot_divmod,by decide,.inl ⟨_,rfl⟩,λ{A g σ s l E vs ps k} hh R rp h=>by
  revert rp
  refine twoE h fT λp q h rp=>?_
  refine x2_3 rp.two λv u he2=>?_;refine rwG he2 ?_;clear he2;intro r1 r2
  refine x4_3 (arI_ok O R h r1 r2) λa b t t' he4=>?_;refine rwG he4 ?_;clear he4;intro he5;refine rwG he5 ?_;clear he5;intro h
  refine ifB h fT λhp h=>band2 hp λh1 h2=>?_
  have h1':=of_decide_eq_true h1
  refine PyProof.Rows.divmod_int (by(with_reducible exact Internal.ar25 (by assumption))) ?_ (.inl (PyProof.noPylong_small (vA h2)))
  exact new_tuple O R (vs:=#[.int (a.fdiv b) s.toks,.int (a.fmod b) (s.toks+1)]) (.cons (.int _ _) (.cons (.int _ _) .nil)) h _⟩
theorem bltG_ok{cx:Cx}(hT:cx.T=X.T)(am:Amb X d A fe outer F c)(w:Wh X ρ c (fe::outer) g σ s){f:Str}{p pos:Pos}{es:List Expr}{k:KV}(hs:es.all noStar=true){l:List (String×(List PV→Sto→KV→Bool))}(hl:BltL X l)(h:bltG cx L f es ρ σ k kx l=true) :
  wpAny (model X.prog X.w) A (eval (.Call (.Name f p) es [] pos) c) (VG X noS (fe::outer) g s (RV X k)) (PX X noS (fe::outer) F g s kx) s:=by
 induction l with
 |nil=>exact absF h
 |cons b r ih=>
  refine x0_2 hl λho3 hl=>?_;refine x1_1 ho3 λv G=>?_;clear ho3
  refine iteS h (λhb h=>?_) (λzz h=>ih hl h)
  exact blt_call O H hT am w hb G.boot G.name G.plain hs h λvs g₁ σ₁ s₁ ps t R₁ rp hk=>vre t (G.call am.hd R₁ rp hk)
theorem bltP_ok{cx:Cx}(hT:cx.T=X.T)(am:Amb X d A fe outer F c)(w:Wh X ρ c (fe::outer) g σ s){f:Str}{p pos:Pos}{es:List Expr}{k:KV}(hs:es.all noStar=true)(h:bltP cx L f es ρ σ k kx=true) :
  wpAny (model X.prog X.w) A (eval (.Call (.Name f p) es [] pos) c) (VG X noS (fe::outer) g s (RV X k)) (PX X noS (fe::outer) F g s kx) s:=
 bltG_ok O H hT am w hs (l:=blts) ⟨⟨_,b_len O⟩,⟨_,b_str O⟩,⟨_,b_abs O⟩,⟨_,b_all O⟩,⟨_,b_list O⟩,⟨_,b_int O⟩,⟨_,b_dm O⟩,⟨_,b_tup O⟩,⟨_,b_chr O⟩,⟨_,b_dict O⟩,trivial⟩ h
end
end
section
theorem lri_nolen:typeLookup (.type "list_reverseiterator") "__len__"=pure none:=by rw[typeLookup_type,builtinLookup_eq_fast];kernel_rfl
theorem lri_hint:typeLookup (.type "list_reverseiterator") "__length_hint__"=pure (some (.builtin "list_reverseiterator.__length_hint__")):=by rw[typeLookup_type,builtinLookup_eq_fast];kernel_rfl
section
variable{prog:Program}{w:World}{A:Around}{E:Value→Shared→Prop}{s:Shared}{I:Addr}{fp wr:List Addr}{G:Array GenState→Array GenState→Prop}{n:Nat}{P:Nat→Value→Prop}{St:Nat→Shared→Prop}
theorem lri_hint_false{Q:Bool→Shared→Prop}(hT:s.TypeIs (.ref I) "list_reverseiterator")(h:Q false s):wpAny (model prog w) A (Builtin.List.listLengthHint (.ref I)) Q E s:=by
 unfold Builtin.List.listLengthHint
 refine wpAny_bind (wpAny_specialOf hT lri_nolen ?_)
 show wpAny _ A (specialOf (Value.ref I) (Str.ofString "__length_hint__") >>= _) _ _ _
 refine wpAny_bind (wpAny_specialOf hT lri_hint ?_)
 generalize hid:("list_reverseiterator.__length_hint__":String)=id0
 (fail_if_success (clear hid id0));wp_delta
 rw[show splitId id0=some ("list_reverseiterator","__length_hint__")from by subst hid;decide +kernel]
 subst hid
 refine wpAny_bind (wpAny_isInstance (b:=true) hT (by rw[isSubtype_type];kernel_rfl) ?_)
 exact wpAny_pure h
theorem collect_rev{Q:List Value→Shared→Prop}(W:WalksS prog w A.in1 I fp wr G n P St)(hT:∀i s,St i s→s.TypeIs (.ref I) "list_reverseiterator")(hst:St 0 s)(hfp:∀b∈fp,b<s.heap.objs.size)(hI:I∈fp)
  (hQ:∀s' acc,Moved wr G s s'→ItemsOf P acc n→Q acc.toList s') (hn:n≤sizeLine):wpAny (model prog w) A (collect (.ref I)) Q E s:=by
 have hSf:s.heap.objs.size∉fp:=λhm=>Nat.lt_irrefl _ (hfp _ hm)
 have hSI:s.heap.objs.size≠I:=λe=>hSf (e▸hI)
 have hst₁:=W.frame 0 s (s.heap.push { cls:=.type "list",data:=.seq ([]:List Value).toArray }) s.toks hst (vD _) λb zz o e=>Heap.get?_push_of_some _ e
 have hS₁:(s.heap.push { cls:=.type "list",data:=.seq ([]:List Value).toArray }).get? s.heap.objs.size=some { cls:=.type "list",data:=.seq ([]:List Value).toArray }:=Heap.get?_push_size _ rfl
 have h1:Builtin.List.listSameRef (.ref s.heap.objs.size) (.ref I)=false:=by simp[Builtin.List.listSameRef,hSI]
 unfold collect
 refine wpAny_bind (wpAny_runValue (codeAny_builtin F.entry_proto_collect ?_))
 rw[Around.under_plainId F.plain_proto_collect _]
 show wpAny _ A.in1 (newList [] >>= λl=>again (.builtin "list.__iadd__" ⟨[l,.ref I],[]⟩)) _ _ s
 refine wpAny_bind (wpAny_newObj_type ?_)
 refine wpAny_pure ⟨plainId_quiet F.plain_list_iadd _,codeAny_builtin F.entry_list_iadd ?_⟩
 rw[Around.under_plainId F.plain_list_iadd _]
 show wpAny _ A.in1 (Builtin.List.listExtendWith (.ref s.heap.objs.size) (.ref I) (.ref s.heap.objs.size)) _ _ _
 unfold Builtin.List.listExtendWith
 refine wpAny_bind (wpAny_typeOf (hT 0 _ hst₁) ?_)
 rw[if_neg (by rw[h1];decide)]
 refine wpAny_bind (W.self 0 _ _ _ hst₁ ?_)
 refine wpAny_bind (wpAny_holding (lri_hint_false (hT 0 _ hst₁) ?_))
 rw[if_neg (by decide)]
 refine wpAny_pure ⟨plainId_quiet F.plain_extend_loop _,codeAny_extend_loopS W hn _ hSf _ n 0 _ _ _ rfl (Nat.zero_le _) hst₁ hS₁ (ItemsOf.nil P) λs' acc' c' hm hS' hacc=>?_⟩
 show wpAny _ A (load s.heap.objs.size >>= _) _ _ s'
 refine wpAny_bind (wpAny_load hS' ?_)
 exact wpAny_pure (hQ s' acc' (Moved.drop_new (o:={ cls:=.type "list",data:=.seq ([]:List Value).toArray }) (tk:=s.toks) hm (vD _)) hacc)
theorem join_rev{x:Str}{t:Tok}{Q:Value→Shared→Prop}(W:WalksS prog w A.in1.in1 I fp wr G n P St)(hT:∀i s,St i s→s.TypeIs (.ref I) "list_reverseiterator")(hst:St 0 s)(hfp:∀b∈fp,b<s.heap.objs.size)(hI:I∈fp)
  (hstr:∀i v,P i v→∃y u,v=Value.str y u)
  (hq:∀s' (l:List (Str×Tok)),Moved wr G s s'→ItemsOf P (strValues l).toArray n→JoinOk x (l.map (·.1))=true∧∀t' k,Q (.str (Txt.join x (l.map (·.1))) t') { s' with toks:=k })
  (hsz:n≤sizeLine):wpAny (model prog w) A (call (.builtin "str.join") [.str x t,.ref I]) Q E s:=by
 refine wpAny_call (codeAny_call_builtin F.slot_str_join.plain F.entry_str_join (F.slot_str_join.check _ _ _ _ _ _ _ _ (typeIs_str _ _ _) (F.args_str_join_2 _ _) ?_))
 rw[join_tree_other]
 refine wpAny_bind (wpAny_typeOf (hT 0 s hst) ?_)
 show wpAny _ A.in1 ((pyIter (.ref I)).tryCatch _ >>= λit=>collect it >>= λitems=>joinTail x items) _ _ s
 refine wpAny_bind (wpAny_tryCatch (W.of_in1.self 0 s _ _ hst ?_))
 refine wpAny_bind (collect_rev W hT hst hfp hI (λs' acc hm hacc=>?_) hsz)
 obtain⟨l,hl⟩:=exists_strValues acc.toList λv hv=>by
  refine x1_1 (Array.mem_iff_getElem.mp (Array.mem_toList_iff.mp hv)) λj hq1=>?_;refine x1_1 hq1 λhj he2=>?_;subst he2
  exact hstr j _ (hacc.2 j _ (Array.getElem?_eq_getElem hj))
 rw[←hl]
 have hacc':ItemsOf P (strValues l).toArray n:=by rw[hl];simpa using hacc
 refine x0_2 (hq s' l hm hacc') λhok hpost=>?_
 unfold JoinOk at hok
 rw[Bool.not_eq_true']at hok
 have g:Gives (joinTail x (strValues l)) (joinMade x l):=by
  have g0:=gives_joinTail x l hok
  cases l with
  |nil=>exact g0
  |cons p r=>cases r <;> exact g0
 exact g prog w A (wants Q E) s' (post_join l ⟨joinFit_length hok,hpost⟩)
end
section
variable{X:Fix}(O:FixOK X){d:Nat}{L:Lvl}(H:LvOK X d L){A:Around}{fe:Env}{outer:List Env}{F:Addr}{c:Env}{ρ:Fr}{g:GW}{σ:Sto}{s:Shared}{kx:KX}
include O H
omit O H in
theorem strsOf{l:List (Str×Tok)}{vs:List Value}{ys:List Str}(e:strValues l=vs)(h:StrsAre vs ys):l.map (·.1)=ys:=by
 subst e
 induction l generalizing ys with
 |nil=>exact(@StrsAre.casesOn (λvs ys _=>@List.casesOn Value (λ_=>Prop) vs (ys=[]) λ_ _=>True) _ _ h rfl λ_ _ _ _ _=>trivial:ys=[]).symm
 |cons yt l ih=>
  refine x1_2 (@StrsAre.casesOn (λvs ys _=>@List.casesOn Value (λ_=>Prop) vs True λv vs=>∃zs,StrsAre vs zs∧∀y t,v=.str y t→ys=y::zs) _ _ h trivial λy t _ _ r=>⟨_,r,λy' t' e=>congrArg (· :: _) (Value.str.inj e).1⟩:∃zs,StrsAre (strValues l) zs∧∀y t,Value.str yt.1 yt.2=.str y t→ys=y::zs) λzs r he=>?_
  exact(congrArg (yt.1 :: ·) (ih r)).trans (he _ _ rfl).symm
omit O H in
theorem strsMem{vs:List Value}{ys:List Str}{v:Value}(q:StrsAre vs ys)(h:v∈vs):∃y u,v=Value.str y u:=by
 induction q with
 |nil=>exact absurd h List.not_mem_nil
 |cons y t r ih=>exact(vI h).elim (λe=>⟨y,t,e⟩) ih
omit H in
set_option tactic.hygienic true in
theorem joinRev_ok{l:List Env}{S:Addr→Prop}(hh:A.handled=none)(R:HR X g σ s.heap){v u:Value}{r0:List Nat}{q0:PV}{k:KV}(rv:RepV X g v (.str r0))(ru:RepV X g u q0)
  (h:(listP q0 σ λzz xs=>ifS false (joinG r0 xs.reverse) λs=>mkR s λs=>k (.str s) σ)=true) {E:Value→Shared→Prop} :
  ∃a vs,u=.ref a∧s.heap.IsList a vs∧wpAny (model X.prog X.w) A (call (.builtin "str.join") [v,.ref s.heap.objs.size]) (VG X S l g s (RV X k)) E { s with heap:=s.heap.push (revObj a ((vs.size:Int)-1)) }:=by
 refine x5_8 (list_facts O R ru h) λi a vs xs n he5=>?_;subst he5;intro he6;subst he6;intro hi e ho q hz h
 refine⟨a,vs,rfl,⟨_,ho,rfl,n,rfl⟩,?_⟩
 revert h;refine ifSR (λ_ _ h=>?_) (λ_ h=>?_)
 ·rename_i z hz'
  dsimp only[mkR]at h
  refine iteS h ?_ ?_ <;> clear h <;> intro _ h
  ·rename_i hl
   refine x1_1 rv.iS λt he1=>?_;subst he1
   have qr:=q.reverse
   refine x1_3 (joinG_ok O qr hz' hl) λys y1 y2 y3=>?_
   have hlt:a<s.heap.objs.size:=Heap.lt_size ho
   have hne:a≠s.heap.objs.size:=Nat.ne_of_lt hlt
   have hL:Heap.IsList (s.heap.push (revObj a ((vs.size:Int)-1))) a vs:=⟨_,Heap.get?_push_of_some _ ho,rfl,n,rfl⟩
   have hit:(s.heap.push (revObj a ((vs.size:Int)-1))).IsRevIter s.heap.objs.size a ((vs.size:Int)-1-((0:Nat):Int)):=⟨_,Heap.get?_push_size _ rfl,rfl,by simp[revObj]⟩
   refine wpAny_mono (wpAny_sized (Q:=λv s'=>∃h' t' k',v=.str (Txt.join (mkS (den X.θ r0)) ys) t'∧s' = { s with heap:=h',toks:=k' }∧∀b o,s.heap.get? b=some o→h'.get? b=some o) (E:=E)
    (join_rev (s:={ s with heap:=s.heap.push (revObj a ((vs.size:Int)-1)) }) (Walks.listRev (A:=A.in1.in1) hh s.heap.objs.size a hne vs).toS (λi s' hs=>hs.2.1.typeIs) ⟨Nat.zero_le _,hit,hL⟩ ?_ (by simp) ?_ ?_ (by rw[sizeLine_eq];(with_reducible exact Internal.ar16 (by assumption))))) (λv s' hz1=>?_) λzz zz q=>q.1
   ·intro b hb
    show b<(s.heap.push _).objs.size
    rw[Heap.size_push]
    simp at hb
    rcases hb with rfl|rfl
    ·exact Nat.lt_succ_self _
    ·exact Nat.lt_succ_of_lt hlt
   ·intro j v hv
    have:v∈vs.toList.reverse:=by rw[List.mem_reverse];exact Array.mem_toList_iff.mpr (Array.mem_of_getElem? hv)
    exact strsMem y1 this
   ·intro s' l' hm hacc
    have hl':strValues l'=vs.toList.reverse:=by
     apply List.ext_getElem?
     intro j
     have hsz:(strValues l').length=vs.size:=by simpa using hacc.1
     by_cases hj:j<vs.size
     ·have h1:=hacc.2 j ((strValues l')[j]'(by(with_reducible exact Internal.ar42 (by assumption) (by assumption)))) (by simp)
      have h1':vs[vs.size-1-j]?=some ((strValues l')[j]'(by(with_reducible exact Internal.ar42 (by assumption) (by assumption)))):=h1
      rw[List.getElem?_eq_getElem (by(with_reducible exact Internal.ar42 (by assumption) (by assumption))),List.getElem?_reverse (by rw[vH];exact hj),Array.getElem?_toList,←h1',vH]
     ·rw[List.getElem?_eq_none (by(with_reducible exact Internal.ar43 (by assumption) (by assumption))),List.getElem?_eq_none (by rw[List.length_reverse,vH];(with_reducible exact Internal.ar44 (by assumption)))]
    have e2:=strsOf hl' y1
    rw[e2]
    refine⟨joinOk_of y3,λt' k'=>⟨s'.heap,t',k',rfl,?_,λb o e=>?_⟩⟩
    ·obtain⟨zz,hg,hd,hos,zz⟩:=hm
     cases s'
     simp only at hg hd hos
     subst hg;subst hd;subst hos
     rfl
    ·exact hm.heap b o (λhb=>by rw[vM hb]at e;exact Nat.lt_irrefl _ (Heap.lt_size e)) (Heap.get?_push_of_some _ e)
   ·refine x0_2 hz1 λho1 hs=>?_;clear hz1;refine x3_3 ho1 λh' t' k' e1 e2 kp=>?_;clear ho1
    subst e1;subst e2
    refine kept_end O R kp (vE ?_ hs) ⟨_,.str t' y2,h⟩
    show s.heap.objs.size≤(s.heap.push _).objs.size
    rw[Heap.size_push];exact Nat.le_succ _
  ·exact absF h
 ·exact absF h
theorem joinRevE_ok{cx:Cx}(hT:cx.T=X.T)(am:Amb X d A fe outer F c)(w:Wh X ρ c (fe::outer) g σ s){o a:Expr}{m:Str}{apos pos:Pos}{args:List Expr}{k:KV}(hg:methGood o apos pos args=true)(hm:methK m=some .join)(hr:revArg cx ρ args=some a)
  (h:L.ev o ρ σ (λp σ=>pstrK false p λr=>L.ev a ρ σ (λq σ=>listP q σ λzz xs=>ifS false (joinG r xs.reverse) λs=>mkR s λs=>k (.str s) σ) kx) kx=true) :
  wpAny (model X.prog X.w) A (eval (.Call (.Attribute o m apos) args [] pos) c) (VG X noS (fe::outer) g s (RV X k)) (PX X noS (fe::outer) F g s kx) s:=by
 unfold revArg at hr
 refine oneE hr nS ?_;clear hr;intro e hr;refine call0E hr nS ?_;clear hr;intro gg as ks pc hr;refine nilE hr nS ?_;clear hr;intro hr;refine nameE hr nS ?_;clear hr;intro f pf hr;refine oneE hr nS ?_;clear hr;intro a' hr;refine ifB hr nS ?_;clear hr;intro hb hr
 obtain rfl:=vC hr;clear hr
 refine band2 hb λhb1 hb2=>?_;clear hb
 unfold methGood at hg
 refine band4 hg λg1 g2 g3 g4=>?_;clear hg
 obtain rfl:=methK_name hm;clear hm
 refine wpAny_Call_method (attributeBase_plain g1) rfl g4 PySem.F.plainAttrs_str PySem.F.slot_str_join PySem.F.type_str_join (vgoV (H.ev am w o _ kx h) λv g₁ σ₁ s₁ t R₁ p rp hk=>?_)
 revert rp
 refine pstrE hk fT ?_;clear hk;intro r0 hk rp
 refine⟨(recv_str rp rfl).1,(recv_str rp rfl).2,?_⟩
 have w₁:=w.step t R₁
 have hev:evs L [a'] ρ σ₁ (λps σ=>oneK false ps λq=>listP q σ λzz xs=>ifS false (joinG r0 xs.reverse) λs=>mkR s λs=>k (.str s) σ) kx=true:=by
  exact(if_pos hb2).trans hk
 refine callWith_plain (.inl ⟨_,rfl⟩) rfl (spliced_cons ?_)
 refine vreQ t (blt_call O H hT am w₁ hb1 PyProof.Rows.boot_reversed (by decide) (.inr ⟨_,rfl⟩) (by rw[List.all_cons,hb2];rfl) hev λvs g₂ σ₂ s₂ ps t₂ R₂ rps hk₂=>?_)
 revert rps
 refine oneE hk₂ fT ?_;clear hk₂;intro q hk₂ rps
 refine x1_2 rps.one λu he1=>?_;subst he1;intro ru
 refine x2_3 (joinRev_ok O (l:=fe::outer) (S:=noS) am.hd R₂ (repV_mono t₂.st.gext rp) ru hk₂ (E:=PX X noS (fe::outer) F g s kx)) λb us he2=>?_;subst he2;intro hl hj
 refine call_reversed_list hl (spliced_nil ?_)
 exact wpAny_mono hj (λzz zz q=>(q.base t₂).base t) λzz zz q=>q
noncomputable def RD(X:Fix)(k:List PV→List PV→Sto→Bool):List (Value×Value)→GW→Sto→Heap→Prop:=λvs g σ _=>
 ∃kvs qs,Carries (PySem.strKind X.prog X.w) vs kvs∧(∀kv∈kvs,litR kv.1.cps.toList=true)∧RepL X g (kvs.map (·.2)) qs∧k (kvs.map λkv=>PV.str kv.1.cps.toList) qs σ=true
omit O in
set_option tactic.hygienic true in
theorem pairs_ok(am:Amb X d A fe outer F c)(pos:Pos):∀(ks:List (Option Expr)) (vs:List Expr),ks.length=vs.length→ks.all (·.isSome)=true→∀{g σ s} (_:Wh X ρ c (fe::outer) g σ s) (k:List PV→List PV→Sto→Bool),evDict L ks vs ρ σ k kx=true →
   wpAny (model X.prog X.w) A (evalPairs (pairTrees ks vs c pos)) (VG X noS (fe::outer) g s (RD X k)) (PX X noS (fe::outer) F g s kx) s:=by
 intro ks
 induction ks with
 |nil=>
  intro vs hl _ g σ s w k h
  cases vs with
  |cons=>exact nomatch hl
  |nil=>exact evalPairs_nil ⟨g,σ,To.refl,w.R,[],[],trivial,(λzz h=>(List.not_mem_nil h).elim),RepL.nil,h⟩
 |cons e ks ih=>
  intro vs hl ha g σ s w k h
  cases vs with
  |nil=>exact nomatch hl
  |cons v vs=>
  cases e with
  |none=>exact absF ha
  |some e=>
  refine evalPairs_cons (vgoV (H.ev am w e _ kx h) λkv g₁ σ₁ s₁ t R₁ p rp hk=>?_)
  have w₁:=w.step t R₁
  refine iteS hk ?_ ?_ <;> clear hk <;> intro _ hk
  ·rename_i hlit
   refine wpAny_bind (vreQ t (vgoV (H.ev am w₁ v _ kx hk) λvv g₂ σ₂ s₂ t₂ R₂ q rq hk₂=>?_))
   have w₂:=w₁.step t₂ R₂
   refine wpAny_bind (wpAny_standAt (wpAny_pure ?_))
   refine wpAny_mono (ih vs (Nat.succ.inj hl) ha w₂ _ hk₂) (λws s₃ hz2=>?_) λzz zz q=>(q.base t₂).base t
   obtain⟨g₃,σ₃,t₃,R₃,kvs,qs,c1,c2,c3,c4⟩:=hz2
   cases p with
   |str r0=>
    refine x1_1 rp.iS λtk he1=>?_;subst he1
    have hl0:litR r0=true:=hlit
    refine⟨g₃,σ₃,(t.trans t₂).trans t₃,R₃,(mkS r0,vv)::kvs,q::qs,⟨?_,rfl,c1⟩,λkv hkv=>?_,?_,c4⟩
    ·rw[den_lit hl0];exact strKind_is _ _ _ _
    ·rcases vI hkv with rfl|hkv
     ·exact hl0
     ·exact c2 kv hkv
    ·exact .cons (repV_mono t₃.st.gext rq) c3
   |_=>exact absF hlit
  ·exact absF hk
set_option tactic.hygienic true in
theorem dict_ok(am:Amb X d A fe outer F c)(w:Wh X ρ c (fe::outer) g σ s){ks:List (Option Expr)}{vs:List Expr}{pos:Pos}{k:KV}(hn:(Nat.blt 0 ks.length&&Nat.ble ks.length 15&&ks.all (·.isSome)&&Nat.beq ks.length vs.length)=true)
  (h:evDict L ks vs ρ σ (λps qs σ=>if distinctK σ ps then k (.dct ps qs) σ else false) kx=true) :
  wpAny (model X.prog X.w) A (eval (.Dict ks vs pos) c) (VG X noS (fe::outer) g s (RV X k)) (PX X noS (fe::outer) F g s kx) s:=by
 refine band4 hn λn1 n2 n3 n4=>?_;clear hn
 have n4':=vB n4
 have n2':=vA n2
 have n1':0<ks.length:=by simpa using n1
 have hpl:=pairTrees_length ks vs c pos n3 n4'
 refine wpAny_Dict_pairs (knd:=PySem.strKind X.prog X.w) (zip_pairTrees ks vs c pos n3 n4') (λe=>by rw[e]at hpl;simp at hpl;lia) (by rw[hpl];exact n2') ?_
 refine x0_6 (vg_new O w.R (l:=fe::outer) (S:=noS) (o:={ cls:=.type "dict",data:=.dict #[] }) rfl) λt0 R0 ho f1 f2 f3=>?_
 have w0:Wh X ρ c (fe::outer) g σ { s with heap:=s.heap.push { cls:=.type "dict",data:=.dict #[] } }:=w.step t0 R0
 refine vreQ t0 (vgo (pairs_ok H am pos ks vs n4' n3 w0 _ h) λws g₁ σ₁ s₁ t R₁ ⟨kvs,qs,c1,c2,c3,c4⟩=>?_)
 dsimp only at c4
 refine iteS c4 ?_ ?_ <;> clear c4 <;> intro _ c4
 ·rename_i hdis
  have hnd:=distinct_nodup c2 hdis
  have hDF:s.heap.objs.size∉fsOf (fe::outer):=λhm=>by
   refine x0_4 (w.fs.mem hm) λzz zz zz hq3=>?_;refine x1_2 hq3 λo hoo zz=>?_
   exact absurd (Heap.lt_size hoo) (Nat.lt_irrefl _)
  have hD:s₁.heap.get? s.heap.objs.size=some { cls:=.type "dict",data:=.dict #[] }:=by
   refine x1_2 (t.st.keep _ _ ho (λq=>q) f2 f3) λo' e1 e2=>?_
   rcases e2 with rfl|⟨hm,zz⟩
   ·exact e1
   ·exact absurd hm hDF
  refine x0_2 (t.st.fresh ho f1 f2) λg1 g2=>?_
  refine⟨kvs,c1,⟨_,#[],0,hD,⟨rfl,rfl,rfl⟩,rfl,(λe he=>by simp at he),.nil,List.nodup_nil⟩,λh' hd' hs'=>?_⟩
  rw[merged_nil_of_nodup kvs hnd]at hd'
  refine x1_2 (Heap.dictOf_iff.mp hd') λo hoo hdo=>?_
  have R':HR X g₁ σ₁ h':=R₁.heap λb ob e q=>(hs'.2 b (neW g1 g2 f3 q)).trans e
  have tt:=t0.trans t
  refine⟨⟨λb=>if b=s.heap.objs.size then some o else g₁.Γ b,g₁.la⟩,σ₁,⟨?_,tt.gens,tt.os⟩,R'.freeze hoo g2 f3 g1,.dct _ qs,?_,c4⟩
  ·refine(tt.st.trans' (S':=λb=>b=s.heap.objs.size) (Stp.heap (Nat.le_of_eq hs'.1.symm) λb ob e n zz zz=>(hs'.2 b n).trans e) λb hb=>.inr (Nat.le_of_eq hb.symm)).freeze (vD _) g1
  ·refine .dct (kvs:=kvs) (o:=o) (by simp) hdo ?_ rfl c2 (repL_mono ?_ c3)
   ·refine x2_3 (glob_ns O w.R) λzz zz zz hg zz=>?_
    have hlt:=hg.lt
    have:sysModules<mainGlobals:=by decide
    rw[beq_eq_false_iff_ne]
    intro e
    rw[←e]at this
    exact Nat.lt_irrefl _ (Nat.lt_trans this hlt)
   ·exact GExt.new g1
 ·exact absF c4
end
end
section
section
variable{prog:Program}{w:World}{A:Around}{E:Value→Shared→Prop}{s:Shared}
theorem nextOf_tuple{it t:Addr}{i:Nat}{items:Array Value}{x:Value}{Q:Value→Shared→Prop}(hit:s.heap.IsTupleIter it t i)(ht:s.heap.IsTuple t items)(hx:items[i]?=some x)
  (hQ:∀h',h'.IsTupleIter it t (i+1)→Heap.SameBut it s.heap h'→Q x { s with heap:=h' }):wpAny (model prog w) A (Builtin.SmallTypes.nextOf (.ref it)) Q E s:=by
 refine x1_3 (id hit) λo ho hc hd=>?_
 refine x1_3 ht λol hol zz hq3=>?_;refine x1_1 hq3 λnl hdl=>?_;clear ht
 unfold Builtin.SmallTypes.nextOf
 refine wpAny_bind (wpAny_callSpecial?_slot (name:=Str.ofString "__next__") hit.typeIs F.slot_tuple_iterator_next
  (wpAny_call_entry F.slot_tuple_iterator_next hit.typeIs F.entry_tuple_iterator_next ?_ (F.args_tuple_iterator_next_1 _)))
 show wpAny _ _ (field (.ref it) 0 >>= _) _ _ s
 refine wpAny_bind (wpAny_field ho hd (x:=.ref t) rfl ?_)
 show wpAny _ _ (if(Value.ref t==Value.none)=true then _ else _) _ _ s
 rw[if_neg (show¬((Value.ref t==Value.none)=true)from Bool.false_ne_true)]
 show wpAny _ _ (field (.ref it) 1 >>= _) _ _ s
 refine wpAny_bind (wpAny_field ho hd (x:=.int i 0) rfl ?_)
 show wpAny _ _ (seqItems? (.ref t) >>= _) _ _ s
 refine wpAny_bind (wpAny_seqItems hol hdl ?_)
 simp only[Int.toNat_natCast,hx]
 refine wpAny_bind (wpAny_setField ho hd (by simp) (wpAny_pure ⟨x,rfl,wpAny_pure (hQ _ ⟨_,Heap.get?_update_self _ ho (Obj.isFreed_of_fields (Obj.data_mapFields hd _)),(Obj.cls_mapFields ..).trans hc,?_⟩ (Heap.SameBut.update ..))⟩))
 rw[Obj.data_mapFields hd];simp[rawInt]
theorem nextOf_tuple_end{it t:Addr}{i:Nat}{items:Array Value}{Q:Value→Shared→Prop}(hh:A.handled=none)(hit:s.heap.IsTupleIter it t i)(ht:s.heap.IsTuple t items)(hx:items[i]?=none)
  (hE:∀h' e,Heap.ExtBut it s.heap h'→(∃o,h'.get? e=some o∧o.cls=.type "StopIteration")→E (.ref e) { s with heap:=h' }):wpAny (model prog w) A (Builtin.SmallTypes.nextOf (.ref it)) Q E s:=by
 refine x1_3 (id hit) λo ho hc hd=>?_
 refine x1_3 ht λol hol zz hq3=>?_;refine x1_1 hq3 λnl hdl=>?_;clear ht
 unfold Builtin.SmallTypes.nextOf
 refine wpAny_bind (wpAny_callSpecial?_slot (name:=Str.ofString "__next__") hit.typeIs F.slot_tuple_iterator_next
  (wpAny_call_entry F.slot_tuple_iterator_next hit.typeIs F.entry_tuple_iterator_next ?_ (F.args_tuple_iterator_next_1 _)))
 show wpAny _ _ (field (.ref it) 0 >>= _) _ _ s
 refine wpAny_bind (wpAny_field ho hd (x:=.ref t) rfl ?_)
 show wpAny _ _ (if(Value.ref t==Value.none)=true then _ else _) _ _ s
 rw[if_neg (show¬((Value.ref t==Value.none)=true)from Bool.false_ne_true)]
 show wpAny _ _ (field (.ref it) 1 >>= _) _ _ s
 refine wpAny_bind (wpAny_field ho hd (x:=.int i 0) rfl ?_)
 show wpAny _ _ (seqItems? (.ref t) >>= _) _ _ s
 refine wpAny_bind (wpAny_seqItems hol hdl ?_)
 simp only[Int.toNat_natCast,hx]
 refine wpAny_bind (wpAny_rule (wpAny_bind (wpAny_setField ho hd (by simp) ?_)))
 show wpAny _ _ (newExc (.type "StopIteration") [] >>= _) _ _ _
 refine wpAny_bind ?_
 simp only[newExc,newTuple]
 refine wpAny_bind (wpAny_newObj_type ?_ (by size_fits))
 refine wpAny_bind (m:=firstArgMember _ _) (wpAny_of_eq (a:=Value.none) (by first|rfl|(simp only[firstArgMember];rfl)) ?_)
 refine wpAny_newObj_type ?_ (by size_fits)
 simp only[raiseNew]
 refine wpAny_bind (wpAny_handled ?_)
 first|rw[show A.in1.handled=none from hh]|rw[hh]
 refine wpAny_bind (wpAny_pure (wpAny_throw ?_))
 exact hE _ _ (((Heap.SameBut.update ..).extBut.push _).push _) ⟨_,Heap.get?_push_size _ rfl,rfl⟩
structure ZA(z TI TO i1 i2 t1 t2:Addr):Prop where
 TIz:TI≠z
 TOz:TO≠z
 i1z:i1≠z
 i2z:i2≠z
 TITO:TI≠TO
 TIi1:TI≠i1
 TIi2:TI≠i2
 TOi1:TO≠i1
 TOi2:TO≠i2
 i12:i1≠i2
 t1:t1≠z∧t1≠TO∧t1≠i1∧t1≠i2
 t2:t2≠z∧t2≠TO∧t2≠i1∧t2≠i2
theorem IsTuple.ext{h h':Heap}{a b:Addr}{items:Array Value}(x:h.IsTuple a items)(hs:Heap.ExtBut b h h')(hab:a≠b):h'.IsTuple a items:=let ⟨o,ho,r⟩:=x;⟨o,hs a o hab ho,r⟩
theorem zipT_item{z TI TO i1 i2 t1 t2:Addr}{k1 k2:Nat}{xs ys:Array Value}{x y a b:Value}{Q:Option Value→Shared→Prop}(D:ZA z TI TO i1 i2 t1 t2)
  (hz:IsZip s.heap z TI TO .none) (hTI:IsPair s.heap TI (.ref i1) (.ref i2)) (hTO:IsPair s.heap TO a b)
  (h1:s.heap.IsTupleIter i1 t1 k1) (h2:s.heap.IsTupleIter i2 t2 k2) (hl1:s.heap.IsTuple t1 xs) (hl2:s.heap.IsTuple t2 ys) (hx:xs[k1]?=some x) (hy:ys[k2]?=some y)
  (hQ:∀h',IsZip h' z TI TO (rawInt s.heap.objs.size)→IsPair h' TO x y→h'.IsTupleIter i1 t1 (k1+1)→h'.IsTupleIter i2 t2 (k2+1)→IsPair h' s.heap.objs.size x y→h'.objs.size=s.heap.objs.size+1 →
   (∀c o,c≠z→c≠TO→c≠i1→c≠i2→s.heap.get? c=some o→h'.get? c=some o)→Q (some (.ref s.heap.objs.size)) { s with heap:=h' }) :
  wpAny (model prog w) A (pyNext (.ref z)) Q E s:=by
 have hT:s.TypeIs (.ref z) "zip":=⟨_,hz,rfl⟩
 unfold pyNext
 refine wpAny_bind (wpAny_attempt (wpAny_callSpecial?_slot (name:=Str.ofString "__next__") hT F.slot_zip_next (wpAny_call_entry F.slot_zip_next hT F.entry_zip_next ?_ (F.args_zip_next_1 _))))
 show wpAny _ _ (field (.ref z) 2 >>= _) _ _ _
 refine wpAny_bind (wpAny_field hz rfl (x:=.bool false) rfl ?_)
 show wpAny _ _ (field (.ref z) 3 >>= _) _ _ _
 refine wpAny_bind (wpAny_field hz rfl (x:=.ref TI) rfl ?_)
 refine wpAny_bind (wpAny_seqItems hTI rfl ?_)
 show wpAny _ _ (Builtin.SmallTypes.ownedTupleIsFree (.ref z) >>= _) _ _ _
 refine wpAny_bind ?_
 unfold Builtin.SmallTypes.ownedTupleIsFree
 refine wpAny_bind (wpAny_field hz rfl (x:=.none) rfl (wpAny_pure ?_))
 simp only[if_true]
 refine wpAny_bind (wpAny_rule ?_)
 refine wpAny_bind (wpAny_field hz rfl (x:=.ref TO) rfl ?_)
 refine wpAny_bind (wpAny_setField_rec hz (by simp) λhA hzA sA=>?_)
 replace hzA:IsZip hA z TI TO .ellipsis:=hzA
 refine wpAny_bind ?_
 simp only[List.zipIdx_cons,List.zipIdx_nil,List.forIn_cons,List.forIn_nil]
 refine wpAny_bind (wpAny_bind (wpAny_onRaise ?_))
 show wpAny _ _ (Builtin.SmallTypes.nextOf (.ref i1) >>= _) _ _ _
 refine wpAny_bind (nextOf_tuple (h1.extBut sA.extBut D.i1z) (IsTuple.ext hl1 sA.extBut D.t1.1) hx λhB h1B sB=>wpAny_pure ?_)
 have oB:IsPair hB TO a b:=sB.extBut _ _ D.TOi1 (sA.extBut _ _ D.TOz hTO)
 refine wpAny_bind (wpAny_seqItems oB rfl ?_)
 refine wpAny_bind (wpAny_updateSeq_pair oB λhC oC sC=>?_)
 replace oC:IsPair hC TO x b:=oC
 refine wpAny_bind (wpAny_letGo (wpAny_pure ?_))
 refine wpAny_bind (wpAny_bind (wpAny_onRaise ?_))
 show wpAny _ _ (Builtin.SmallTypes.nextOf (.ref i2) >>= _) _ _ _
 refine wpAny_bind (nextOf_tuple (((h2.extBut sA.extBut D.i2z).extBut sB.extBut D.i12.symm).extBut sC.extBut D.TOi2.symm)
  (IsTuple.ext (IsTuple.ext (IsTuple.ext hl2 sA.extBut D.t2.1) sB.extBut D.t2.2.2.1) sC.extBut D.t2.2.1) hy λhD h2D sD=>wpAny_pure ?_)
 have oD:IsPair hD TO x b:=sD.extBut _ _ D.TOi2 oC
 refine wpAny_bind (wpAny_seqItems oD rfl ?_)
 refine wpAny_bind (wpAny_updateSeq_pair oD λhE' oE sE=>?_)
 replace oE:IsPair hE' TO x y:=oE
 refine wpAny_bind (wpAny_letGo (wpAny_pure (wpAny_pure ?_)))
 refine wpAny_bind (wpAny_seqItems oE rfl ?_)
 refine wpAny_bind (wpAny_newTuple ?_)
 have hsz:hE'.objs.size=s.heap.objs.size:=by rw[sE.1,sD.1,sC.1,sB.1,sA.1]
 have zE:IsZip hE' z TI TO .ellipsis:=sE.extBut _ _ D.TOz.symm (sD.extBut _ _ D.i2z.symm (sC.extBut _ _ D.TOz.symm (sB.extBut _ _ D.i1z.symm hzA)))
 have kE:∀c o,c≠z→c≠TO→c≠i1→c≠i2→s.heap.get? c=some o→hE'.get? c=some o:=λc o c1 c2 c3 c4 e=>
  sE.extBut _ _ c2 (sD.extBut _ _ c4 (sC.extBut _ _ c2 (sB.extBut _ _ c3 (sA.extBut _ _ c1 e))))
 have h1E:hE'.IsTupleIter i1 t1 (k1+1):=((h1B.extBut sC.extBut D.TOi1.symm).extBut sD.extBut D.i12).extBut sE.extBut D.TOi1.symm
 have h2E:hE'.IsTupleIter i2 t2 (k2+1):=h2D.extBut sE.extBut D.TOi2.symm
 have hzlt:z<hE'.objs.size:=Heap.lt_size zE
 show wpAny _ _ (Builtin.SmallTypes.ownedTupleHandOut (.ref z) (.ref hE'.objs.size) >>= _) _ _ _
 refine wpAny_bind ?_
 unfold Builtin.SmallTypes.ownedTupleHandOut
 have zF:IsZip (hE'.push { cls:=.type "tuple",data:=.seq #[x,y] }) z TI TO .ellipsis:=Heap.get?_push_of_some _ zE
 refine wpAny_bind (wpAny_setField_rec zF (by simp) λhG zG sG=>?_)
 replace zG:IsZip hG z TI TO (rawInt hE'.objs.size):=zG
 refine wpAny_setField_rec zG (by simp) λhH zH sH=>?_
 replace zH:IsZip hH z TI TO (rawInt hE'.objs.size):=zH
 have up:∀c o,c≠z→hE'.get? c=some o→hH.get? c=some o:=λc o c1 e=>sH.extBut _ _ c1 (sG.extBut _ _ c1 (Heap.get?_push_of_some _ e))
 have pH:IsPair hH hE'.objs.size x y:=sH.extBut _ _ (Nat.ne_of_gt hzlt) (sG.extBut _ _ (Nat.ne_of_gt hzlt) (Heap.get?_push_size _ rfl))
 have szH:hH.objs.size=hE'.objs.size+1:=by rw[sH.1,sG.1,Heap.size_push]
 rw[hsz]at zH pH szH
 refine wpAny_pure ⟨_,rfl,?_⟩
 rw[hsz]
 exact wpAny_pure (hQ hH zH (up _ _ D.TOz oE) (by refine x1_2 h1E λo e r=>?_;clear h1E;exact⟨o,up _ o D.i1z e,r⟩) (by refine x1_2 h2E λo e r=>?_;clear h2E;exact⟨o,up _ o D.i2z e,r⟩) pH szH λc o c1 c2 c3 c4 e=>up c o c1 (kE c o c1 c2 c3 c4 e))
theorem zipT_end{z TI TO i1 i2 t1 t2:Addr}{k1 k2:Nat}{xs ys:Array Value}{a b:Value}{Q:Option Value→Shared→Prop}(hh:A.handled=none)(D:ZA z TI TO i1 i2 t1 t2)
  (hz:IsZip s.heap z TI TO .none) (hTI:IsPair s.heap TI (.ref i1) (.ref i2)) (hTO:IsPair s.heap TO a b)
  (h1:s.heap.IsTupleIter i1 t1 k1) (h2:s.heap.IsTupleIter i2 t2 k2) (hl1:s.heap.IsTuple t1 xs) (hl2:s.heap.IsTuple t2 ys) (hend:xs[k1]?=none∨ys[k2]?=none)
  (hQ:∀h',(∀c o,c≠z→c≠TO→c≠i1→c≠i2→s.heap.get? c=some o→h'.get? c=some o)→Q none { s with heap:=h' }):wpAny (model prog w) A (pyNext (.ref z)) Q E s:=by
 have hT:s.TypeIs (.ref z) "zip":=⟨_,hz,rfl⟩
 unfold pyNext
 refine wpAny_bind (wpAny_attempt (wpAny_callSpecial?_slot (name:=Str.ofString "__next__") hT F.slot_zip_next (wpAny_call_entry F.slot_zip_next hT F.entry_zip_next ?_ (F.args_zip_next_1 _))))
 have fin:∀h' e,(∀c o,c≠z→c≠TO→c≠i1→c≠i2→s.heap.get? c=some o→h'.get? c=some o)→(∃o,h'.get? e=some o∧o.cls=.type "StopIteration") →
   wpAny (model prog w) A (do if ←isInstance (.ref e) (.type "StopIteration")then pure none else throw (.ref e):Sem (Option Value)) Q E { s with heap:=h' }:=by
  intro h' e hk he
  refine x1_2 he λo ho hc=>?_
  refine wpAny_bind (wpAny_isInstance (T:="StopIteration") (b:=true) ⟨o,ho,hc⟩ isSubtype_stop ?_)
  exact wpAny_pure (hQ _ hk)
 show wpAny _ _ (field (.ref z) 2 >>= _) _ _ _
 refine wpAny_bind (wpAny_field hz rfl (x:=.bool false) rfl ?_)
 show wpAny _ _ (field (.ref z) 3 >>= _) _ _ _
 refine wpAny_bind (wpAny_field hz rfl (x:=.ref TI) rfl ?_)
 refine wpAny_bind (wpAny_seqItems hTI rfl ?_)
 show wpAny _ _ (Builtin.SmallTypes.ownedTupleIsFree (.ref z) >>= _) _ _ _
 refine wpAny_bind ?_
 unfold Builtin.SmallTypes.ownedTupleIsFree
 refine wpAny_bind (wpAny_field hz rfl (x:=.none) rfl (wpAny_pure ?_))
 simp only[if_true]
 refine wpAny_bind (wpAny_rule ?_)
 refine wpAny_bind (wpAny_field hz rfl (x:=.ref TO) rfl ?_)
 refine wpAny_bind (wpAny_setField_rec hz (by simp) λhA hzA sA=>?_)
 replace hzA:IsZip hA z TI TO .ellipsis:=hzA
 refine wpAny_bind ?_
 simp only[List.zipIdx_cons,List.zipIdx_nil,List.forIn_cons,List.forIn_nil]
 refine wpAny_bind (wpAny_bind (wpAny_onRaise ?_))
 show wpAny _ _ (Builtin.SmallTypes.nextOf (.ref i1) >>= _) _ _ _
 cases hx:xs[k1]? with
 |none=>
  refine wpAny_bind (nextOf_tuple_end hh (h1.extBut sA.extBut D.i1z) (IsTuple.ext hl1 sA.extBut D.t1.1) hx λhB e sB he=>?_)
  refine x1_2 he λoe hoe hce=>?_
  have hzB:IsZip hB z TI TO .ellipsis:=sB _ _ D.i1z.symm hzA
  have hez:e≠z:=λx=>by subst x;rw[hzB]at hoe;refine someI hoe ?_;clear hoe;intro hx;subst hx;simp at hce
  refine wpAny_setField_rec hzB (by simp) λhC zz sC=>fin hC e (λc o c1 zz c3 zz x=>sC.extBut _ _ c1 (sB _ _ c3 (sA.extBut _ _ c1 x))) ⟨oe,sC.extBut _ _ hez hoe,hce⟩
 |some x=>
  have hy:ys[k2]?=none:=by rcases hend with h|h;rw[hx]at h;exact absS h;exact h
  refine wpAny_bind (nextOf_tuple (h1.extBut sA.extBut D.i1z) (IsTuple.ext hl1 sA.extBut D.t1.1) hx λhB h1B sB=>wpAny_pure ?_)
  have oB:IsPair hB TO a b:=sB.extBut _ _ D.TOi1 (sA.extBut _ _ D.TOz hTO)
  refine wpAny_bind (wpAny_seqItems oB rfl ?_)
  refine wpAny_bind (wpAny_updateSeq_pair oB λhC oC sC=>?_)
  refine wpAny_bind (wpAny_letGo (wpAny_pure ?_))
  refine wpAny_bind (wpAny_bind (wpAny_onRaise ?_))
  show wpAny _ _ (Builtin.SmallTypes.nextOf (.ref i2) >>= _) _ _ _
  refine wpAny_bind (nextOf_tuple_end hh (((h2.extBut sA.extBut D.i2z).extBut sB.extBut D.i12.symm).extBut sC.extBut D.TOi2.symm)
   (IsTuple.ext (IsTuple.ext (IsTuple.ext hl2 sA.extBut D.t2.1) sB.extBut D.t2.2.2.1) sC.extBut D.t2.2.1) hy λhD e sD he=>?_)
  refine x1_2 he λoe hoe hce=>?_;clear he
  have hzD:IsZip hD z TI TO .ellipsis:=sD _ _ D.i2z.symm (sC.extBut _ _ D.TOz.symm (sB.extBut _ _ D.i1z.symm hzA))
  have hez:e≠z:=λx=>by subst x;rw[hzD]at hoe;refine someI hoe ?_;clear hoe;intro hx;subst hx;simp at hce
  refine wpAny_setField_rec hzD (by simp) λhE' zz sE=>fin hE' e (λc o c1 c2 c3 c4 x=>sE.extBut _ _ c1 (sD _ _ c4 (sC.extBut _ _ c2 (sB.extBut _ _ c3 (sA.extBut _ _ c1 x))))) ⟨oe,sE.extBut _ _ hez hoe,hce⟩
noncomputable def zipHeap(h:Heap)(t1 t2:Addr):Heap:=
 ((((h.push { cls:=.type "tuple_iterator",data:=.fields #[.ref t1,.int 0 0] }).push { cls:=.type "tuple_iterator",data:=.fields #[.ref t2,.int 0 0] }).push
  { cls:=.type "tuple",data:=.seq #[.ref h.objs.size,.ref (h.objs.size+1)] }).push { cls:=.type "tuple",data:=.seq #[.none,.none] }).push
  { cls:=.type "zip",data:=.fields #[.none,.bool false,.bool false,.ref (h.objs.size+2),.ref (h.objs.size+3)] }
theorem zipT_new(t1 t2:Addr)(xs ys:Array Value) :
  Meets (Builtin.«zip.__new__» ⟨[.type "zip",.ref t1,.ref t2],[]⟩) (λzz R s=>s.heap.IsTuple t1 xs∧s.heap.IsTuple t2 ys ∧
   R (.ok (.ret (.ref (s.heap.objs.size+4)))) { s with heap:=zipHeap s.heap t1 t2 }):=
 .of_wp λprog w A R s h=>by
  obtain⟨hp,g,d,tk,os⟩:=s;refine x0_3 h λhl1 hl2 h=>?_
  have hsub:=sub_zip
  have hL1:Heap.IsTuple (Shared.heap ⟨hp,g,d,tk,os⟩) t1 xs:=hl1
  have hL2:Heap.IsTuple (Shared.heap ⟨hp.push { cls:=.type "tuple_iterator",data:=.fields #[.ref t1,.int 0 0] },g,d,tk,os⟩) t2 ys:=let ⟨o,ho,r⟩:=hl2;⟨o,Heap.get?_push_of_some _ ho,r⟩
  wp_walk using wpAny_pyIter_tuple hL1,wpAny_pyIter_tuple hL2
  refine⟨_,rfl,?_⟩
  simp only[Heap.size_push]
  exact h
end
end
section
structure Own(X:Fix)(g:GW)(b:Addr):Prop where
 nf:g.Γ b=none
 nl:b∉g.la
 nP:b≠X.P
noncomputable def TupIt(X:Fix)(g:GW)(h:Heap)(I t:Addr)(xs:List PV):Prop:=∃vs n i,h.IsTupleIter I t i∧g.Γ t=some { cls:=.type "tuple",data:=.seq vs n }∧RepL X g (vs.toList.drop i) xs
noncomputable def IterR(X:Fix)(g:GW)(h:Heap)(I:Addr)(ws:List Addr):Src→Prop
 |.tup xs=>ws=[I]∧∃t,TupIt X g h I t xs
 |.lst j i=>ws=[I]∧∃a,h.IsListIter I a i∧g.la[j]?=some a
 |.rng a n=>ws=[I]∧IsRangeIter h I a n 1
 |.zip xs ys=>∃TI TO i1 i2 t1 t2 p q,ws=[I,TI,TO,i1,i2]∧ws.Nodup∧IsZip h I TI TO .none∧IsPair h TI (.ref i1) (.ref i2)∧IsPair h TO p q∧TupIt X g h i1 t1 xs∧TupIt X g h i2 t2 ys
 |.enum j i=>∃I2 a old,ws=[I,I2]∧I≠I2∧IsEnum h I I2 (i:Int) old∧h.IsListIter I2 a i∧g.la[j]?=some a
 |.zipl j1 j2 m=>∃TI TO i1 i2 l1 l2 p q,ws=[I,TI,TO,i1,i2]∧ws.Nodup∧IsZip h I TI TO .none∧IsPair h TI (.ref i1) (.ref i2)∧IsPair h TO p q∧h.IsListIter i1 l1 m∧h.IsListIter i2 l2 m∧g.la[j1]?=some l1∧g.la[j2]?=some l2
 |.byt l=>ws=[I]∧∃b t i,PySem.W.KBw.IsBytesIter h I b t i∧b.toList.drop i=l.map (·.toUInt8)∧∀c∈l,c<128
theorem TupIt.step{X:Fix}{g g':GW}{h h':Heap}{I t:Addr}{xs:List PV}(x:TupIt X g h I t xs)(e:GExt g g')(k:∀o,h.get? I=some o→h'.get? I=some o):TupIt X g' h' I t xs:=by
 refine x3_3 x λvs n i ho1 h2 h3=>?_;clear x;refine x1_2 ho1 λo ho r=>?_;clear ho1
 exact⟨vs,n,i,⟨o,k o ho,r⟩,e.ext _ _ h2,repL_mono e h3⟩
theorem IterR.step{X:Fix}{g g':GW}{h h':Heap}{I:Addr}{ws:List Addr}{src:Src}(x:IterR X g h I ws src)(e:GExt g g')(k:∀b∈ws,∀o,h.get? b=some o→h'.get? b=some o):IterR X g' h' I ws src:=by
 cases src with
 |tup xs=>refine x0_2 x λhe0=>?_;subst he0;intro hq1;refine x1_1 hq1 λt h1=>?_;exact⟨rfl,t,h1.step e (k I (.head _))⟩
 |lst j i=>refine x0_2 x λhe0=>?_;subst he0;intro hq1;refine x1_2 hq1 λa ho2 h2=>?_;refine x1_2 ho2 λo ho r=>?_;clear ho2;exact⟨rfl,a,⟨o,k I (.head _) o ho,r⟩,e.idx h2⟩
 |rng a n=>refine x0_2 x λhe0=>?_;subst he0;intro h1;exact⟨rfl,k I (.head _) _ h1⟩
 |zip xs ys=>
  refine x7_1 x λTI TO i1 i2 t1 t2 p hq7=>?_;refine x1_7 hq7 λq he8=>?_;subst he8;intro hn h1 h2 h3 h4 h5
  exact⟨TI,TO,i1,i2,t1,t2,p,q,rfl,hn,k _ (by simp) _ h1,k _ (by simp) _ h2,k _ (by simp) _ h3,h4.step e (k _ (by simp)),h5.step e (k _ (by simp))⟩
 |enum j i=>refine x3_5 x λI2 a old he3=>?_;subst he3;intro hn h1 ho3 h3;refine x1_2 ho3 λo ho r=>?_;clear ho3;exact⟨I2,a,old,rfl,hn,k _ (.head _) _ h1,⟨o,k _ (.tail _ (.head _)) _ ho,r⟩,e.idx h3⟩
 |zipl j1 j2 m=>
  refine x7_1 x λTI TO i1 i2 l1 l2 p hq7=>?_;refine x1_7 hq7 λq he8=>?_;subst he8;intro hn h1 h2 h3 ho4 hq14;refine x0_3 hq14 λho5 h6 h7=>?_;refine x1_2 ho4 λo4 ho4 r4=>?_;refine x1_2 ho5 λo5 ho5 r5=>?_
  exact⟨TI,TO,i1,i2,l1,l2,p,q,rfl,hn,k _ (by simp) _ h1,k _ (by simp) _ h2,k _ (by simp) _ h3,⟨o4,k _ (by simp) _ ho4,r4⟩,⟨o5,k _ (by simp) _ ho5,r5⟩,e.idx h6,e.idx h7⟩
 |byt l=>refine x0_2 x λhe0=>?_;subst he0;intro hq1;refine x3_3 hq1 λb t i ho6 h2 h3=>?_;clear x;refine x1_2 ho6 λo ho r=>?_;clear ho6;exact⟨rfl,b,t,i,⟨o,k I (.head _) o ho,r⟩,h2,h3⟩
theorem IterR.mem{X:Fix}{g:GW}{h:Heap}{I:Addr}{ws:List Addr}{src:Src}(x:IterR X g h I ws src):∀b∈ws,∃o,h.get? b=some o:=by
 cases src with
 |tup xs=>refine x0_2 x λhe0=>?_;subst he0;intro hq1;refine x4_2 hq1 λt vs n i ho7 zz=>?_;refine x1_2 ho7 λo ho r=>?_;clear ho7;intro b hb;simp at hb;subst hb;exact⟨o,ho⟩
 |lst j i=>refine x0_2 x λhe0=>?_;subst he0;intro hq1;refine x1_2 hq1 λa ho8 h2=>?_;refine x1_2 ho8 λo ho r=>?_;clear ho8;intro b hb;simp at hb;subst hb;exact⟨o,ho⟩
 |rng a n=>refine x0_2 x λhe0=>?_;subst he0;intro h1;intro b hb;simp at hb;subst hb;exact⟨_,h1⟩
 |zip xs ys=>
  refine x7_1 x λTI TO i1 i2 t1 t2 p hq7=>?_;refine x1_7 hq7 λq he8=>?_;subst he8;intro hn h1 h2 h3 h4 h5
  intro b hb
  simp at hb
  rcases hb with rfl|rfl|rfl|rfl|rfl
  ·exact⟨_,h1⟩
  ·exact⟨_,h2⟩
  ·exact⟨_,h3⟩
  ·refine x3_2 h4 λzz zz zz ho9 zz=>?_;clear h4;refine x1_2 ho9 λo ho zz=>?_;clear ho9;exact⟨o,ho⟩
  ·refine x3_2 h5 λzz zz zz ho10 zz=>?_;clear h5;refine x1_2 ho10 λo ho zz=>?_;clear ho10;exact⟨o,ho⟩
 |enum j i=>
  refine x3_5 x λI2 a old he3=>?_;subst he3;intro hn h1 ho11 h3;refine x1_2 ho11 λo ho r=>?_;clear ho11
  intro b hb
  simp at hb
  rcases hb with rfl|rfl
  ·exact⟨_,h1⟩
  ·exact⟨_,ho⟩
 |zipl j1 j2 m=>
  refine x7_1 x λTI TO i1 i2 l1 l2 p hq7=>?_;refine x1_7 hq7 λq he8=>?_;subst he8;intro hn h1 h2 h3 ho12 hq14;refine x0_3 hq14 λho13 h6 h7=>?_;refine x1_2 ho12 λo4 ho4 r4=>?_;clear ho12;refine x1_2 ho13 λo5 ho5 r5=>?_;clear ho13
  intro b hb
  simp at hb
  rcases hb with rfl|rfl|rfl|rfl|rfl
  ·exact⟨_,h1⟩
  ·exact⟨_,h2⟩
  ·exact⟨_,h3⟩
  ·exact⟨_,ho4⟩
  ·exact⟨_,ho5⟩
 |byt l=>refine x0_2 x λhe0=>?_;subst he0;intro hq1;refine x3_2 hq1 λb' t i ho14 h2=>?_;clear x;refine x1_2 ho14 λo ho r=>?_;clear ho14;intro b hb;simp at hb;subst hb;exact⟨o,ho⟩
theorem Own.step{X:Fix}{S FS g h g' h'}{b:Addr}{o:Obj}(x:Own X g b)(y:Stp X S FS g h g' h')(e:h.get? b=some o):Own X g' b:=let ⟨a,c⟩:=y.fresh e x.nf x.nl;⟨a,c,x.nP⟩
noncomputable def NextPost(X:Fix)(l:List Env)(g:GW)(s:Shared)(I:Addr)(ws:List Addr)(σ:Sto)(target:Expr)(A:Around)(E:Value→Shared→Prop):Option (PV×Src)→Option Value→Shared→Prop
 |none,v,s'=>v=none∧To X (·∈ws) l g s g s'∧HR X g σ s'.heap
 |some (p,src'),v,s'=>∃u,v=some u∧wpAny (model X.prog X.w) A (letOwnedTupleGo target (.ref I) u) (λ_ s''=>∃g',To X (·∈ws) l g s g' s''∧HR X g' σ s''.heap∧RepV X g' u p∧IterR X g' s''.heap I ws src') E s'
theorem Own.ne{X:Fix}{g:GW}{b c:Addr}(o:Own X g b)(q:g.Γ c≠none∨c∈g.la∨c=X.P):c≠b:=by
 rintro rfl
 rcases q with q|q|q
 ·exact q o.nf
 ·exact o.nl q
 ·exact o.nP q
theorem ne_of{ws:List Addr}{b c:Addr}(n:¬c∈ws)(m:b∈ws):c≠b:=λq=>n (q▸m)
section
variable{X:Fix}(O:FixOK X){A:Around}{g:GW}{σ:Sto}{s:Shared}{E:Value→Shared→Prop}
include O
omit O in
theorem own_to{l:List Env}{I:Addr}{h':Heap}{tk:Nat}(R:HR X g σ s.heap)(o:Own X g I)(hs:Heap.SameBut I s.heap h'):To X (·∈[I]) l g s g { s with heap:=h',toks:=tk }∧HR X g σ h':=
 ⟨⟨Stp.heap (Nat.le_of_eq hs.1.symm) λb ob e n zz zz=>(hs.2 b (ne_of n (.head _))).trans e,rfl,rfl⟩,R.heap λb ob e q=>(hs.2 b (o.ne q)).trans e⟩
omit O in
theorem own_toExt{l:List Env}{I:Addr}{h':Heap}{tk:Nat}(R:HR X g σ s.heap)(o:Own X g I)(hs:Heap.ExtBut I s.heap h')(hz:s.heap.objs.size≤h'.objs.size):To X (·∈[I]) l g s g { s with heap:=h',toks:=tk }∧HR X g σ h':=
 ⟨⟨Stp.heap hz λb ob e n zz zz=>hs b ob (ne_of n (.head _)) e,rfl,rfl⟩,R.heap λb ob e q=>hs b ob (o.ne q) e⟩
omit O in
theorem letGo_plain{I:Addr}{u:Value}{target:Expr}{T:String}{ob:Obj}{fs:Array Value}{Q:Unit→Shared→Prop}{s:Shared}(ho:s.heap.get? I=some ob)(hc:ob.cls=.type T)(hd:ob.data=.fields fs)
  (hT:(["enumerate","zip","dict_itemiterator","dict_reverseitemiterator","odict_iterator","itertools.zip_longest","itertools.pairwise"]:List String).contains T=false) (h:Q () s) {E:Value→Shared→Prop} :
  wpAny (model X.prog X.w) A (letOwnedTupleGo target (.ref I) u) Q E s:=by
 have key:wpAny (model X.prog X.w) A (letOwnedTupleGo (.Tuple [] 0 default) (.ref I) u) Q E s:=by
  cases u with
  |ref a=>
   refine wpAny_bind (wpAny_load ho ?_)
   obtain⟨c,dd,dt,sl⟩:=ob
   subst hc;subst hd
   show wpAny _ _ (if(_&&_)=true then _ else _) Q E s
   rw[hT]
   exact wpAny_pure h
  |_=>exact wpAny_pure h
 cases target with
 |Tuple=>exact key
 |List=>exact key
 |_=>exact wpAny_pure h
omit O in
theorem drop_cons{α:Type}{l:List α}{i:Nat}{x:α}{r:List α}(h:l.drop i=x::r):l[i]?=some x∧l.drop (i+1)=r:=by
 constructor
 ·have:=congrArg (·[0]?) h
  simpa using this
 ·have:=congrArg (List.drop 1) h
  simpa [List.drop_drop,Nat.add_comm]using this
omit O in
theorem tupIt_item{h:Heap}(R:HR X g σ h){I t:Addr}{x:PV}{xs:List PV}(it:TupIt X g h I t (x::xs)):∃vs n i v,h.IsTupleIter I t i∧h.IsTuple t vs∧vs[i]?=some v∧RepV X g v x∧g.Γ t=some { cls:=.type "tuple",data:=.seq vs n }∧RepL X g (vs.toList.drop (i+1)) xs:=by
 refine x3_3 it λvs n i h1 h2 h3=>?_;clear it
 refine x2_3 h3.i1 λv r hd a b=>?_
 refine x0_2 (drop_cons hd) λe1 e2=>?_
 exact⟨vs,n,i,v,h1,⟨_,R.frz _ _ h2,rfl,n,rfl⟩,Array.getElem?_toList.symm.trans e1,a,h2,rwG e2 b⟩
omit O in
theorem tupIt_end{h:Heap}(R:HR X g σ h){I t:Addr}(it:TupIt X g h I t []):∃vs n i,h.IsTupleIter I t i∧h.IsTuple t vs∧vs[i]?=none∧g.Γ t=some { cls:=.type "tuple",data:=.seq vs n }:=by
 refine x3_3 it λvs n i h1 h2 h3=>?_;clear it
 exact⟨vs,n,i,h1,⟨_,R.frz _ _ h2,rfl,n,rfl⟩,Array.getElem?_toList.symm.trans (List.getElem?_eq_none (List.drop_eq_nil_iff.mp h3.i0)),h2⟩
theorem end1{l:List Env}(R:HR X g σ s.heap){I:Addr}{target:Expr}(o:Own X g I)(h:wpAny (model X.prog X.w) A (pyNext (.ref I)) (λv s'=>v=none∧∃h',s' = { s with heap:=h' }∧Heap.ExtBut I s.heap h') E s) :
  wpAny (model X.prog X.w) A (pyNext (.ref I)) (NextPost X l g s I [I] σ target A E none) E s:=
 wpAny_mono (wpAny_sized h) (λv s' hq=>by
  refine x0_2 hq λho15 hz=>?_;clear hq;refine x0_2 ho15 λhe0=>?_;subst he0;intro hq1;refine x1_2 hq1 λh' he2=>?_;subst he2;intro he;clear ho15
  exact⟨rfl,own_toExt R o he hz⟩) λzz zz q=>q.1
theorem next_tup{l:List Env}(hh:A.handled=none)(R:HR X g σ s.heap){I t:Addr}{xs:List PV}{r:Option (PV×Src)}{target:Expr}(it:TupIt X g s.heap I t xs)(o:Own X g I)(hn:Src.next σ (.tup xs)=some r) :
  wpAny (model X.prog X.w) A (pyNext (.ref I)) (NextPost X l g s I [I] σ target A E r) E s:=by
 cases xs with
 |nil=>
  refine someI hn ?_;clear hn;intro hx;subst hx
  refine x3_4 (tupIt_end R it) λvs n i h1 h2 h3 h4=>?_
  exact end1 O R o (wpAny_pyNext_tuple_end hh h1 h2 h3 λh' he=>⟨rfl,h',rfl,he⟩)
 |cons x xs=>
  refine someI hn ?_;clear hn;intro hx;subst hx
  refine x4_6 (tupIt_item R it) λvs n i v h1 h2 h3 h4 h5 h6=>?_
  refine wpAny_pyNext_tuple_item h1 h2 h3 λh' hi hs=>⟨v,rfl,?_⟩
  refine x0_2 (own_to (l:=l) (tk:=s.toks) R o hs) λt1 t2=>?_
  refine x1_3 (id hi) λob ho hc hd=>?_
  exact letGo_plain (s:={ s with heap:=h' }) ho hc hd (by decide) ⟨g,t1,t2,h4,rfl,t,vs,n,i+1,hi,h5,h6⟩
theorem next_lst{l:List Env}(hh:A.handled=none)(R:HR X g σ s.heap){I a:Addr}{j i:Nat}{r:Option (PV×Src)}{target:Expr}(h1:s.heap.IsListIter I a i)(h2:g.la[j]?=some a)(o:Own X g I)(hn:Src.next σ (.lst j i)=some r) :
  wpAny (model X.prog X.w) A (pyNext (.ref I)) (NextPost X l g s I [I] σ target A E r) E s:=by
 refine ifE' hn nS ?_;clear hn;intro xs e hn
 refine x1_2 (R.lst _ _ _ h2 (gtS e)) λvs ho16 q=>?_;refine x1_1 ho16 λn hp=>?_;clear ho16
 have hl:s.heap.IsList a vs:=⟨_,hp,rfl,n,rfl⟩
 cases hx:xs[i]? with
 |some x=>
  rw[gt_eq,hx]at hn
  refine someI hn ?_;clear hn;intro hx;subst hx
  refine x1_2 (q.get hx) λv hv rv=>?_
  refine wpAny_pyNext_list_item h1 hl (by rw[←Array.getElem?_toList];exact hv) λh' hi hs=>⟨v,rfl,?_⟩
  refine x0_2 (own_to (l:=l) (tk:=s.toks) R o hs) λt1 t2=>?_
  refine x1_3 (id hi) λob ho hc hd=>?_
  exact letGo_plain (s:={ s with heap:=h' }) ho hc hd (by decide) ⟨g,t1,t2,rv,rfl,a,hi,h2⟩
 |none=>
  rw[gt_eq,hx]at hn
  refine someI hn ?_;clear hn;intro hx;subst hx
  exact end1 O R o (wpAny_pyNext_list_end hh h1 hl (by rw[←Array.getElem?_toList];exact q.none hx) λh' he=>⟨rfl,h',rfl,he⟩)
theorem next_rng{l:List Env}(hh:A.handled=none)(R:HR X g σ s.heap){I:Addr}{a:Int}{n:Nat}{r:Option (PV×Src)}{target:Expr}(h1:IsRangeIter s.heap I a n 1)(o:Own X g I)(hn:Src.next σ (.rng a n)=some r) :
  wpAny (model X.prog X.w) A (pyNext (.ref I)) (NextPost X l g s I [I] σ target A E r) E s:=by
 cases n with
 |zero=>
  refine someI hn ?_;clear hn;intro hx;subst hx
  exact end1 O R o (wpAny_pyNext_range_end hh h1 (Int.le_refl 0) λh' he=>⟨rfl,h',rfl,he⟩)
 |succ n=>
  refine someI hn ?_;clear hn;intro hx;subst hx
  refine wpAny_pyNext_range_item h1 (by(with_reducible exact Internal.ar45)) λh' hi hs=>⟨_,rfl,?_⟩
  refine x0_2 (own_to (l:=l) (tk:=s.toks+1) R o hs) λt1 t2=>?_
  have hi':IsRangeIter h' I (a+1) n 1:=(show((n+1:Nat):Int)-1=n by(with_reducible exact Internal.ar46))▸hi
  exact letGo_plain (s:={ s with heap:=h',toks:=s.toks+1 }) hi' rfl rfl (by decide) ⟨g,t1,t2,.int _ _,rfl,hi'⟩
omit O in
theorem tgt_tup{xs ys:List PV}{t:Expr}(h:tgtOk (.zip xs ys) t=true):∃elts x1 pos,t=.Tuple elts x1 pos:=by
 cases t with
 |Tuple=>exact⟨_,_,_,rfl⟩
 |_=>exact absF h
omit O in
theorem za_of{I TI TO i1 i2 t1 t2:Addr}(own:∀b∈[I,TI,TO,i1,i2],Own X g b)(hnd:[I,TI,TO,i1,i2].Nodup){ob ou:Obj}(e1:g.Γ t1=some ob)(e2:g.Γ t2=some ou):ZA I TI TO i1 i2 t1 t2:=by
 have fz:∀{t:Addr} {ob:Obj},g.Γ t=some ob→∀b∈[I,TI,TO,i1,i2],t≠b:=λe b hb=>(own b hb).ne (.inl (by rw[e];exact nofun))
 simp only[List.nodup_cons,List.mem_cons,List.not_mem_nil,or_false,not_or]at hnd
 refine x0_5 hnd λho17 ho18 ho19 d1 zz=>?_;clear hnd;refine x0_4 ho17 λa1 a2 a3 a4=>?_;clear ho17;refine x0_3 ho18 λb1 b2 b3=>?_;clear ho18;refine x0_2 ho19 λc1 c2=>?_;clear ho19
 have m0:I∈[I,TI,TO,i1,i2]:=.head _
 have m2:TO∈[I,TI,TO,i1,i2]:=.tail _ (.tail _ (.head _))
 have m3:i1∈[I,TI,TO,i1,i2]:=.tail _ (.tail _ (.tail _ (.head _)))
 have m4:i2∈[I,TI,TO,i1,i2]:=.tail _ (.tail _ (.tail _ (.tail _ (.head _))))
 exact⟨Ne.symm a1,Ne.symm a2,Ne.symm a3,Ne.symm a4,b1,b2,b3,c1,c2,d1,⟨fz e1 _ m0,fz e1 _ m2,fz e1 _ m3,fz e1 _ m4⟩,⟨fz e2 _ m0,fz e2 _ m2,fz e2 _ m3,fz e2 _ m4⟩⟩
theorem zip_keep{l:List Env}(R:HR X g σ s.heap){I TI TO i1 i2:Addr}{h':Heap}{tk:Nat}(own:∀b∈[I,TI,TO,i1,i2],Own X g b)(hz:s.heap.objs.size≤h'.objs.size)(he:∀c o,c≠I→c≠TO→c≠i1→c≠i2→s.heap.get? c=some o→h'.get? c=some o) :
  Stp X (·∈[I,TI,TO,i1,i2]) (fsOf l) g s.heap g h'∧HR X g σ h':=by
 have m0:I∈[I,TI,TO,i1,i2]:=.head _
 have m2:TO∈[I,TI,TO,i1,i2]:=.tail _ (.tail _ (.head _))
 have m3:i1∈[I,TI,TO,i1,i2]:=.tail _ (.tail _ (.tail _ (.head _)))
 have m4:i2∈[I,TI,TO,i1,i2]:=.tail _ (.tail _ (.tail _ (.tail _ (.head _))))
 exact⟨Stp.heap hz λb ob e nb zz zz=>he b ob (ne_of nb m0) (ne_of nb m2) (ne_of nb m3) (ne_of nb m4) e,R.heap λb ob e qq=>he b ob ((own _ m0).ne qq) ((own _ m2).ne qq) ((own _ m3).ne qq) ((own _ m4).ne qq) e⟩
theorem next_zip{l:List Env}(hh:A.handled=none)(R:HR X g σ s.heap){I TI TO i1 i2 t1 t2:Addr}{p q:Value}{xs ys:List PV}{r:Option (PV×Src)}{target:Expr}(hnd:[I,TI,TO,i1,i2].Nodup)(h1:IsZip s.heap I TI TO .none)(h2:IsPair s.heap TI (.ref i1) (.ref i2))(h3:IsPair s.heap TO p q)(h4:TupIt X g s.heap i1 t1 xs)(h5:TupIt X g s.heap i2 t2 ys)
  (own:∀b∈[I,TI,TO,i1,i2],Own X g b) (hn:Src.next σ (.zip xs ys)=some r) (ht:tgtOk (.zip xs ys) target=true) :
  wpAny (model X.prog X.w) A (pyNext (.ref I)) (NextPost X l g s I [I,TI,TO,i1,i2] σ target A E r) E s:=by
 have ends:∀{vs us:Array Value} {n m k1 k2:Nat},g.Γ t1=some { cls:=.type "tuple",data:=.seq vs n }→g.Γ t2=some { cls:=.type "tuple",data:=.seq us m }→s.heap.IsTupleIter i1 t1 k1→s.heap.IsTupleIter i2 t2 k2 →
   s.heap.IsTuple t1 vs→s.heap.IsTuple t2 us→(vs[k1]?=none∨us[k2]?=none)→wpAny (model X.prog X.w) A (pyNext (.ref I)) (NextPost X l g s I [I,TI,TO,i1,i2] σ target A E none) E s:=
  λe1 e2 q1 q2 l1 l2 hend=>wpAny_mono (wpAny_sized (Q:=λv s'=>v=none∧∃h',s' = { s with heap:=h' }∧(∀c o,c≠I→c≠TO→c≠i1→c≠i2→s.heap.get? c=some o→h'.get? c=some o)) (E:=E)
   (zipT_end hh (za_of own hnd e1 e2) h1 h2 h3 q1 q2 l1 l2 hend λh' he=>⟨rfl,h',rfl,he⟩)) (λv s' hq=>by
    refine x0_2 hq λho20 hz=>?_;clear hq;refine x0_2 ho20 λhe0=>?_;subst he0;intro hq1;refine x1_2 hq1 λh' he2=>?_;subst he2;intro he;clear ho20
    refine x0_2 (zip_keep O (l:=l) (tk:=0) R own hz he) λy1 y2=>?_
    exact⟨rfl,⟨y1,rfl,rfl⟩,y2⟩) λzz zz q=>q.1
 cases xs with
 |nil=>
  have e:Src.next σ (.zip [] ys)=some none:=by cases ys <;> rfl
  rw[e]at hn;refine someI hn ?_;clear hn;intro hx;subst hx
  refine x3_4 (tupIt_end R h4) λvs n k1 a1 a2 a3 a4=>?_
  cases ys with
  |nil=>refine x3_4 (tupIt_end R h5) λus m k2 b1 b2 b3 b4=>?_;exact ends a4 b4 a1 b1 a2 b2 (.inl a3)
  |cons y ys=>refine x4_6 (tupIt_item R h5) λus m k2 u b1 b2 b3 b4 b5 b6=>?_;exact ends a4 b5 a1 b1 a2 b2 (.inl a3)
 |cons x xs=>
  refine x4_6 (tupIt_item R h4) λvs n k1 v a1 a2 a3 a4 a5 a6=>?_
  cases ys with
  |nil=>
   refine someI hn ?_;clear hn;intro hx;subst hx
   refine x3_4 (tupIt_end R h5) λus m k2 b1 b2 b3 b4=>?_
   exact ends a5 b4 a1 b1 a2 b2 (.inr b3)
  |cons y ys=>
   refine someI hn ?_;clear hn;intro hx;subst hx
   refine x4_6 (tupIt_item R h5) λus m k2 u b1 b2 b3 b4 b5 b6=>?_
   have D:=za_of own hnd a5 b5
   refine x3_1 (tgt_tup ht) λelts x1 pos he3=>?_;subst he3
   refine zipT_item D h1 h2 h3 a1 b1 a2 b2 a3 b3 λh' z1 z2 z3 z4 z5 z6 z7=>⟨_,rfl,?_⟩
   refine wpAny_letOwnedTupleGo_zip (s:={ s with heap:=h' }) z1 λh'' hz'' hs''=>?_
   have hIlt:I<s.heap.objs.size:=Heap.lt_size h1
   have kp:∀c o,c≠I→c≠TO→c≠i1→c≠i2→s.heap.get? c=some o→h''.get? c=some o:=λc o c1 c2 c3 c4 e=>(hs''.2 c c1).trans (z7 c o c1 c2 c3 c4 e)
   have hT:h''.get? s.heap.objs.size=some { cls:=.type "tuple",data:=.seq #[v,u] }:=(hs''.2 _ (Nat.ne_of_gt hIlt)).trans z5
   refine x0_2 (zip_keep O (l:=l) (tk:=0) R own (h':=h'') (by rw[hs''.1];show _≤h'.objs.size;rw[z6];exact Nat.le_succ _) kp) λst R'=>?_
   refine x0_3 (R.fresh (vD s.heap.objs.size)) λf1 f2 f3=>?_
   have ge:=GExt.new (ob:={ cls:=.type "tuple",data:=.seq #[v,u] }) f1
   refine⟨_,⟨st.freeze (a:=s.heap.objs.size) (o:={ cls:=.type "tuple",data:=.seq #[v,u] }) (vD _) f1,rfl,rfl⟩,R'.freeze hT f2 f3 f1,.tup (n:=0) (vs:=#[v,u]) (if_pos rfl) (.cons (repV_mono ge a4) (.cons (repV_mono ge b4) .nil)),?_⟩
   refine⟨TI,TO,i1,i2,t1,t2,v,u,rfl,hnd,hz'',kp _ _ D.TIz D.TITO D.TIi1 D.TIi2 h2,(hs''.2 _ D.TOz).trans z2,?_,?_⟩
   ·exact TupIt.step ⟨vs,n,k1+1,z3,a5,a6⟩ ge λo e=>(hs''.2 _ D.i1z).trans e
   ·exact TupIt.step ⟨us,m,k2+1,z4,b5,b6⟩ ge λo e=>(hs''.2 _ D.i2z).trans e
omit O in
theorem ws_keep{l:List Env}(R:HR X g σ s.heap){ws:List Addr}{h':Heap}(own:∀b∈ws,Own X g b)(hz:s.heap.objs.size≤h'.objs.size)(he:∀c o,c∉ws→s.heap.get? c=some o→h'.get? c=some o) :
  Stp X (·∈ws) (fsOf l) g s.heap g h'∧HR X g σ h':=
 ⟨Stp.heap hz λb ob e nb zz zz=>he b ob nb e,R.heap λb ob e qq=>he b ob (λhb=>(own b hb).ne qq rfl) e⟩
omit O in
theorem tgt_tup'{elts:Expr}(h:isTupE elts=true):∃es x1 pos,elts=.Tuple es x1 pos:=by
 cases elts with
 |Tuple=>exact⟨_,_,_,rfl⟩
 |_=>exact absF h
theorem next_byt{l:List Env}(hh:A.handled=none)(R:HR X g σ s.heap){I:Addr}{b:Array UInt8}{t:Tok}{i:Nat}{xs:List Nat}{r:Option (PV×Src)}{target:Expr}(h1:PySem.W.KBw.IsBytesIter s.heap I b t i)(h2:b.toList.drop i=xs.map (·.toUInt8))(h3:∀c∈xs,c<128)(o:Own X g I)(hn:Src.next σ (.byt xs)=some r) :
  wpAny (model X.prog X.w) A (pyNext (.ref I)) (NextPost X l g s I [I] σ target A E r) E s:=by
 cases xs with
 |nil=>
  refine someI hn ?_;clear hn;intro hx;subst hx
  exact end1 O R o (PySem.W.KBw.next_end hh h1 (by rw[←Array.getElem?_toList];exact List.getElem?_eq_none (List.drop_eq_nil_iff.mp h2)) λh' he=>⟨rfl,h',rfl,he⟩)
 |cons c xs=>
  refine someI hn ?_;clear hn;intro hx;subst hx
  refine x0_2 (drop_cons h2) λe1 e2=>?_
  have hc:(c.toUInt8.toNat:Int)=(c:Int):=by
   have:c%256=c:=Nat.mod_eq_of_lt (Nat.lt_trans (h3 c (.head _)) (by decide))
   exact congrArg _ ((show c.toUInt8.toNat=c%256 from UInt8.toNat_ofNat' ..).trans this)
  refine PySem.W.KBw.next_item h1 (by rw[←Array.getElem?_toList];exact e1) λh' hi hs=>⟨_,rfl,?_⟩
  refine x0_2 (own_to (l:=l) (tk:=s.toks+1) R o hs) λt1 t2=>?_
  refine x1_3 (id hi) λob ho hcl hd=>?_
  refine letGo_plain (s:={ s with heap:=h',toks:=s.toks+1 }) ho hcl hd (by decide) ⟨g,t1,t2,?_,rfl,b,t,i+1,hi,e2,λc hc=>h3 c (.tail _ hc)⟩
  rw[hc];exact .int _ _
theorem next_enum{l:List Env}(hh:A.handled=none)(R:HR X g σ s.heap){I I2 a:Addr}{j i:Nat}{old:Value}{r:Option (PV×Src)}{target:Expr}(hne:I≠I2)(h1:IsEnum s.heap I I2 (i:Int) old)(h2:s.heap.IsListIter I2 a i)(h3:g.la[j]?=some a)
  (own:∀b∈[I,I2],Own X g b) (hn:Src.next σ (.enum j i)=some r) (ht:isTupE target=true) :
  wpAny (model X.prog X.w) A (pyNext (.ref I)) (NextPost X l g s I [I,I2] σ target A E r) E s:=by
 refine ifE' hn nS ?_;clear hn;intro xs e hn
 refine x1_2 (R.lst _ _ _ h3 (gtS e)) λvs ho21 q=>?_;refine x1_1 ho21 λn hp=>?_;clear ho21
 have hl:s.heap.IsList a vs:=⟨_,hp,rfl,n,rfl⟩
 cases hx:xs[i]? with
 |none=>
  rw[gt_eq,hx]at hn
  refine someI hn ?_;clear hn;intro hx;subst hx
  refine wpAny_mono (wpAny_sized (wpAny_pyNext_enum_end (Q:=λv s'=>v=none∧∃h',s' = { s with heap:=h' }∧Heap.ExtBut I2 s.heap h') (E:=E) hh h1 h2 hl (by rw[←Array.getElem?_toList];exact q.none hx) λh' he=>⟨rfl,h',rfl,he⟩)) (λv s' hq=>?_) λzz zz q=>q.1
  refine x0_2 hq λho22 hz=>?_;clear hq;refine x0_2 ho22 λhe0=>?_;subst he0;intro hq1;refine x1_2 hq1 λh' he2=>?_;subst he2;intro he;clear ho22
  refine x0_2 (ws_keep (l:=l) R own hz λc o nc e=>he c o (λq=>nc (q▸.tail _ (.head _))) e) λy1 y2=>?_
  exact⟨rfl,⟨y1,rfl,rfl⟩,y2⟩
 |some x=>
  rw[gt_eq,hx]at hn
  refine someI hn ?_;clear hn;intro hx;subst hx
  refine x1_2 (q.get hx) λv hv rv=>?_
  refine x3_1 (tgt_tup' ht) λelts x1 pos he3=>?_;subst he3
  refine wpAny_pyNext_enum_item h1 h2 hl (by rw[←Array.getElem?_toList];exact hv) hne λh' z1 z2 z3 z4 z5=>⟨_,rfl,?_⟩
  refine wpAny_letOwnedTupleGo_enum (s:={ s with heap:=h',toks:=s.toks+1 }) z1 λh'' he'' hs''=>?_
  have hIlt:I<s.heap.objs.size:=Heap.lt_size h1
  have kp:∀c o,c∉[I,I2]→s.heap.get? c=some o→h''.get? c=some o:=λc o nc e=>(hs''.2 c λq=>nc (q▸.head _)).trans (z5 c o (λq=>nc (q▸.head _)) (λq=>nc (q▸.tail _ (.head _))) e)
  have hT:h''.get? s.heap.objs.size=some { cls:=.type "tuple",data:=.seq #[.int i s.toks,v] }:=(hs''.2 _ (Nat.ne_of_gt hIlt)).trans z3
  refine x0_2 (ws_keep (l:=l) R own (h':=h'') (by rw[hs''.1];show _≤h'.objs.size;rw[z4];exact Nat.le_succ _) kp) λst R'=>?_
  refine x0_3 (R.fresh (vD s.heap.objs.size)) λf1 f2 f3=>?_
  have ge:=GExt.new (ob:={ cls:=.type "tuple",data:=.seq #[.int i s.toks,v] }) f1
  refine⟨_,⟨st.freeze (a:=s.heap.objs.size) (o:={ cls:=.type "tuple",data:=.seq #[.int i s.toks,v] }) (vD _) f1,rfl,rfl⟩,R'.freeze hT f2 f3 f1,.tup (n:=0) (vs:=#[.int i s.toks,v]) (if_pos rfl) (.cons (.int _ _) (.cons (repV_mono ge rv) .nil)),I2,a,v,rfl,hne,?_,?_,h3⟩
  ·exact he''
  ·refine x1_2 z2 λo ho rr=>?_;clear z2
   exact⟨o,(hs''.2 _ hne.symm).trans ho,rr⟩
theorem next_zipl{l:List Env}(hh:A.handled=none)(R:HR X g σ s.heap){I TI TO i1 i2 l1 l2:Addr}{p q:Value}{j1 j2 m:Nat}{r:Option (PV×Src)}{target:Expr}(hnd:[I,TI,TO,i1,i2].Nodup)(h1:IsZip s.heap I TI TO .none)(h2:IsPair s.heap TI (.ref i1) (.ref i2))(h3:IsPair s.heap TO p q)(h4:s.heap.IsListIter i1 l1 m)(h5:s.heap.IsListIter i2 l2 m)(e1:g.la[j1]?=some l1)(e2:g.la[j2]?=some l2)
  (own:∀b∈[I,TI,TO,i1,i2],Own X g b) (hn:Src.next σ (.zipl j1 j2 m)=some r) (ht:isTupE target=true) :
  wpAny (model X.prog X.w) A (pyNext (.ref I)) (NextPost X l g s I [I,TI,TO,i1,i2] σ target A E r) E s:=by
 refine ifE' hn nS ?_;clear hn;intro xs ex hn;refine ifE' hn nS ?_;clear hn;intro ys ey hn
 refine x1_2 (R.lst _ _ _ e1 (gtS ex)) λvs ho23 qx=>?_;refine x1_1 ho23 λn hp=>?_;clear ho23
 refine x1_2 (R.lst _ _ _ e2 (gtS ey)) λus ho24 qy=>?_;refine x1_1 ho24 λn' hp'=>?_;clear ho24
 have hl:s.heap.IsList l1 vs:=⟨_,hp,rfl,n,rfl⟩
 have hl':s.heap.IsList l2 us:=⟨_,hp',rfl,n',rfl⟩
 have m1:=vN e1
 have m2:=vN e2
 have nl:∀{a:Addr},a∈g.la→∀b∈[I,TI,TO,i1,i2],a≠b:=λha b hb=>(own b hb).ne (.inr (.inl ha))
 have D:ZipApart I TI TO i1 i2 l1 l2:=by
  have hnd':=hnd
  simp only[List.nodup_cons,List.mem_cons,List.not_mem_nil,or_false,not_or]at hnd'
  refine x0_5 hnd' λho25 ho26 ho27 d1 zz=>?_;clear hnd';refine x0_4 ho25 λa1 a2 a3 a4=>?_;clear ho25;refine x0_3 ho26 λb1 b2 b3=>?_;clear ho26;refine x0_2 ho27 λc1 c2=>?_;clear ho27
  exact⟨Ne.symm a1,Ne.symm a2,Ne.symm a3,Ne.symm a4,b1,b2,b3,c1,c2,d1,nl m1 _ (by simp),nl m1 _ (by simp),nl m1 _ (by simp),nl m1 _ (by simp),nl m2 _ (by simp),nl m2 _ (by simp),nl m2 _ (by simp),nl m2 _ (by simp)⟩
 have ends:(vs[m]?=none∨us[m]?=none)→wpAny (model X.prog X.w) A (pyNext (.ref I)) (NextPost X l g s I [I,TI,TO,i1,i2] σ target A E none) E s:=
  λhend=>wpAny_mono (wpAny_sized (Q:=λv s'=>v=none∧∃h',s' = { s with heap:=h' }∧(∀c o,c≠I→c≠TO→c≠i1→c≠i2→s.heap.get? c=some o→h'.get? c=some o)) (E:=E)
   (wpAny_pyNext_zip_end hh D h1 h2 h3 h4 h5 hl hl' hend λh' he=>⟨rfl,h',rfl,he⟩)) (λv s' hq=>by
    refine x0_2 hq λho28 hz=>?_;clear hq;refine x0_2 ho28 λhe0=>?_;subst he0;intro hq1;refine x1_2 hq1 λh' he2=>?_;subst he2;intro he;clear ho28
    refine x0_2 (zip_keep O (l:=l) (tk:=0) R own hz he) λy1 y2=>?_
    exact⟨rfl,⟨y1,rfl,rfl⟩,y2⟩) λzz zz q=>q.1
 cases hx:xs[m]? with
 |none=>
  rw[gt_eq,hx]at hn
  refine someI hn ?_;clear hn;intro hx;subst hx
  exact ends (.inl (by rw[←Array.getElem?_toList];exact qx.none hx))
 |some x=>
  rw[gt_eq,hx]at hn
  cases hy:ys[m]? with
  |none=>
   rw[gt_eq,hy]at hn
   refine someI hn ?_;clear hn;intro hx;subst hx
   exact ends (.inr (by rw[←Array.getElem?_toList];exact qy.none hy))
  |some y=>
   rw[gt_eq,hy]at hn
   refine someI hn ?_;clear hn;intro hx;subst hx
   refine x1_2 (qx.get hx) λv hv rv=>?_
   refine x1_2 (qy.get hy) λu hu ru=>?_
   refine x3_1 (tgt_tup' ht) λelts x1 pos he3=>?_;subst he3
   refine wpAny_pyNext_zip_item D h1 h2 h3 h4 h5 hl hl' (by rw[←Array.getElem?_toList];exact hv) (by rw[←Array.getElem?_toList];exact hu) λh' z1 z2 z3 z4 z5 z6 z7=>⟨_,rfl,?_⟩
   refine wpAny_letOwnedTupleGo_zip (s:={ s with heap:=h' }) z1 λh'' hz'' hs''=>?_
   have hIlt:I<s.heap.objs.size:=Heap.lt_size h1
   have kp:∀c o,c≠I→c≠TO→c≠i1→c≠i2→s.heap.get? c=some o→h''.get? c=some o:=λc o c1 c2 c3 c4 e=>(hs''.2 c c1).trans (z7 c o c1 c2 c3 c4 e)
   have hT:h''.get? s.heap.objs.size=some { cls:=.type "tuple",data:=.seq #[v,u] }:=(hs''.2 _ (Nat.ne_of_gt hIlt)).trans z5
   refine x0_2 (zip_keep O (l:=l) (tk:=0) R own (h':=h'') (by rw[hs''.1];show _≤h'.objs.size;rw[z6];exact Nat.le_succ _) kp) λst R'=>?_
   refine x0_3 (R.fresh (vD s.heap.objs.size)) λf1 f2 f3=>?_
   have ge:=GExt.new (ob:={ cls:=.type "tuple",data:=.seq #[v,u] }) f1
   refine⟨_,⟨st.freeze (a:=s.heap.objs.size) (o:={ cls:=.type "tuple",data:=.seq #[v,u] }) (vD _) f1,rfl,rfl⟩,R'.freeze hT f2 f3 f1,.tup (n:=0) (vs:=#[v,u]) (if_pos rfl) (.cons (repV_mono ge rv) (.cons (repV_mono ge ru) .nil)),?_⟩
   refine x1_2 z3 λo4 ho4 r4=>?_;clear z3
   refine x1_2 z4 λo5 ho5 r5=>?_;clear z4
   exact⟨TI,TO,i1,i2,l1,l2,v,u,rfl,hnd,hz'',kp _ _ D.TIz D.TITO D.TIi1 D.TIi2 h2,(hs''.2 _ D.TOz).trans z2,⟨o4,(hs''.2 _ D.i1z).trans ho4,r4⟩,⟨o5,(hs''.2 _ D.i2z).trans ho5,r5⟩,e1,e2⟩
theorem next_ok{l:List Env}(hh:A.handled=none)(R:HR X g σ s.heap){I:Addr}{ws:List Addr}{src:Src}{r:Option (PV×Src)}{target:Expr}(it:IterR X g s.heap I ws src)(own:∀b∈ws,Own X g b)(hn:src.next σ=some r)(ht:tgtOk src target=true) :
  wpAny (model X.prog X.w) A (pyNext (.ref I)) (NextPost X l g s I ws σ target A E r) E s:=by
 cases src with
 |tup xs=>refine x0_2 it λhe0=>?_;subst he0;intro hq1;refine x1_1 hq1 λt it=>?_;exact next_tup O hh R it (own I (.head _)) hn
 |lst j i=>refine x0_2 it λhe0=>?_;subst he0;intro hq1;refine x1_2 hq1 λa h1 h2=>?_;exact next_lst O hh R h1 h2 (own I (.head _)) hn
 |rng a n=>refine x0_2 it λhe0=>?_;subst he0;intro h1;exact next_rng O hh R h1 (own I (.head _)) hn
 |zip xs ys=>
  refine x7_1 it λTI TO i1 i2 t1 t2 p hq7=>?_;refine x1_7 hq7 λq he8=>?_;subst he8;intro hnd h1 h2 h3 h4 h5
  exact next_zip O hh R hnd h1 h2 h3 h4 h5 own hn ht
 |enum j i=>
  refine x3_5 it λI2 a old he3=>?_;subst he3;intro hne h1 h2 h3
  exact next_enum O hh R hne h1 h2 h3 own hn ht
 |zipl j1 j2 m=>
  refine x7_1 it λTI TO i1 i2 l1 l2 p hq7=>?_;refine x1_7 hq7 λq he8=>?_;subst he8;intro hnd h1 h2 h3 h4 hq14;refine x0_3 hq14 λh5 h6 h7=>?_
  exact next_zipl O hh R hnd h1 h2 h3 h4 h5 h6 h7 own hn ht
 |byt l=>refine x0_2 it λhe0=>?_;subst he0;intro hq1;refine x3_3 hq1 λb t i h1 h2 h3=>?_;clear it;exact next_byt O hh R h1 h2 h3 (own I (.head _)) hn
end
end
section
section
variable{prog:Program}{w:World}{A:Around}{E:Value→Shared→Prop}{s:Shared}
theorem call_zipT{t1 t2:Addr}{xs ys:Array Value}{Q:Value→Shared→Prop}(hl1:s.heap.IsTuple t1 xs)(hl2:s.heap.IsTuple t2 ys)
  (h:Q (.ref (s.heap.objs.size+4)) { s with heap:=zipHeap s.heap t1 t2 }) :
  wpAny (model prog w) A (call (.type "zip") [.ref t1,.ref t2]) Q E s:=by
 have z4:((((s.heap.push { cls:=.type "tuple_iterator",data:=.fields #[.ref t1,.int 0 0] }).push { cls:=.type "tuple_iterator",data:=.fields #[.ref t2,.int 0 0] }).push
  { cls:=.type "tuple",data:=.seq #[.ref s.heap.objs.size,.ref (s.heap.objs.size+1)] }).push { cls:=.type "tuple",data:=.seq #[.none,.none] }).objs.size=s.heap.objs.size+4:=by
  simp only[Heap.size_push]
 refine callType_new F.called_zip rfl (F.typeCall_zip_2 _ _) (F.newCall_zip_2 _ _) (λobj=>F.args_object_init_3 obj _ _) F.entry_zip_new (zipT_new t1 t2 xs ys) ⟨hl1,hl2,?_⟩
 refine⟨⟨{ cls:=.type "zip",data:=.fields #[.none,.bool false,.bool false,.ref (s.heap.objs.size+2),.ref (s.heap.objs.size+3)] },?_,rfl⟩,h⟩
 refine rwS z4 ?_
 exact Heap.get?_push_size _ rfl
end
theorem zipHeap_at(h:Heap)(t1 t2:Addr):IsZip (zipHeap h t1 t2) (h.objs.size+4) (h.objs.size+2) (h.objs.size+3) .none∧IsPair (zipHeap h t1 t2) (h.objs.size+2) (.ref h.objs.size) (.ref (h.objs.size+1)) ∧
  IsPair (zipHeap h t1 t2) (h.objs.size+3) .none .none∧(zipHeap h t1 t2).IsTupleIter h.objs.size t1 0∧(zipHeap h t1 t2).IsTupleIter (h.objs.size+1) t2 0∧(zipHeap h t1 t2).objs.size=h.objs.size+5 ∧
  ∀b o,h.get? b=some o→(zipHeap h t1 t2).get? b=some o:=by
 unfold zipHeap
 generalize hA:h.push { cls:=.type "tuple_iterator",data:=.fields #[.ref t1,.int 0 0] }=hA'
 have sA:hA'.objs.size=h.objs.size+1:=by rw[←hA,Heap.size_push]
 have gA:hA'.get? h.objs.size=some { cls:=.type "tuple_iterator",data:=.fields #[.ref t1,.int 0 0] }:=by refine rwS hA ?_;exact Heap.get?_push_size _ rfl
 generalize hB:hA'.push { cls:=.type "tuple_iterator",data:=.fields #[.ref t2,.int 0 0] }=hB'
 have sB:hB'.objs.size=h.objs.size+2:=by rw[←hB,Heap.size_push,sA]
 have gB:hB'.get? (h.objs.size+1)=some { cls:=.type "tuple_iterator",data:=.fields #[.ref t2,.int 0 0] }:=by refine rwS hB (rwS sA ?_);exact Heap.get?_push_size _ rfl
 generalize hC:hB'.push { cls:=.type "tuple",data:=.seq #[.ref h.objs.size,.ref (h.objs.size+1)] }=hC'
 have sC:hC'.objs.size=h.objs.size+3:=by rw[←hC,Heap.size_push,sB]
 have gC:hC'.get? (h.objs.size+2)=some { cls:=.type "tuple",data:=.seq #[.ref h.objs.size,.ref (h.objs.size+1)] }:=by refine rwS hC (rwS sB ?_);exact Heap.get?_push_size _ rfl
 generalize hD:hC'.push { cls:=.type "tuple",data:=.seq #[.none,.none] }=hD'
 have sD:hD'.objs.size=h.objs.size+4:=by rw[←hD,Heap.size_push,sC]
 have gD:hD'.get? (h.objs.size+3)=some { cls:=.type "tuple",data:=.seq #[.none,.none] }:=by refine rwS hD (rwS sC ?_);exact Heap.get?_push_size _ rfl
 have kB:∀b o,hA'.get? b=some o→hB'.get? b=some o:=λb o e=>by refine rwS hB ?_;exact Heap.get?_push_of_some _ e
 have kC:∀b o,hB'.get? b=some o→hC'.get? b=some o:=λb o e=>by refine rwS hC ?_;exact Heap.get?_push_of_some _ e
 have kD:∀b o,hC'.get? b=some o→hD'.get? b=some o:=λb o e=>by refine rwS hD ?_;exact Heap.get?_push_of_some _ e
 have kE:∀(x:Obj) b o,hD'.get? b=some o→(hD'.push x).get? b=some o:=λx b o e=>Heap.get?_push_of_some _ e
 refine⟨by refine rwS sD ?_;exact Heap.get?_push_size _ rfl,kE _ _ _ (kD _ _ gC),kE _ _ _ gD,⟨_,kE _ _ _ (kD _ _ (kC _ _ (kB _ _ gA))),rfl,rfl⟩,⟨_,kE _ _ _ (kD _ _ (kC _ _ gB)),rfl,rfl⟩,
  by rw[Heap.size_push,sD],λb o e=>kE _ _ _ (kD _ _ (kC _ _ (kB _ _ (by rw[←hA];exact Heap.get?_push_of_some _ e))))⟩
inductive SrcPost(X:Fix)(l:List Env)(g:GW)(s:Shared)(k:Src→Sto→Bool)(it:Value)(s₂:Shared):Prop
 |mk (I:Addr) (ws:List Addr) (src:Src) (g':GW) (σ':Sto) (e:it=.ref I) (t:To X noS l g s g' s₂) (r:HR X g' σ' s₂.heap) (i:IterR X g' s₂.heap I ws src) (o:∀b∈ws,Own X g' b∧s.heap.objs.size≤b) (h:k src σ'=true):SrcPost X l g s k it s₂
theorem SrcPost.el{X:Fix}{l:List Env}{g:GW}{s:Shared}{k:Src→Sto→Bool}{it:Value}{s₂:Shared}{G:Prop}(x:SrcPost X l g s k it s₂)(q:∀I ws src g' σ',it=.ref I→To X noS l g s g' s₂→HR X g' σ' s₂.heap→IterR X g' s₂.heap I ws src→(∀b∈ws,Own X g' b∧s.heap.objs.size≤b)→k src σ'=true→G):G:=SrcPost.casesOn x q
section
variable{X:Fix}(O:FixOK X){d:Nat}{L:Lvl}(H:LvOK X d L){A:Around}{fe:Env}{outer:List Env}{F:Addr}{c:Env}{ρ:Fr}{g:GW}{σ:Sto}{s:Shared}{kx:KX}
include O H
omit O H in
theorem SrcPost.base{l:List Env}{g₁:GW}{s₁ s₂:Shared}{k:Src→Sto→Bool}{it:Value}(t:To X noS l g s g₁ s₁)(x:SrcPost X l g₁ s₁ k it s₂):SrcPost X l g s k it s₂:=by
 refine SrcPost.el x λI ws src g' σ' e t' r1 r2 r3 r4=>?_;clear x
 exact⟨I,ws,src,g',σ',e,t.trans t',r1,r2,λb hb=>⟨(r3 b hb).1,vE t.st.size (r3 b hb).2⟩,r4⟩
omit H in
theorem iterP_ok{l:List Env}(R:HR X g σ s.heap){p:PV}{v:Value}{src:Src}{k:Src→Sto→Bool}(r:RepV X g v p)(h:srcOf σ p=some src)(hk:k src σ=true){E:Value→Shared→Prop} :
  wpAny (model X.prog X.w) A (pyIter v) (SrcPost X l g s k) E s:=by
 have own:Own X g s.heap.objs.size:=let ⟨a,b,c⟩:=R.fresh (vD _);⟨a,b,c⟩
 cases p with
 |tup=>
  refine someI h ?_;clear h;intro hx;subst hx
  refine x3_3 r.iT λt vs n he3=>?_;refine rwG he3 ?_;clear he3;intro e q
  ·refine wpAny_pyIter_tuple (items:=vs) ⟨_,R.frz _ _ e,rfl,n,rfl⟩ ?_
   refine x0_4 (vg_new O R (l:=l) (S:=noS) (o:={ cls:=.type "tuple_iterator",data:=.fields #[.ref t,.int 0 0] }) rfl) λt1 R1 ho zz=>?_
   refine⟨_,[s.heap.objs.size],.tup _,g,σ,rfl,t1,R1,⟨rfl,t,vs,n,0,⟨_,ho,rfl,rfl⟩,e,q⟩,λb hb=>?_,hk⟩
   simp at hb;subst hb;exact⟨own,vD _⟩
 |lst i=>
   refine ifE' h nS ?_;clear h;intro xs e h
   refine someI h ?_;clear h;intro hx;subst hx
   refine x2_5 (RepV.isList R r (gtS e)) λa vs he2=>?_;refine rwG he2 ?_;clear he2;intro hi hl q zz
   refine wpAny_pyIter_list hl ?_
   refine x0_4 (vg_new O R (l:=l) (S:=noS) (o:={ cls:=.type "list_iterator",data:=.fields #[.ref a,.int 0 0] }) rfl) λt1 R1 ho zz=>?_
   refine⟨_,[s.heap.objs.size],.lst _ 0,g,σ,rfl,t1,R1,⟨rfl,a,⟨_,ho,rfl,rfl⟩,hi⟩,λb hb=>?_,hk⟩
   simp at hb;subst hb;exact⟨own,vD _⟩
 |hole hi=>
  refine ifE' h nS ?_;clear h;intro bs e h
  refine someI h ?_;clear h;intro hx;subst hx
  refine ifB e nS ?_;clear e;intro hc e;refine band2 hc ?_;clear hc;intro h1 h2
  obtain rfl:=vC e
  have h1:=vA h1
  have h2:hi<1128:=vA h2
  refine x1_2 r.iH λzz hη zz=>?_
  have hη':=hη
  rw[show hi=1000+(hi-1000)by lia]at hη'
  refine x1_1 ((O.byt (hi-1000) _ _ (by lia)).mp hη') λt he1=>?_;refine rwG he1 ?_;clear he1
  refine PySem.W.KBw.pyIter_bytes ?_
  refine x0_4 (vg_new O R (l:=l) (S:=noS) (o:={ cls:=.type "bytes_iterator",data:=.fields #[.bytes #[(hi-1000).toUInt8] t,.int 0 0] }) rfl) λt1 R1 ho zz=>?_
  refine⟨_,[s.heap.objs.size],.byt _,g,σ,rfl,t1,R1,⟨rfl,_,t,0,⟨_,ho,rfl,rfl⟩,rfl,λc hc=>?_⟩,λb hb=>?_,hk⟩
  ·refine rwG (vM hc) ?_;lia
  ·simp at hb;subst hb;exact⟨own,vD _⟩
 |_=>exact absN h
omit H in
theorem range_ok{l:List Env}(R:HR X g σ s.heap){a b:Int}{t u v:Tok}{r:Addr}{k:Src→Sto→Bool}(hr:IsRange s.heap r a b 1 t u v)(ha:smallI a=true)(hb:smallI b=true)(hk:k (.rng a (b-a).toNat) σ=true){E:Value→Shared→Prop} :
  wpAny (model X.prog X.w) A (pyIter (.ref r)) (SrcPost X l g s k) E s:=by
 have own:Own X g s.heap.objs.size:=let ⟨a,b,c⟩:=R.fresh (vD _);⟨a,b,c⟩
 have ha':=vA ha
 have hb':=vA hb
 refine wpAny_pyIter_range hr (small_one (by(with_reducible exact Internal.ar47 (by assumption))) (by(with_reducible exact Internal.ar48 (by assumption))) (by(with_reducible exact Internal.ar47 (by assumption))) (by(with_reducible exact Internal.ar48 (by assumption)))) ?_
 refine x0_4 (vg_new O R (l:=l) (S:=noS) (o:={ cls:=.type "range_iterator",data:=.fields #[rawInt a,rawInt (Builtin.Range.rangeSize a b 1),rawInt 1] }) rfl) λt1 R1 ho zz=>?_
 refine⟨_,[s.heap.objs.size],.rng a (b-a).toNat,g,σ,rfl,t1,R1,⟨rfl,?_⟩,λb hb=>?_,hk⟩
 ·have e:(((b-a).toNat:Nat):Int)=Builtin.Range.rangeSize a b 1:=by rw[rangeSize_one];split <;> lia
  refine rwG e ?_;exact ho
 ·simp at hb;refine rwG hb ?_;clear hb;exact⟨own,vD _⟩
omit O H in
theorem zip_own(R:HR X g σ s.heap){b:Addr}(hb:b∈[s.heap.objs.size+4,s.heap.objs.size+2,s.heap.objs.size+3,s.heap.objs.size,s.heap.objs.size+1]):Own X g b∧s.heap.objs.size≤b:=by
 have hge:s.heap.objs.size≤b:=by
  simp at hb
  rcases hb with rfl|rfl|rfl|rfl|rfl
  ·exact Nat.le_add_right _ _
  ·exact Nat.le_add_right _ _
  ·exact Nat.le_add_right _ _
  ·exact vD _
  ·exact Nat.le_add_right _ _
 refine x0_3 (R.fresh hge) λf1 f2 f3=>?_
 exact⟨⟨f1,f2,f3⟩,hge⟩
omit H in
theorem zip_run{l:List Env}{E:Value→Shared→Prop}(R:HR X g σ s.heap){vs:List Value}{ps:List PV}{k:Src→Sto→Bool}(rp:RepL X g vs ps)(h:twoK false ps (λp q=>zipSrc p q σ k)=true) :
  wpAny (model X.prog X.w) A (call (.type "zip") vs) (λv s₁=>wpAny (model X.prog X.w) A (pyIter v) (SrcPost X l g s k) E s₁) E s:=by
 revert rp
 refine twoE h fT λp q h rp=>?_
 refine x2_3 rp.two λv u he2=>?_;refine rwG he2 ?_;clear he2;intro r1 r2
 cases p with
 |lst i=>
  revert r2
  refine plstE h fT ?_;clear h;intro j h r2;refine ifE' h fT ?_;clear h;intro xs ex h;refine ifE' h fT ?_;clear h;intro ys ey h
  by_cases hij:Nat.beq i j=true
  ·rw[if_pos hij]at h;exact absF h
  rw[if_neg hij]at h
  refine x2_5 (RepV.isList R r1 (gtS ex)) λa1 vs1 he2=>?_;refine rwG he2 ?_;clear he2;intro f1 hl1 q1 zz
  refine x2_5 (RepV.isList R r2 (gtS ey)) λa2 vs2 he2=>?_;refine rwG he2 ?_;clear he2;intro f2 hl2 q2 zz
  refine call_zip_2 hl1 hl2 λh' z1 z2 z3 z4 z5 z6 z7=>?_
  refine wpAny_pyIter_zip (s:={ s with heap:=h' }) z1 ?_
  have hsz:s.heap.objs.size≤h'.objs.size:=by refine rwG z6 ?_;(with_reducible exact Internal.ar61)
  refine⟨_,[s.heap.objs.size+4,s.heap.objs.size+2,s.heap.objs.size+3,s.heap.objs.size,s.heap.objs.size+1],.zipl i j 0,g,σ,rfl,⟨Stp.heap hsz λb o e zz zz zz=>z7 b o e,rfl,rfl⟩,R.heap λb o e zz=>z7 b o e,
   ⟨_,_,_,_,a1,a2,_,_,rfl,by simp,z1,z2,z3,z4,z5,f1,f2⟩,λb hb=>zip_own R hb,h⟩
 |tup xs=>
 revert r2
 refine ptupE h fT ?_;clear h;intro ys h r2
 refine x3_3 r1.iT λa1 vs1 n1 he3=>?_;refine rwG he3 ?_;clear he3;intro e1 q1
 refine x3_3 r2.iT λa2 vs2 n2 he3=>?_;subst he3;intro e2 q2
 refine call_zipT (xs:=vs1) (ys:=vs2) ⟨_,R.frz _ _ e1,rfl,n1,rfl⟩ ⟨_,R.frz _ _ e2,rfl,n2,rfl⟩ ?_
 refine x0_6 (zipHeap_at s.heap a1 a2) λz1 z2 z3 z4 z5 hq5=>?_;refine x0_2 hq5 λz6 z7=>?_
 refine wpAny_pyIter_zip (s:={ s with heap:=zipHeap s.heap a1 a2 }) z1 ?_
 have hsz:s.heap.objs.size≤(zipHeap s.heap a1 a2).objs.size:=by refine rwG z6 ?_;(with_reducible exact Internal.ar61)
 refine⟨_,[s.heap.objs.size+4,s.heap.objs.size+2,s.heap.objs.size+3,s.heap.objs.size,s.heap.objs.size+1],.zip xs ys,g,σ,rfl,⟨Stp.heap hsz λb o e zz zz zz=>z7 b o e,rfl,rfl⟩,R.heap λb o e zz=>z7 b o e,
  ⟨_,_,_,_,a1,a2,_,_,rfl,by simp,z1,z2,z3,⟨vs1,n1,0,z4,e1,q1⟩,⟨vs2,n2,0,z5,e2,q2⟩⟩,λb hb=>zip_own R hb,h⟩
 |_=>exact absF h
omit H in
theorem enum_run{l:List Env}{E:Value→Shared→Prop}(R:HR X g σ s.heap){vs:List Value}{ps:List PV}{k:Src→Sto→Bool}(rp:RepL X g vs ps)(h:oneK false ps (λp=>plstK false p λi=>ifS false (gt σ i) λzz=>k (.enum i 0) σ)=true) :
  wpAny (model X.prog X.w) A (call (.type "enumerate") vs) (λv s₁=>wpAny (model X.prog X.w) A (pyIter v) (SrcPost X l g s k) E s₁) E s:=by
 revert rp
 refine oneE h fT λp h=>plstE h fT λi h rp=>ifE' h fT λxs e h=>?_
 refine x1_2 rp.one λv he1=>?_;refine rwG he1 ?_;clear he1;intro r
 refine x2_5 (RepV.isList R r (gtS e)) λa us he2=>?_;refine rwG he2 ?_;clear he2;intro f hl q zz
 refine call_enumerate_list hl λh' z1 z2 z3 z4=>?_
 refine wpAny_pyIter_enum (s:={ s with heap:=h' }) z1 ?_
 have hsz:s.heap.objs.size≤h'.objs.size:=by refine rwG z3 ?_;exact Nat.le_add_right _ _
 refine⟨_,[s.heap.objs.size+1,s.heap.objs.size],.enum i 0,g,σ,rfl,⟨Stp.heap hsz λb o e zz zz zz=>z4 b o e,rfl,rfl⟩,R.heap λb o e zz=>z4 b o e,⟨_,a,_,rfl,by simp,z1,z2,f⟩,λb hb=>?_,h⟩
 refine zip_own R ?_
 simp at hb ⊢
 rcases hb with rfl|rfl
 ·exact .inr (.inr (.inr (.inr rfl)))
 ·exact .inr (.inr (.inr (.inl rfl)))
omit O H in
theorem callF_eq{e:Expr}{c:Str×List Expr}(h:callF e=some c):∃p p',e=.Call (.Name c.1 p) c.2 [] p':=by
 unfold callF at h
 refine call0E h nS ?_;clear h;intro g as ks p h;refine nilE h nS ?_;clear h;intro h;refine nameE h nS ?_;clear h;intro f q h
 refine rwS (vC h) ?_
 exact⟨_,_,rfl⟩
omit H in
theorem rng_mk{l:List Env}{E:Value→Shared→Prop}(R:HR X g σ s.heap){vs:List Value}{ps:List PV}{k:Src→Sto→Bool}(rp:RepL X g vs ps)(h:evRng k ps σ=true) :
  wpAny (model X.prog X.w) A (call (.type "range") vs) (λv s₁=>∃r a b t u w,v=.ref r∧IsRange s₁.heap r a b 1 t u w∧smallI a=true∧smallI b=true∧To X noS l g s g s₁∧HR X g σ s₁.heap∧k (.rng a (b-a).toNat) σ=true) E s:=by
 cases ps with
 |nil=>exact absF h
 |cons p ps=>cases ps with
  |nil=>
   revert rp
   refine pintE h fT λn h rp=>ifB h fT λhn h=>?_
   refine x1_2 rp.one λv he1=>?_;refine rwG he1 ?_;clear he1;intro r
   refine x1_1 r.iI λzz he1=>?_;refine rwG he1 ?_;clear he1
   refine call_range_1 ?_
   obtain⟨t1,R1,ho,zz⟩:=vg_new O R (l:=l) (S:=noS) (o:={ cls:=.type "range",data:=.fields #[.int 0 s.toks,.int n _,.int 1 (s.toks+1)] }) rfl
   exact⟨_,0,n,_,_,_,rfl,ho,by decide,hn,t1.toks _,R1,by simpa using h⟩
  |cons q ps=>
   revert rp
   refine nilE h fT λh=>pintE h fT λa h=>pintE h fT λb h rp=>ifB h fT λhn h=>band2 hn λhn1 hn2=>?_
   refine x2_3 rp.two λv u he2=>?_;refine rwG he2 ?_;clear he2;intro r1 r2
   refine x1_1 r1.iI λzz he1=>?_;refine rwG he1 ?_;clear he1;refine x1_1 r2.iI λzz he1=>?_;refine rwG he1 ?_;clear he1
   refine call_range_2 ?_
   obtain⟨t1,R1,ho,zz⟩:=vg_new O R (l:=l) (S:=noS) (o:={ cls:=.type "range",data:=.fields #[.int a _,.int b _,.int 1 s.toks] }) rfl
   exact⟨_,a,b,_,_,_,rfl,ho,hn1,hn2,t1.toks _,R1,h⟩
omit H in
theorem rng_run{l:List Env}{E:Value→Shared→Prop}(R:HR X g σ s.heap){vs:List Value}{ps:List PV}{k:Src→Sto→Bool}(rp:RepL X g vs ps)(h:evRng k ps σ=true) :
  wpAny (model X.prog X.w) A (call (.type "range") vs) (λv s₁=>wpAny (model X.prog X.w) A (pyIter v) (SrcPost X l g s k) E s₁) E s:=
 wpAny_mono (rng_mk O (l:=l) R rp h) (λv s₁ hz=>by
  refine x3_1 hz λr a b hq=>x3_6 hq λt u w e hr ha hb t1 hq=>x0_2 hq λR1 hk=>?_
  subst e
  exact wpAny_mono (range_ok O R1 hr ha hb hk (E:=E)) (λzz zz q=>q.base t1) λzz zz q=>q) λzz zz q=>q
omit O H in
theorem rngL_rep{g:GW}:∀(n:Nat) (a:Int) (l:List Value),l.length=n→(∀(j:Nat) v,l[j]?=some v→∃t,v=.int (a+(j:Int)) t)→RepL X g l (rngL a n)
 |0,_,l,h,_=>by refine rwG (List.length_eq_zero_iff.mp h) ?_;exact .nil
 |n+1,a,[],h,_=>by cases h
 |n+1,a,v::l,h,k=>by
  refine x1_1 (k 0 v rfl) λt e=>?_
  rw[show a+((0:Nat):Int)=a by lia]at e
  refine rwG e ?_;clear e
  refine .cons (.int _ _) (rngL_rep n (a+1) l (Nat.succ.inj h) λj v e=>?_)
  refine x1_1 (k (j+1) v e) λt e=>?_
  exact⟨t,by refine rwG e ?_;congr 1;push_cast;lia⟩
theorem evLR_ok{cx:Cx}(hT:cx.T=X.T)(am:Amb X d A fe outer F c)(w:Wh X ρ c (fe::outer) g σ s){f:Str}{p pos:Pos}{args es:List Expr}{k:KV}(hl:lrArg cx ρ f args=some es)(h:evLR L es ρ σ k kx=true) :
  wpAny (model X.prog X.w) A (eval (.Call (.Name f p) args [] pos) c) (VG X noS (fe::outer) g s (RV X k)) (PX X noS (fe::outer) F g s kx) s:=by
 refine ifB hl nS λhb hl=>oneE hl nS λa hl=>ifE' hl nS λcc hc hl=>ifB hl nS λhd hl=>band3 hd λh1 h2 h3=>?_
 obtain rfl:=vC hl
 refine x2_1 (callF_eq hc) λp1 p2 he2=>?_;refine rwG he2 ?_;clear he2
 refine PyProof.Rows.Call_Name rfl (blt_ok O hT w hb PyProof.Rows.boot_list (by decide) (callWith_plain (.inr ⟨_,rfl⟩) rfl (PyProof.Rows.args_cons ?_)))
 refine blt_call O H hT am w h1 PyProof.Rows.boot_range (by decide) (.inr ⟨_,rfl⟩) h3 h λvs g₁ σ₁ s₁ ps t R₁ rp hk=>?_
 refine wpAny_mono (rng_mk O (l:=fe::outer) R₁ rp hk) (λv s₂ hz2=>?_) λzz zz q=>q
 refine x3_1 hz2 λr a b hq3=>?_;refine x3_6 hq3 λtt u ww e hr ha hb t1 hq11=>?_;refine x0_2 hq11 λR1 hk=>?_;clear hz2
 refine rwG e ?_;clear e
 refine PyProof.Rows.args_nil ?_
 dsimp only at hk
 refine ifB hk fT λhn hk=>?_
 have hn:=vA hn
 have ha':=vA ha
 have hb':=vA hb
 have e:Builtin.Range.rangeSize a b 1=(((b-a).toNat:Nat):Int):=by rw[rangeSize_one];split <;> lia
 refine call_list_range am.hd hr (small_one (by(with_reducible exact Internal.ar47 (by assumption))) (by(with_reducible exact Internal.ar48 (by assumption))) (by(with_reducible exact Internal.ar47 (by assumption))) (by(with_reducible exact Internal.ar48 (by assumption)))) e (by lia) λh' tk acc' c' kp hD hi=>?_
 have R':HR X g₁ σ₁ h':=R1.heap λb o e zz=>kp b o e
 refine x0_3 (R1.fresh (vD s₂.heap.objs.size)) λn1 n2 n3=>?_
 obtain⟨R'',r''⟩:=R'.newList (a:=s₂.heap.objs.size) (vs:=acc') (xs:=rngL a (b-a).toNat) ⟨c',hD⟩ (rngL_rep _ _ _ (by refine rwG vH ?_;exact hi.1) λj v e=>by
  rw[Array.getElem?_toList]at e
  refine x1_1 (hi.2 j v e) λt q=>?_
  exact⟨t,by rw[q,Int.mul_one]⟩) n1 n2 n3
 refine VG.base (t.trans t1) ⟨_,_,⟨(Stp.heap (Nat.le_of_lt (Heap.lt_size hD)) λb o e zz zz zz=>kp b o e).newList (vD _),rfl,rfl⟩,R'',_,r'',hk⟩
theorem src_ok{cx:Cx}(hT:cx.T=X.T)(am:Amb X d A fe outer F c)(w:Wh X ρ c (fe::outer) g σ s){e:Expr}{k:Src→Sto→Bool}(h:evSrc cx L e ρ σ k kx=true) :
  wpAny (model X.prog X.w) A (eval e c) (λv s₁=>wpAny (model X.prog X.w) A (pyIter v) (SrcPost X (fe::outer) g s k) (PX X noS (fe::outer) F g s kx) s₁) (PX X noS (fe::outer) F g s kx) s:=by
 have plain:L.ev e ρ σ (λp σ=>ifS false (srcOf σ p) λs=>k s σ) kx=true →
   wpAny (model X.prog X.w) A (eval e c) (λv s₁=>wpAny (model X.prog X.w) A (pyIter v) (SrcPost X (fe::outer) g s k) (PX X noS (fe::outer) F g s kx) s₁) (PX X noS (fe::outer) F g s kx) s:=by
  intro h
  refine vgoV (H.ev am w e _ kx h) λv g₁ σ₁ s₁ t R₁ p rp hk=>ifE' hk fT λsrc hs hk=>?_
  exact wpAny_mono (iterP_ok O R₁ rp hs hk (E:=PX X noS (fe::outer) F g s kx)) (λzz zz q=>q.base t) λzz zz q=>q
 have bas:∀{g₁:GW} {s₁:Shared} {vs:List Value} {f:Value},To X noS (fe::outer) g s g₁ s₁→wpAny (model X.prog X.w) A (call f vs) (λv s₂=>wpAny (model X.prog X.w) A (pyIter v) (SrcPost X (fe::outer) g₁ s₁ k) (PX X noS (fe::outer) F g s kx) s₂) (PX X noS (fe::outer) F g s kx) s₁ →
   wpAny (model X.prog X.w) A (call f vs) (λv s₁=>wpAny (model X.prog X.w) A (pyIter v) (SrcPost X (fe::outer) g s k) (PX X noS (fe::outer) F g s kx) s₁) (PX X noS (fe::outer) F g s kx) s₁:=λt q=>
  wpAny_mono q (λzz zz q=>wpAny_mono q (λzz zz q=>q.base t) λzz zz q=>q) λzz zz q=>q
 unfold evSrc at h
 cases hc:callF e with
 |none=>rw[hc]at h;exact plain h
 |some z=>
  rw[hc]at h
  refine iteS h (λhb h'=>?_) (λzz h1=>iteS h1 (λhb h'=>?_) (λzz h2=>iteS h2 (λhb h'=>?_) (λzz h'=>plain h')))
  ·clear h plain;refine x2_1 (callF_eq hc) λzz zz he2=>?_;refine rwG he2 ?_;clear he2
   refine ifB h' fT λhs h=>blt_call O H hT am w hb PyProof.Rows.boot_range (by decide) (.inr ⟨_,rfl⟩) hs h λvs g₁ σ₁ s₁ ps t R₁ rp hk=>bas t (rng_run O R₁ rp hk)
  ·clear h h1 plain;refine x2_1 (callF_eq hc) λzz zz he2=>?_;refine rwG he2 ?_;clear he2
   refine ifB h' fT λhs h=>blt_call O H hT am w hb PyProof.Rows.boot_zip (by decide) (.inr ⟨_,rfl⟩) hs h λvs g₁ σ₁ s₁ ps t R₁ rp hk=>bas t (zip_run O R₁ rp hk)
  ·clear h h1 h2 plain;refine x2_1 (callF_eq hc) λzz zz he2=>?_;refine rwG he2 ?_;clear he2
   refine ifB h' fT λhs h=>blt_call O H hT am w hb PyProof.Rows.boot_enumerate (by decide) (.inr ⟨_,rfl⟩) hs h λvs g₁ σ₁ s₁ ps t R₁ rp hk=>bas t (enum_run O R₁ rp hk)
end
end
section
noncomputable def WS(ρ:Fr)(c:Env):Addr→Prop:=λb=>b=c.locals∨(ρ.lam=false∧∃z,lk z ρ.scope.names=some .cell∧c.cells.lookup z=some b)
structure SameFr(ρ ρ':Fr):Prop where
 scope:ρ'.scope=ρ.scope
 up:ρ'.up=ρ.up
 lam:ρ'.lam=ρ.lam
 q:ρ'.q=ρ.q
theorem SameFr.refl{ρ:Fr}:SameFr ρ ρ:=⟨rfl,rfl,rfl,rfl⟩
theorem SameFr.trans{ρ ρ' ρ'':Fr}(x:SameFr ρ ρ')(y:SameFr ρ' ρ''):SameFr ρ ρ'':=⟨y.scope.trans x.scope,y.up.trans x.up,y.lam.trans x.lam,y.q.trans x.q⟩
theorem WS.same{ρ ρ':Fr}{c:Env}(x:SameFr ρ ρ'):WS ρ' c=WS ρ c:=by unfold WS;exact rwG x.scope (rwG x.lam rfl)
theorem FramesOK.writes{X:Fix}{ρ ρ':Fr}{c:Env}{FS g h g' h'}{l:List Env}(x:FramesOK X g h l)(fr:FrR X g ρ c h)(y:Stp X (WS ρ c) FS g h g' h')(fr':FrR X g' ρ' c h'):FramesOK X g' h' l:=by
 intro env he
 refine x0_2 (x env he) λhk hq1=>?_;refine x2_6 hq1 λL o hf h1 h2 h3 h4 hq8=>?_;refine x2_1 hq8 λes n h5=>?_
 refine x0_2 (y.fresh h4 h1 h2) λf1 f2=>?_
 by_cases hL:L=c.locals
 ·refine x1_2 fr'.loc λm ho1 zz=>?_;refine x3_3 ho1 λo' es' ep' e1 e2 zz=>?_;clear ho1
  exact⟨hk,L,o',hf,f1,f2,h3,by refine rwG hL ?_;exact e1,es',ep',e2⟩
 ·have hS:¬WS ρ c L:=by
   rintro (q|⟨zz,z,hz,hc⟩)
   ·exact hL q
   ·refine x2_3 (fr.own z hz) λa v e1 ho2 zz=>?_;refine x1_2 ho2 λoc e2 e3=>?_;clear ho2
    rw[hc]at e1;refine someI e1 ?_;clear e1;intro hx;subst hx
    rw[h4]at e2;refine someI e2 ?_;clear e2;intro hx;subst hx
    rw[h5]at e3;cases e3
  refine x1_3 (y.keepData h4 hS h2 h3) λo' e1 e2 zz=>?_
  exact⟨hk,L,o',hf,f1,f2,h3,e1,es,n,e2.trans h5⟩
theorem Wh.writes{X:Fix}{ρ ρ':Fr}{c:Env}{l:List Env}{g g₁:GW}{σ σ₁:Sto}{s s₁:Shared}(w:Wh X ρ c l g σ s)(t:To X (WS ρ c) l g s g₁ s₁)(R:HR X g₁ σ₁ s₁.heap)(fr:FrR X g₁ ρ' c s₁.heap):Wh X ρ' c l g₁ σ₁ s₁:=
 ⟨R,w.fs.writes w.fr t.st fr,fr⟩
inductive AssPost(X:Fix)(ρ:Fr)(c:Env)(l:List Env)(g:GW)(σ:Sto)(s:Shared)(k:Fr→Bool)(s':Shared):Prop
 |mk (ρ':Fr) (t:To X (WS ρ c) l g s g s') (r:HR X g σ s'.heap) (fr:FrR X g ρ' c s'.heap) (sm:SameFr ρ ρ') (h:k ρ'=true):AssPost X ρ c l g σ s k s'
theorem AssPost.el{X:Fix}{ρ:Fr}{c:Env}{l:List Env}{g:GW}{σ:Sto}{s:Shared}{k:Fr→Bool}{s':Shared}{G:Prop}(x:AssPost X ρ c l g σ s k s')(q:∀ρ',To X (WS ρ c) l g s g s'→HR X g σ s'.heap→FrR X g ρ' c s'.heap→SameFr ρ ρ'→k ρ'=true→G):G:=AssPost.casesOn x q
section
variable{X:Fix}{A:Around}{c:Env}{ρ:Fr}{g:GW}{σ:Sto}{s:Shared}{l:List Env}{E:Value→Shared→Prop}
theorem FrR.cellNe{h:Heap}(x:FrR X g ρ c h){z:Str}{a:Addr}{v:Option Value}(e:c.cells.lookup z=some a)(hc:h.IsCell a v):a≠c.locals:=by
 rintro rfl
 refine x1_2 x.loc λm ho3 zz=>?_;refine x3_3 ho3 λo es ep e1 e2 zz=>?_;clear ho3
 refine x1_2 hc λoc e3 e4=>?_;clear hc
 rw[e1]at e3;refine someI e3 ?_;clear e3;intro hx;subst hx
 rw[e2]at e4;cases e4
set_option tactic.hygienic true in
theorem ass1_ok(hfr:FrR X g ρ c s.heap)(R:HR X g σ s.heap){x:Str}{p:PV}{v:Value}{ρ':Fr}(h:ass1 x p ρ=some ρ')(r:RepV X g v p){k:Fr→Bool}(hk:k ρ'=true) :
  wpAny (model X.prog X.w) A (storeName c x v) (λzz s'=>AssPost X ρ c l g σ s k s') E s:=by
 unfold ass1 at h
 split at h
 ·rename_i e
  refine someI h ?_;clear h;intro hx;subst hx
  refine x1_2 hfr.loc λm hns hm=>?_
  have hkd:c.kindOf x=some .local:=by
   rcases hfr.names _ _ e with hkd|⟨hkd,zz⟩
   ·exact hkd
   ·cases hkd
  refine wpAny_storeName_local hkd hns (λh' hn' hs'=>?_) (by refine rwG hfr.kind ?_;rfl)
  have nP:=hfr.locOk.2.2
  have kp:∀b o,h'.get? b=some o→b≠c.locals→s.heap.get? b=some o:=λb o e nb=>(hs'.2 b nb).symm.trans e
  have R':HR X g σ h':=R.heap λb o e q=>(hs'.2 b (neW hfr.locOk.1 hfr.locOk.2.1 nP q)).trans e
  refine⟨{ ρ with vars:=put x p ρ.vars },⟨Stp.heap (Nat.le_of_eq hs'.1.symm) λb o e nb zz zz=>(hs'.2 b λq=>nb (.inl q)).trans e,rfl,rfl⟩,R',⟨hfr.kind,hfr.glob,hfr.blt,hfr.names,⟨_,hn',λz q e1 e2=>?_⟩,hfr.locOk,λz q e1=>?_,λz e1=>?_,hfr.inj,λz a e1=>?_,hfr.shw⟩,⟨rfl,rfl,rfl,rfl⟩,hk⟩
  ·rw[lk_put]at e2
   refine iteS e2 ?_ ?_ <;> clear e2 <;> intro _ e2
   ·rename_i hz;refine someI e2 ?_;clear e2;intro hx;subst hx;exact⟨v,by simp[hz],r⟩
   ·rename_i hz
    refine x1_2 (hm z q e1 e2) λu e3 r3=>?_
    exact⟨u,by simp[hz,e3],r3⟩
  ·have e1':lk z ρ.scope.names=some .cell∧lk z ρ.vars=some q∨lk z ρ.scope.names=some .free∧lk z ρ.up=some q:=by
    rcases e1 with⟨a1,a2⟩|a
    ·refine .inl ⟨a1,?_⟩
     rw[lk_put]at a2
     refine iteS a2 ?_ ?_ <;> clear a2 <;> intro _ a2
     ·rename_i hz;subst hz;rw[e]at a1;cases a1
     ·exact a2
    ·exact .inr a
   refine x2_3 (hfr.cell z q e1') λa u f1 ho4 f4=>?_;refine x1_2 ho4 λoc f2 f3=>?_;clear ho4
   exact⟨a,u,f1,⟨oc,(hs'.2 _ (hfr.cellNe f1 ⟨oc,f2,f3⟩)).trans f2,f3⟩,f4⟩
  ·refine x2_3 (hfr.own z e1) λa u f1 ho5 f4=>?_;refine x1_2 ho5 λoc f2 f3=>?_;clear ho5
   exact⟨a,u,f1,⟨oc,(hs'.2 _ (hfr.cellNe f1 ⟨oc,f2,f3⟩)).trans f2,f3⟩,f4⟩
  ·refine x0_2 (hfr.all z a e1) λho6 f4=>?_;refine x2_2 ho6 λu oc f2 f3=>?_;clear ho6
   exact⟨⟨u,oc,(hs'.2 _ (hfr.cellNe e1 ⟨oc,f2,f3⟩)).trans f2,f3⟩,f4⟩
 ·rename_i e
  refine iteS h ?_ ?_ <;> clear h <;> intro _ h
  ·exact absN h
  ·rename_i hlam
   have hlam':ρ.lam=false:=by simpa using hlam
   refine someI h ?_;clear h;intro hx;subst hx
   refine x2_5 (hfr.own x e) λa v0 c1 c2 c3 c4 c5=>?_
   have hkd:c.kindOf x=some .cell:=by
    rcases hfr.names _ _ e with hkd|⟨hkd,zz⟩
    ·exact hkd
    ·cases hkd
   have haL:=hfr.cellNe c1 c2
   refine wpAny_storeName_cell hfr.kind hkd c1 c2 λh' hc' hs'=>?_
   have nf:=c5 hlam'
   have R':HR X g σ h':=R.heap λb o e q=>(hs'.2 b (neW nf c3 c4 q)).trans e
   refine⟨{ ρ with vars:=put x p ρ.vars },⟨Stp.heap (Nat.le_of_eq hs'.1.symm) λb o eo nb zz zz=>(hs'.2 b λq=>nb (.inr ⟨hlam',x,e,by refine rwG q ?_;exact c1⟩)).trans eo,rfl,rfl⟩,R',⟨hfr.kind,hfr.glob,hfr.blt,hfr.names,?_,hfr.locOk,λz q e1=>?_,λz e1=>?_,hfr.inj,λz b e1=>?_,hfr.shw⟩,⟨rfl,rfl,rfl,rfl⟩,hk⟩
   ·refine x1_2 hfr.loc λm hns hm=>?_
    refine⟨m,Ns.ofData hns λo ho=>⟨o,(hs'.2 _ (Ne.symm haL)).trans ho,rfl⟩,λz q e1 e2=>hm z q e1 ?_⟩
    rw[lk_put]at e2
    refine iteS e2 ?_ ?_ <;> clear e2 <;> intro _ e2
    ·rename_i hz;subst hz;rw[e]at e1;cases e1
    ·exact e2
   ·by_cases hz:z=x
    ·subst hz
     rcases e1 with⟨a1,a2⟩|⟨a1,zz⟩
     ·rw[lk_put,if_pos rfl]at a2
      refine someI a2 ?_;clear a2;intro hx;subst hx
      exact⟨a,v,c1,hc',r,c3,c4,(λhl=>absurd (show ρ.lam=true from hl) (by refine rwG hlam' ?_;simp)),λzz=>nf⟩
     ·rw[e]at a1;cases a1
    ·have e1':lk z ρ.scope.names=some .cell∧lk z ρ.vars=some q∨lk z ρ.scope.names=some .free∧lk z ρ.up=some q:=by
      rcases e1 with⟨a1,a2⟩|a
      ·refine .inl ⟨a1,?_⟩
       rw[lk_put,if_neg hz]at a2
       exact a2
      ·exact .inr a
     refine x2_3 (hfr.cell z q e1') λb u f1 ho7 f4=>?_;refine x1_2 ho7 λoc f2 f3=>?_;clear ho7
     have hb:b≠a:=λq=>hz (hfr.inj z x a (by refine rwS q ?_;exact f1) c1)
     exact⟨b,u,f1,⟨oc,(hs'.2 _ hb).trans f2,f3⟩,f4⟩
   ·by_cases hz:z=x
    ·refine rwG hz ?_;clear hz;exact⟨a,some v,c1,hc',c3,c4,c5⟩
    ·refine x2_3 (hfr.own z e1) λb u f1 ho8 f4=>?_;refine x1_2 ho8 λoc f2 f3=>?_;clear ho8
     have hb:b≠a:=λq=>hz (hfr.inj z x a (by refine rwS q ?_;exact f1) c1)
     exact⟨b,u,f1,⟨oc,(hs'.2 _ hb).trans f2,f3⟩,f4⟩
   ·refine x0_2 (hfr.all z b e1) λho9 f4=>?_;refine x2_2 ho9 λu oc f2 f3=>?_;clear ho9
    by_cases hb:b=a
    ·subst hb;exact⟨⟨_,hc'⟩,f4⟩
    ·exact⟨⟨u,oc,(hs'.2 _ hb).trans f2,f3⟩,f4⟩
 ·exact absN h
theorem AssPost.base{ρ₁:Fr}{s₁ s₂:Shared}{k:Fr→Bool}(t:To X (WS ρ c) l g s g s₁)(e:SameFr ρ ρ₁)(x:AssPost X ρ₁ c l g σ s₁ k s₂):AssPost X ρ c l g σ s k s₂:=by
 refine AssPost.el x λρ' t' r1 r2 r3 r4=>?_;clear x
 exact⟨ρ',t.trans (by refine rwS (WS.same (c:=c) e) ?_;exact t'),r1,r2,e.trans r3,r4⟩
theorem assignEach_cons{e:Expr}{r:List Expr}{c:Env}(h:noStar e=true):assignEach (e::r) c=(false,assign e c)::assignEach r c:=by
 cases e <;> first|rfl|(exact absF h;done)
theorem assL_len{f:Expr→PV→Fr→Option Fr}:∀(ts:List Expr) {vs:List Value} {ps:List PV} {ρ ρ':Fr},ts.all noStar=true→assL f ts ps ρ=some ρ'→RepL X g vs ps →
   (assignEach ts c).length=vs.length∧(assignEach ts c).findIdx? (·.1)=none
 | [],vs,[],_,_,_,h,q=>by refine rwG q.i0 ?_;exact⟨rfl,rfl⟩
 | [],_,_::_,_,_,_,h,_=>by exact absN h
 |_::_,_,[],_,_,_,h,_=>by exact absN h
 |t::ts,vs,p::ps,ρ,ρ',hs,h,q=>by
  refine x2_3 q.i1 λv vs he2=>?_;refine rwG he2 ?_;clear he2;intro a b
  rw[List.all_cons,Bool.and_eq_true]at hs
  refine ifE' h nS λρ₁ e h=>?_
  refine x0_2 (assL_len ts hs.2 h b) λi1 i2=>?_
  refine rwG (assignEach_cons hs.1) ?_
  exact⟨by exact rwG List.length_cons (rwG List.length_cons (rwG i1 rfl)),by refine rwG (List.findIdx?_cons) (rwG i2 ?_);rfl⟩
theorem assL_ok{f:Expr→PV→Fr→Option Fr}(hf:∀{ρ:Fr} {s:Shared} {t:Expr} {p:PV} {v:Value} {ρ':Fr} {k:Fr→Bool},FrR X g ρ c s.heap→HR X g σ s.heap→f t p ρ=some ρ'→RepV X g v p→k ρ'=true →
   wpAny (model X.prog X.w) A (assign t c v) (λzz s'=>AssPost X ρ c l g σ s k s') E s) :
  ∀(ts:List Expr) {ρ:Fr} {s:Shared} {vs:List Value} {ps:List PV} {ρ':Fr} {k:Fr→Bool},ts.all noStar=true→FrR X g ρ c s.heap→HR X g σ s.heap→assL f ts ps ρ=some ρ'→RepL X g vs ps→k ρ'=true →
   wpAny (model X.prog X.w) A (assignInOrder ((assignEach ts c).map (·.2)) vs) (λzz s'=>AssPost X ρ c l g σ s k s') E s
 | [],ρ,s,vs,[],ρ',k,_,fr,R,h,q,hk=>by refine rwG q.i0 ?_;refine someI h ?_;clear h;intro hx;subst hx;exact wpAny_pure (a:=()) ⟨ρ,To.refl,R,fr,.refl,hk⟩
 | [],_,_,_,_::_,_,_,_,_,_,h,_,_=>by exact absN h
 |_::_,_,_,_,[],_,_,_,_,_,h,_,_=>by exact absN h
 |t::ts,ρ,s,ws,p::ps,ρ',k,hs,fr,R,h,q0,hk=>by
  refine x2_3 q0.i1 λv vs he2=>?_;refine rwG he2 ?_;clear he2;intro a b
  rw[List.all_cons,Bool.and_eq_true]at hs
  refine ifE' h nS λρ₁ e h=>?_
  refine rwG (assignEach_cons hs.1) (rwG List.map_cons ?_)
  refine PyProof.Rows.assignInOrder_cons (wpAny_mono (hf (k:=λρ₂=>ifS false (assL f ts ps ρ₂) k) fr R e a (by refine rwG h ?_;exact hk)) (λzz s₁ q=>?_) λzz zz q=>q)
  refine AssPost.el q λρ₂ t₂ R₂ fr₂ e₂ k₂=>?_
  exact ifE' k₂ fT λρ₃ h₂ k₂=>wpAny_mono (assL_ok hf ts hs.2 fr₂ R₂ h₂ b k₂) (λzz s' q=>AssPost.base t₂ e₂ q) λzz zz q=>q
theorem assN_ok(hh:A.handled=none):∀(n:Nat) {ρ:Fr} {s:Shared} {t:Expr} {p:PV} {v:Value} {ρ':Fr} {k:Fr→Bool},FrR X g ρ c s.heap→HR X g σ s.heap→assN n t p ρ=some ρ'→RepV X g v p→k ρ'=true →
   wpAny (model X.prog X.w) A (assign t c v) (λzz s'=>AssPost X ρ c l g σ s k s') E s:=by
 intro n
 induction n with
 |zero=>intro _ _ _ _ _ _ _ _ _ h _ _;exact absN h
 |succ n ih=>
  intro ρ s t p v ρ' k fr R h r hk
  cases t with
  |Name x pos=>exact PyProof.Rows.assign_Name (ass1_ok fr R h r hk)
  |Tuple ts x1 pos=>
   revert r
   refine ptupE h nS λps h r=>ifB h nS λhs h=>?_
   refine x2_3 (RepV.isTuple R r) λa vs he2=>?_;refine rwG he2 ?_;clear he2;intro ht q
   refine x0_2 (assL_len (c:=c) ts hs h q) λi1 i2=>?_
   rw[assign_Tuple]
   refine wpAny_bind (wpAny_standAt ?_)
   unfold unpack
   rw[show(assignEach ts c).length=vs.size by exact rwG i1 (rwG vH rfl),i2]
   refine wpAny_bind (wpAny_holding (wpAny_mono (wpAny_sized (Q:=λxs s'=>∃h',xs=vs.toList∧s' = { s with heap:=h' }∧Heap.ExtBut s.heap.objs.size s.heap h') (E:=E) (PyProof.Rows.unpackItems_tuple hh ht λh' he=>⟨h',rfl,rfl,he⟩)) (λxs s' hz1=>?_) λzz zz q=>q.1))
   refine x0_2 hz1 λho10 hz=>?_;clear hz1;refine x1_3 ho10 λh' e1 e2 he=>?_;clear ho10
   subst e1;subst e2
   have kp:∀b o,s.heap.get? b=some o→h'.get? b=some o:=λb o e=>he b o (λq=>Nat.lt_irrefl _ (by rw[q]at e;exact Heap.lt_size e)) e
   have R':HR X g σ h':=R.heap λb o e zz=>kp b o e
   have st:Stp X (WS ρ c) (fsOf l) g s.heap g h':=Stp.heap hz λb o e zz zz zz=>kp b o e
   have fr':FrR X g ρ c h':=fr.step (S:=noS) (FS:=fsOf l) (Stp.heap hz λb o e zz zz zz=>kp b o e) (λq=>q) λzz zz zz zz zz q=>q
   exact wpAny_mono (assL_ok (A:=A) (E:=E) (l:=l) (s:={ s with heap:=h' }) (λa b c d e=>ih a b c d e) ts hs fr' R' h q hk) (λzz s' q=>AssPost.base (s₁:={ s with heap:=h' }) ⟨st,rfl,rfl⟩ .refl q) λzz zz q=>q
  |_=>exact absN h
end
end
section
noncomputable def clOf(c:Env):List (Str×NameKind)→List (Str×Addr)→List (Str×Addr)
 | [],acc=>acc
 |(x,k)::r,acc=>if k == .free then clOf c r ((x,(c.cells.lookup x).getD 0)::acc)else clOf c r acc
theorem clOf_c{c:Env}{x:Str}{k:NameKind}{r:List (Str×NameKind)}{acc:List (Str×Addr)}:clOf c ((x,k)::r) acc=if k == .free then clOf c r ((x,(c.cells.lookup x).getD 0)::acc)else clOf c r acc:=rfl
section
variable{M:Model}{A:Around}{E:Value→Shared→Prop}{s:Shared}{env:Env}
noncomputable def CPost(M:Model)(A:Around)(E:Value→Shared→Prop)(use:Option (Value→Sem Unit))(Q:Value→Shared→Prop)(acc:Value)(cenv:Env)(r:Result)(s':Shared):Prop:=
 match r,use with
 |.ok _,none=>∃m,s'.heap.Ns cenv.locals m∧∀h',Heap.SameBut cenv.locals s'.heap h'→Q acc { s' with heap:=h' }
 |.ok _,some u=>wpAny M A (u acc) (λ_ s''=>∃m,s''.heap.Ns cenv.locals m∧∀h',Heap.SameBut cenv.locals s''.heap h'→Q .none { s'' with heap:=h' }) E s'
 |.error x,_=>∃m,s'.heap.Ns cenv.locals m∧∀h',Heap.SameBut cenv.locals s'.heap h'→wpAny M A (PySem.passOn "comprehension.variables-let-go" x cenv:Sem Value) (λ_ _=>False) E { s' with heap:=h' }
theorem comp_run{e:Expr}{scope:Scope}{pos:Pos}{newAcc first:Sem Value}{g:Comprehension}{gs:List Comprehension}{cl:List (Str×Addr)}{use:Option (Value→Sem Unit)}{Q:Value→Shared→Prop}
  (hcl:clausesOf e=g::gs) (hs:∀x,foldedSetIterable g.iter env x=pure x) (hclos:closureFor scope env=pure cl) (hkind:scope.kind=.function) (hnames:∀x∈scope.names,x.2=.local→scope.names.lookup x.1=some .local)
  (h:wpAny M A first (λx s₁=>wpAny M A (pyIter x) (λit s₂=>wpAny M A newAcc (λacc s₃=>wpAny M A (newFunctionEnv scope env.globals cl [] env.qual none .none (some env)) (λcenv s₄=>
    codeAny M A (.compStart e 0 it acc { cenv with scope:=relabel scope env }) (CPost M A E use Q acc { cenv with scope:=relabel scope env }) s₄) E s₃) E s₂) E s₁) E s) :
  wpAny M A (comprehension e scope env pos newAcc false first use) Q E s:=by
 unfold comprehension
 refine rwG hclos (rwG hcl ?_)
 refine wpAny_bind (wpAny_mono h (λx s₁ h₁=>wpAny_bind (wpAny_standAt (wpAny_bind (wpAny_of_eq (hs x) (wpAny_bind (wpAny_holding (wpAny_mono h₁ (λit s₂ h₂=>
  wpAny_standIf (wpAny_bind (wpAny_mono h₂ (λacc s₃ h₃=>wpAny_bind (wpAny_pure (wpAny_bind (wpAny_mono h₃ (λcenv s₄ h₄=>?_) λzz zz h'=>h')))) λzz zz h'=>h')))
   λzz zz h'=>h'))))))) λzz zz h'=>h')
 dsimp only
 have hv:∀x∈(scope.names.filter λx=>(x.2 == .local||x.2 == .cell)&&x.1 != (".0":Str)).reverse,x.2=.local →
   Env.kindOf { cenv with scope:=relabel scope env } x.1=some .local:=λx hx hl=>lookup_relabel_local (hnames x (List.mem_filter.mp (List.mem_reverse.mp hx)).1 hl)
 have hv':∀x∈(scope.names.filter λx=>(x.2 == .local||x.2 == .cell)&&x.1 != (".0":Str)).reverse.drop 1++(scope.names.filter λx=>(x.2 == .local||x.2 == .cell)&&x.1 != (".0":Str)).reverse.take 1,
   x.2=.local→Env.kindOf { cenv with scope:=relabel scope env } x.1=some .local:=λx hx hl=>by
  rcases List.mem_append.mp hx with h1|h1
  ·exact hv x (List.mem_of_mem_drop h1) hl
  ·exact hv x (List.mem_of_mem_take h1) hl
 refine wpAny_holding (wpAny_bind (wpAny_attempt (wpAny_holding (wpAny_run (codeAny_mono h₄ λr s' hr=>?_)))))
 cases r with
 |ok f=>
  cases use with
  |none=>
   refine x1_2 hr λm hn hr=>?_
   exact wpAny_bind (wpAny_holding (wpAny_comp_letGo (cenv:={ cenv with scope:=relabel scope env }) hkind _ s' m hv hn λh' m' zz hs'=>wpAny_pure (hr h' hs')))
  |some u=>
   refine wpAny_bind (wpAny_rule (wpAny_bind (wpAny_holding (wpAny_mono hr (λzz s'' hr'=>?_) λzz zz h'=>h'))))
   refine x1_2 hr' λm hn hr'=>?_
   exact wpAny_bind (wpAny_comp_letGo (cenv:={ cenv with scope:=relabel scope env }) hkind _ s'' m hv' hn λh' m' zz hs'=>wpAny_pure (hr' h' hs'))
 |error x=>
  obtain⟨m,hn,hr⟩:∃m,s'.heap.Ns cenv.locals m∧∀h',Heap.SameBut cenv.locals s'.heap h'→wpAny M A (PySem.passOn "comprehension.variables-let-go" x { cenv with scope:=relabel scope env }:Sem Value) (λzz zz=>False) E { s' with heap:=h' }:=by
   cases use <;> exact hr
  exact wpAny_bind (wpAny_holding (wpAny_comp_letGo (cenv:={ cenv with scope:=relabel scope env }) hkind _ s' m hv hn λh' m' zz hs'=>wpAny_mono (hr h' hs') (λzz zz f=>f.elim) λzz zz y=>y))
end
section
variable{prog:Program}{w:World}{A:Around}{E:Value→Shared→Prop}{R:Result→Shared→Prop}{s:Shared}
theorem comp_turn{elt target iter:Expr}{ifs:List Expr}{scope:Scope}{pos:Pos}{it acc:Value}{env:Env}
  (h:wpAny (model prog w) A (pyNext it) (λr s₁=>match r with
   |none=>R (.ok .next) s₁
   |some v=>wpAny (model prog w) A (letOwnedTupleGo target it v) (λzz s₁=>wpAny (model prog w) A (assign target env v) (λzz s₂=>
     wpAny (model prog w) A (forIn ifs true λc r=>if r=true then do let ok ←isTrue c env (eval c env);pure (ForInStep.yield ok)else pure (ForInStep.yield r)) (λok s₃=>
      if ok=true then wpAny (model prog w) A (eval elt env) (λx s₄=>
       wpAny (model prog w) A (call (.builtin "list.append") [acc,x]) (λzz s₅=>codeAny (model prog w) A (.compLoop (.ListComp elt [⟨target,iter,ifs,0⟩] scope pos) 0 it acc env) R s₅) (notedBy (model prog w) A env λe s'=>R (.error e) s') s₄) (notedBy (model prog w) A env λe s'=>R (.error e) s') s₃
      else codeAny (model prog w) A (.compLoop (.ListComp elt [⟨target,iter,ifs,0⟩] scope pos) 0 it acc env) R s₃) (notedBy (model prog w) A env λe s'=>R (.error e) s') s₂) (notedBy (model prog w) A env λe s'=>R (.error e) s') s₁) (notedBy (model prog w) A env λe s'=>R (.error e) s') s₁) (notedBy (model prog w) A env λe s'=>R (.error e) s') s) :
  codeAny (model prog w) A (.compLoop (.ListComp elt [⟨target,iter,ifs,0⟩] scope pos) 0 it acc env) R s:=by
 refine codeAny_of_tree ?_
 show wpAny _ A ((compTurn (.ListComp elt [⟨target,iter,ifs,0⟩] scope pos) 0 it acc env).onRaise (λx=>do noteFrame x env;theTreesLotGoes x)) _ _ s
 refine wpAny_noted ?_
 rw[compTurn_list]
 refine wpAny_bind (wpAny_standAt (wpAny_bind (wpAny_mono h (λr s₁ h₁=>?_) λzz zz h'=>h')))
 cases r with
 |none=>exact wpAny_pure h₁
 |some v=>
  refine wpAny_bind (wpAny_mono h₁ (λzz s₁' h₁'=>?_) λzz zz h'=>h')
  refine wpAny_bind (wpAny_mono h₁' (λzz s₂ h₂=>wpAny_bind (wpAny_mono h₂ (λok s₃ h₃=>?_) λzz zz h'=>h')) λzz zz h'=>h')
  cases ok with
  |false=>exact wpAny_pure ⟨rfl,h₃⟩
  |true=>
   exact wpAny_bind (wpAny_bind (wpAny_mono h₃ (λx s₄ h₄=>wpAny_bind (wpAny_mono h₄ (λzz s₅ h₅=>wpAny_pure (wpAny_pure ⟨rfl,h₅⟩)) λzz zz h'=>h')) λzz zz h'=>h'))
end
section
variable{X:Fix}(O:FixOK X){d:Nat}{L:Lvl}(H:LvOK X d L){A:Around}{fe:Env}{outer:List Env}{F:Addr}{c:Env}{ρ:Fr}{g:GW}{σ:Sto}{s:Shared}{kx:KX}
include O H
omit O H in
theorem tests_false{ifs:List Expr}{Q:Bool→Shared→Prop}(h:Q false s){E:Value→Shared→Prop} :
  wpAny (model X.prog X.w) A (forIn ifs false λc' r=>if r=true then do let ok ←isTrue c' c (eval c' c);pure (ForInStep.yield ok)else pure (ForInStep.yield r)) Q E s:=by
 induction ifs with
 |nil=>exact wpAny_pure h
 |cons e r ih=>
  rw[List.forIn_cons]
  refine wpAny_bind ?_
  rw[if_neg (by decide)]
  exact wpAny_pure ih
omit O in
theorem tests_ok(am:Amb X d A fe outer F c){k:Bool→Sto→Bool}:∀(ifs:List Expr) {g σ s} (_:Wh X ρ c (fe::outer) g σ s),allTests L ρ kx ifs σ k=true →
   wpAny (model X.prog X.w) A (forIn ifs true λc' r=>if r=true then do let ok ←isTrue c' c (eval c' c);pure (ForInStep.yield ok)else pure (ForInStep.yield r)) (VG X noS (fe::outer) g s (RB k)) (PX X noS (fe::outer) F g s kx) s
 | [],g,σ,s,w,h=>wpAny_pure (a:=true) ⟨g,σ,To.refl,w.R,h⟩
 |e::r,g,σ,s,w,h=>by
  rw[List.forIn_cons]
  refine wpAny_bind ?_
  refine rwG (if_pos rfl) ?_
  refine wpAny_bind (vgo (H.tr am w e _ kx h) λb g₁ σ₁ s₁ t R₁ hk=>?_)
  refine wpAny_pure ?_
  have hk':(if b=true then allTests L ρ kx r σ₁ k else k false σ₁)=true:=hk
  cases b with
  |true=>exact vre t (tests_ok am r (w.step t R₁) hk')
  |false=>exact tests_false (VG.base t ⟨g₁,σ₁,To.refl,R₁,hk'⟩)
omit O H in
theorem closure_ok{sc:Scope}{c:Env}(h:∀x,(x,NameKind.free)∈sc.names→∃a,c.cells.lookup x=some a):closureFor sc c=pure (clOf c sc.names []):=by
 have key:∀(l:List (Str×NameKind)) (acc:List (Str×Addr)),(∀x,(x,NameKind.free)∈l→∃a,c.cells.lookup x=some a) →
   (forIn l acc λ(x:Str×NameKind) (cs:List (Str×Addr))=>(do if x.2 == .free then do let a ←cellOf c x.1;pure (ForInStep.yield ((x.1,a)::cs))else pure (ForInStep.yield cs):Sem (ForInStep (List (Str×Addr)))))=pure (clOf c l acc):=by
  intro l
  induction l with
  |nil=>intro acc zz;rfl
  |cons y r ih=>
   intro acc hl
   obtain⟨x,k⟩:=y
   rw[List.forIn_cons,clOf_c]
   by_cases hk:(k==NameKind.free)=true
   ·have hk':k=.free:=eq_of_beq hk
    subst hk'
    refine x1_1 (hl x (.head _)) λa ha=>?_
    simp only[hk,if_true,cellOf,ha,pure_bind,Option.getD_some]
    exact ih _ λz hz=>hl z (.tail _ hz)
   ·simp only[hk,if_false,pure_bind]
    exact ih _ λz hz=>hl z (.tail _ hz)
 exact(bind_pure _).trans (key sc.names [] h)
end
end
section
theorem Wh.stepS{X:Fix}{ρ:Fr}{c:Env}{l:List Env}{g g₁:GW}{σ σ₁:Sto}{s s₁:Shared}{S:Addr→Prop}(w:Wh X ρ c l g σ s)(t:To X S l g s g₁ s₁)(R:HR X g₁ σ₁ s₁.heap)
  (h1:¬S c.locals) (h2:∀z a,c.cells.lookup z=some a→¬S a) (h3:∀L∈fsOf l,¬S L):Wh X ρ c l g₁ σ₁ s₁:=
 ⟨R,w.fs.step t.st λenv he L hL=>h3 L (List.mem_filterMap.mpr ⟨env,he,hL⟩),w.fr.step t.st h1 λz a zz e zz=>h2 z a e⟩
theorem To.kept{X:Fix}{S:Addr→Prop}{l:List Env}{g g₁:GW}{s s₁:Shared}(t:To X S l g s g₁ s₁){b:Addr}(o:Own X g b)(h1:¬S b)(h2:b∉fsOf l):∀ob,s.heap.get? b=some ob→s₁.heap.get? b=some ob:=by
 intro ob e
 refine x1_2 (t.st.keep b ob e h1 o.nl o.nP) λo' e' q=>?_
 rcases q with rfl|⟨q,zz⟩
 ·exact e'
 ·exact absurd q h2
theorem To.trans'{X:Fix}{S S':Addr→Prop}{l:List Env}{g g₁ g₂:GW}{s s₁ s₂:Shared}(x:To X S l g s g₁ s₁)(y:To X S' l g₁ s₁ g₂ s₂)(h:∀b,S' b→S b∨s.heap.objs.size≤b):To X S l g s g₂ s₂:=
 ⟨x.st.trans' y.st h,y.gens.trans x.gens,y.os.trans x.os⟩
structure Lp(X:Fix)(l:List Env)(c:Env)(n₀:Nat)(g:GW)(h:Heap)(I:Addr)(ws:List Addr)(src:Src):Prop where
 it:IterR X g h I ws src
 own:∀b∈ws,Own X g b
 new:∀b∈ws,n₀≤b
 loc:c.locals∉ws
 cel:∀z a,c.cells.lookup z=some a→a<n₀
 frs:∀L∈fsOf l,L<n₀
theorem Lp.go{X:Fix}{l:List Env}{c:Env}{n₀:Nat}{g g₁:GW}{s s₁:Shared}{I:Addr}{ws:List Addr}{src:Src}{S:Addr→Prop}(x:Lp X l c n₀ g s.heap I ws src)(t:To X S l g s g₁ s₁)(hS:∀b∈ws,¬S b):Lp X l c n₀ g₁ s₁.heap I ws src:=
 ⟨x.it.step t.st.gext λb hb=>t.kept (x.own b hb) (hS b hb) λq=>absurd (x.frs b q) (vL (x.new b hb)),
  λb hb=>let ⟨_,e⟩:=x.it.mem b hb;(x.own b hb).step t.st e,x.new,x.loc,x.cel,x.frs⟩
theorem Lp.notWS{X:Fix}{l:List Env}{c:Env}{n₀:Nat}{g:GW}{h:Heap}{I:Addr}{ws:List Addr}{src:Src}{ρ:Fr}(x:Lp X l c n₀ g h I ws src):∀b∈ws,¬WS ρ c b:=by
 rintro b hb (q|⟨zz,z,zz,hz⟩)
 ·exact x.loc (q▸hb)
 ·exact absurd (x.cel z b hz) (vL (x.new b hb))
section
variable{X:Fix}(O:FixOK X){d:Nat}{L:Lvl}(H:LvOK X d L){A:Around}{fe:Env}{outer:List Env}{F:Addr}{c:Env}{g:GW}{s:Shared}{kx:KX}
include O H
omit O H in
theorem nextI{p p':PV}{a b:Src}(h:some (some (p,a))=some (some (p',b))):a=b:=congrArg Prod.snd (vC (vC h))
omit O H in
theorem tgtOk_next{σ:Sto}{src src':Src}{p:PV}{t:Expr}(hn:src.next σ=some (some (p,src')))(ht:tgtOk src t=true):tgtOk src' t=true:=by
 cases src with
 |zip xs ys=>
  cases xs with
  |nil=>cases ys <;> exact absN (vC hn)
  |cons x xs=>
   cases ys with
   |nil=>exact absN (vC hn)
   |cons y ys=>exact rwS (nextI hn) ht
 |tup xs=>cases xs with
  |nil=>exact absN (vC hn)
  |cons x xs=>exact rwS (nextI hn) rfl
 |rng a n=>cases n with
  |zero=>exact absN (vC hn)
  |succ n=>exact rwS (nextI hn) rfl
 |lst j i=>
  exact ifE' hn nS λxs e hn=>x1_2 (Option.map_eq_some_iff.mp (vC hn)) λx _ e=>rwS (show _=src' from congrArg Prod.snd e) rfl
 |enum j i=>
  exact ifE' hn nS λxs e hn=>x1_2 (Option.map_eq_some_iff.mp (vC hn)) λx _ e=>rwS (show _=src' from congrArg Prod.snd e) ht
 |zipl j1 j2 m=>
  exact ifE' hn nS λxs e hn=>ifE' hn nS λys e hn=>x1_2 (Option.bind_eq_some_iff.mp (vC hn)) λx _ e=>x1_2 (Option.map_eq_some_iff.mp e) λy _ e=>rwS (show _=src' from congrArg Prod.snd e) ht
 |byt l=>cases l with
  |nil=>exact absN (vC hn)
  |cons x xs=>exact rwS (nextI hn) rfl
omit O H in
theorem assT_some{t:Expr}{p:PV}{ρ:Fr}{k:Fr→Bool}(h:assT t p ρ k=true):∃ρ',assN 3 t p ρ=some ρ'∧k ρ'=true:=by
 unfold assT at h
 split at h
 ·exact⟨_,by assumption,h⟩
 ·exact absF h
theorem compGo_ok(am:Amb X d A fe outer F c){elt target iter:Expr}{ifs:List Expr}{scope:Scope}{pos:Pos}{I aA:Addr}{ws:List Addr}{acc:Nat}{k:Sto→Bool}{RR:Result→Shared→Prop}(hC:s.heap.objs.size≤c.locals)
  (hok:∀f g₂ σ₂ s₂ ρ',To X noS (fe::outer) g s g₂ s₂→Wh X ρ' c (fe::outer) g₂ σ₂ s₂→g₂.la[acc]?=some aA→k σ₂=true→RR (.ok f) s₂)
  (herr:∀e s' g₂ σ₂ s₂ ρ',To X noS (fe::outer) g s g₂ s₂→Wh X ρ' c (fe::outer) g₂ σ₂ s₂→PX X noS (fe::outer) F g₂ s₂ kx e s'→notedBy (model X.prog X.w) A c (λe s'=>RR (.error e) s') e s') :
  ∀(n:Nat) {g₁ σ₁ s₁ src ρ} (_:To X noS (fe::outer) g s g₁ s₁) (_:Wh X ρ c (fe::outer) g₁ σ₁ s₁) (_:Lp X (fe::outer) c s.heap.objs.size g₁ s₁.heap I ws src) (_:noCells ρ.scope=true) (_:g₁.la[acc]?=some aA) (_:tgtOk src target=true),
   compGo L elt target ifs acc kx n src ρ σ₁ k=true→codeAny (model X.prog X.w) A (.compLoop (.ListComp elt [⟨target,iter,ifs,0⟩] scope pos) 0 (.ref I) (.ref aA) c) RR s₁:=by
 intro n
 induction n with
 |zero=>intro _ _ _ _ _ _ _ _ _ _ _ h;exact absF h
 |succ n ih=>
  intro g₁ σ₁ s₁ src ρ t w lp hnc ha ht h
  have wsOk:∀{g':GW} {s':Shared} {S:Addr→Prop},To X (·∈ws) (fe::outer) g₁ s₁ g' s'→To X noS (fe::outer) g s g' s':=λt'=>t.trans' t' λb hb=>.inr (lp.new b hb)
  have stepW:∀{g':GW} {σ':Sto} {s':Shared},To X (·∈ws) (fe::outer) g₁ s₁ g' s'→HR X g' σ' s'.heap→Wh X ρ c (fe::outer) g' σ' s':=λt' R'=>
   w.stepS t' R' lp.loc (λz a e hm=>absurd (lp.cel z a e) (vL (lp.new a hm))) λL hL hm=>absurd (lp.frs L hL) (vL (lp.new L hm))
  have idx:∀{g' g'':GW},GExt g' g''→g'.la[acc]?=some aA→g''.la[acc]?=some aA:=λe h=>e.idx h
  refine ifE' h fT λo hn h=>?_
  cases o with
  |none=>
   refine comp_turn (wpAny_mono (next_ok O (l:=fe::outer) (target:=target) am.hd w.R lp.it lp.own hn ht (E:=notedBy (model X.prog X.w) A c λe s'=>RR (.error e) s')) (λr s₂ hr=>?_) λzz zz q=>q)
   refine x0_3 hr λhe0=>?_;refine rwG he0 ?_;clear he0;intro t' R'
   exact hok _ _ _ _ ρ (wsOk (S:=noS) t') (stepW t' R') ha h
  |some y=>
   obtain⟨p,src'⟩:=y
   refine x1_2 (assT_some h) λρ' ha' h=>?_
   refine comp_turn (wpAny_mono (next_ok O (l:=fe::outer) (target:=target) am.hd w.R lp.it lp.own hn ht (E:=notedBy (model X.prog X.w) A c λe s'=>RR (.error e) s')) (λr s₂ hr=>?_) λzz zz q=>q)
   refine x1_2 hr λu he1=>?_;refine rwG he1 ?_;clear he1;intro hu;clear hr
   refine wpAny_mono hu (λ_ s₃ hz1=>?_) λzz zz q=>q
   refine x1_4 hz1 λg₃ t₃ R₃ ru it₃=>?_;clear hz1
   have w₃:=stepW t₃ R₃
   have T₃:=wsOk (S:=noS) t₃
   have lp₃:Lp X (fe::outer) c s.heap.objs.size g₃ s₃.heap I ws src':=⟨it₃,λb hb=>let ⟨_,e⟩:=lp.it.mem b hb;(lp.own b hb).step t₃.st e,lp.new,lp.loc,lp.cel,lp.frs⟩
   have ht':=tgtOk_next hn ht
   refine wpAny_mono (assN_ok (k:=λρ=>allTests L ρ kx ifs σ₁ λb σ=>
    if b then L.ev elt ρ σ (λq σ=>ifS false (gt σ acc) λxs=>if okL xs then compGo L elt target ifs acc kx n src' ρ (σ.set acc (xs++[q])) k else false) kx
    else compGo L elt target ifs acc kx n src' ρ σ k) (l:=fe::outer) am.hd 3 w₃.fr R₃ ha' ru h) (λ_ s₄ ⟨ρ₄,t₄,R₄,fr₄,same,h₄⟩=>?_) λzz zz q=>q
   have w₄:=w₃.writes t₄ R₄ fr₄
   have hWS:∀b,WS ρ c b→b=c.locals:=by
    rintro b (q|⟨zz,z,hz,zz⟩)
    ·exact q
    ·exfalso
     have:=(vF hnc)
     rw[lk_eq]at hz
     have hm:(z,NameKind.cell)∈ρ.scope.names:=by
      clear h ha' h₄
      revert hz
      generalize ρ.scope.names=names
      intro hz
      induction names with
      |nil=>exact absN hz
      |cons y r ih=>
       obtain⟨y1,y2⟩:=y
       rw[List.lookup_cons]at hz
       split at hz
       ·rename_i e;refine someI hz ?_;clear hz;intro hx;refine rwG hx ?_;clear hx;have:z=y1:=eq_of_beq e
        refine rwG this ?_;clear this;exact .head _
       ·exact .tail _ (ih hz)
     have:=this _ hm
     exact absF this
   have T₄:To X noS (fe::outer) g s g₃ s₄:=T₃.trans' t₄ λb hb=>.inr (by refine rwG (hWS b hb) ?_;exact hC)
   have lp₄:=lp₃.go t₄ lp₃.notWS
   have hnc₄:noCells ρ₄.scope=true:=by refine rwG same.scope ?_;exact hnc
   have ha₃:=idx t₃.st.gext ha
   refine wpAny_mono (tests_ok H am ifs w₄ h₄) (λb s₅ hz3=>?_) (λe s' q=>herr e s' _ _ _ _ T₄ w₄ q)
   refine VG.el hz3 λg₅ σ₅ t₅ R₅ h₅=>?_;clear hz3
   have w₅:=w₄.step t₅ R₅
   have T₅:=T₄.trans t₅
   have lp₅:=lp₄.go t₅ λzz zz q=>q
   have ha₅:=idx t₅.st.gext ha₃
   have h₅':(if b then L.ev elt ρ₄ σ₅ (λq σ=>ifS false (gt σ acc) λxs=>if okL xs then compGo L elt target ifs acc kx n src' ρ₄ (σ.set acc (xs++[q])) k else false) kx
    else compGo L elt target ifs acc kx n src' ρ₄ σ₅ k)=true:=h₅
   cases b with
   |false=>
    refine rwG (if_neg (by simp)) ?_
    rw[if_neg (by simp)]at h₅'
    exact ih T₅ w₅ lp₅ hnc₄ ha₅ ht' h₅'
   |true=>
    refine rwG (if_pos rfl) ?_
    rw[if_pos rfl]at h₅'
    refine wpAny_mono (H.ev am w₅ elt _ kx h₅') (λv s₆ hz4=>?_) (λe s' q=>herr e s' _ _ _ _ T₅ w₅ q)
    refine VG.el hz4 λg₆ σ₆ t₆ R₆ hq4=>?_;refine RV.el hq4 λq rq h₆=>?_;clear hz4
    have w₆:=w₅.step t₆ R₆
    have T₆:=T₅.trans t₆
    have lp₆:=lp₅.go t₆ λzz zz q=>q
    have ha₆:=idx t₆.st.gext ha₅
    refine ifE' h₆ fT λxs hxs h₆=>iteS h₆ (λhl h₆=>?_) λ_ h₆=>absF h₆
    refine x1_2 (R₆.lst _ _ _ ha₆ (gtS hxs)) λvs ho1 ql=>?_;refine x1_1 ho1 λm hp=>?_;clear ho1
    have l1:=ql.length
    rw[vH]at l1
    refine PyProof.Rows.append_at hp (λh' hs' ho'=>?_) (by rw[l1,sizeLine_eq];have:=okL_le hl;(with_reducible exact Internal.ar16 (by assumption)))
    have R₇:=R₆.setList ha₆ hs' ⟨_,ho'⟩ (xs:=xs++[q]) (by rw[Array.toList_push];exact ql.append (.cons rq .nil))
    have t₇:To X noS (fe::outer) g₆ s₆ g₆ { s₆ with heap:=h' }:=⟨Stp.setList (vN ha₆) hs',rfl,rfl⟩
    exact ih (T₆.trans t₇) (w₆.step t₇ R₇) (lp₆.go t₇ λzz zz q=>q) hnc₄ ha₆ ht' h₆
end
end
section
theorem iter_self{X:Fix}{A:Around}{g:GW}{s:Shared}{I:Addr}{ws:List Addr}{src:Src}(it:IterR X g s.heap I ws src){Q:Value→Shared→Prop}{E:Value→Shared→Prop}(h:Q (.ref I) s):wpAny (model X.prog X.w) A (pyIter (.ref I)) Q E s:=by
 cases src with
 |tup xs=>refine x0_2 it λzz hq1=>?_;refine x4_2 hq1 λt vs n i h1 zz=>?_;exact wpAny_pyIter_tupleiter h1 h
 |lst j i=>refine x0_2 it λzz hq1=>?_;refine x1_2 hq1 λa h1 zz=>?_;exact wpAny_pyIter_listiter h1 h
 |rng a n=>refine x0_2 it λzz h1=>?_;exact wpAny_pyIter_rangeiter h1 h
 |zip xs ys=>refine x7_1 it λTI TO i1 i2 t1 t2 p hq7=>?_;refine x1_4 hq7 λq zz zz h1 zz=>?_;exact wpAny_pyIter_zip h1 h
 |enum j i=>refine x3_4 it λI2 a old zz zz h1 zz=>?_;exact wpAny_pyIter_enum h1 h
 |zipl j1 j2 m=>refine x7_1 it λTI TO i1 i2 l1 l2 p hq7=>?_;refine x1_4 hq7 λq zz zz h1 zz=>?_;exact wpAny_pyIter_zip h1 h
 |byt l=>refine x0_2 it λzz hq1=>?_;refine x3_2 hq1 λb t i h1 zz=>?_;clear it;exact PySem.W.KBw.pyIter_self h1 h
theorem Ns.dict{h:Heap}{a:Addr}{m:Str→Option Value}(x:h.Ns a m):∃o es n,h.get? a=some o∧o.data=.dict es n:=let ⟨o,es,n,e,d,_⟩:=x;⟨o,es,n,e,d⟩
section
variable{X:Fix}{l:List Env}{g g₂:GW}{s s₂ s':Shared}{kx:KX}{σ₂:Sto}{ρ:Fr}{c:Env}{T:Option (Addr×Value)}{e:Value}
theorem XR.block(t:To X noS l g s g₂ s₂)(w:Wh X ρ c l g₂ σ₂ s₂)(hf:∀L∈fsOf l,L<s.heap.objs.size)(hC:s.heap.objs.size≤c.locals)(x:XR X noS l g₂ s₂ kx T e s') :
  (∃m,s'.heap.Ns c.locals m)∧∀h',Heap.SameBut c.locals s'.heap h'→XR X noS l g s kx T e { s' with heap:=h' }:=by
 refine XR.el x λg' σ ea he hst R hx hF hk e1 e2=>?_
 have fr':=w.fr.step hst (λq=>q) λzz zz zz zz zz q=>q
 refine x1_2 fr'.loc λm hns zz=>?_
 refine⟨⟨m,hns⟩,λh' hs'=>?_⟩
 refine x3_2 (Ns.dict hns) λoC es nn hoC hdC=>?_
 refine x0_3 fr'.locOk λc1 c2 c3=>?_
 have R':HR X g' σ h':=R.heap λb ob eb q=>(hs'.2 b (neW c1 c2 c3 q)).trans eb
 have stC:Stp X (λb=>b=c.locals) (fsOf l) g' s'.heap g' h':=Stp.heap (Nat.le_of_eq hs'.1.symm) λb o eb n zz zz=>(hs'.2 b n).trans eb
 have hF':FramesOK X g' h' l:=hF.step stC λenv he L hL q=>by
  have:=hf L (List.mem_filterMap.mpr ⟨env,he,hL⟩)
  rw[q]at this
  exact absurd this (vL hC)
 obtain⟨hle,hok,oe,vs,a1,a2,a3,a4,a5⟩:=hx
 have ne:∀{b:Addr} {o:Obj} {fs:Array Value},s'.heap.get? b=some o→o.data=.fields fs→b≠c.locals:=by
  rintro b o fs eb db rfl
  rw[hoC]at eb;refine someI eb ?_;clear eb;intro hx;subst hx
  rw[hdC]at db;cases db
 refine⟨⟨g',σ,ea,he,(t.st.trans hst).trans' stC λb hb=>.inr (by refine rwG hb ?_;exact hC),R',⟨vE t.st.size hle,hok,oe,vs,(hs'.2 _ (ne a1 a3)).trans a1,a2,a3,a4,?_⟩,hF',hk⟩,e1.trans t.gens,e2.trans t.os⟩
 cases T with
 |none=>exact a5
 |some q=>
  refine x0_5 a5 λb1 b2 b3 b4 hq4=>?_;refine x2_3 hq4 λoT ts b5 b6 b7=>?_;clear a5
  exact⟨b1,b2,vE t.st.size b3,b4,oT,ts,(hs'.2 _ (ne b5 b6)).trans b5,b6,b7⟩
end
section
variable{X:Fix}(O:FixOK X){d:Nat}{L:Lvl}(H:LvOK X d L){A:Around}{fe:Env}{outer:List Env}{F:Addr}{c:Env}{ρ:Fr}{g:GW}{σ:Sto}{s:Shared}{kx:KX}
include O H
omit O H in
set_option tactic.hygienic true in
theorem lk_mem{α:Type}{x:Str}{v:α}:∀{l:List (Str×α)},lk x l=some v→(x,v)∈l
 | [],h=>by exact absN h
 |(y,u)::r,h=>by
  rw[lk_c]at h
  refine iteS h ?_ ?_ <;> clear h <;> intro _ h
  ·rename_i e
   refine someI h ?_;clear h;intro hx;refine rwG hx ?_;clear hx
   rw[eqS_iff]at e
   have:x=y:=eq_of_beq e
   refine rwG this ?_;clear this;exact .head _
  ·exact .tail _ (lk_mem h)
omit O H in
theorem noCells_ok{sc:Scope}(h:noCells sc=true){x:Str}:(x,NameKind.cell)∉sc.names:=λhm=>by
 have:=(vF h) _ hm
 exact absF this
omit O H in
theorem upOf_mem:∀{l:List (Str×NameKind)} {up:List (Str×PV)} {x:Str},upOf ρ l=some up→(x,NameKind.free)∈l→∃p,valUp ρ x=some p
 | [],_,_,_,hm=>by cases hm
 |y::r,up,x,h,hm=>by
  refine iteS h (λhk h=>ifE' h nS λp hp h=>ifE' h nS λps hps h=>?_) λhk h=>?_
  ·rcases vI hm with e|hm
   ·subst e;exact⟨p,hp⟩
   ·exact upOf_mem hps hm
  ·rcases vI hm with e|hm
   ·subst e;exact absurd rfl hk
   ·exact upOf_mem h hm
omit O H in
theorem upOf_val:∀{l:List (Str×NameKind)} {up:List (Str×PV)} {x:Str} {p:PV},upOf ρ l=some up→lk x up=some p→valUp ρ x=some p
 | [],up,x,p,h,hp=>by refine someI h ?_;clear h;intro hx;subst hx;exact absN hp
 |y::r,up,x,p,h,hp=>by
  refine iteS h (λhk h=>ifE' h nS λq hq h=>ifE' h nS λps hps h=>?_) λhk h=>upOf_val h hp
  obtain rfl:=vC h
  refine iteS (lk_c.symm.trans hp) (λe hp=>?_) λ_ hp=>upOf_val hps hp
  rw[eqS_iff]at e
  rw[←vC hp,show x=y.1 from eq_of_beq e];exact hq
omit O H in
theorem clOf_in{P:Str×Addr→Prop}:∀{l:List (Str×NameKind)} {acc:List (Str×Addr)},(∀x,(x,NameKind.free)∈l→P (x,(c.cells.lookup x).getD 0))→(∀q∈acc,P q)→∀q∈clOf c l acc,P q
 | [],_,_,h=>h
 |(y,k)::r,acc,hl,h=>by
  rw[clOf_c]
  split
  ·rename_i hk
   have:k=.free:=eq_of_beq hk
   subst this
   exact clOf_in (λx hx=>hl x (.tail _ hx)) λq hq=>by
    rcases vI hq with rfl|hq
    ·exact hl y (.head _)
    ·exact h q hq
  ·exact clOf_in (λx hx=>hl x (.tail _ hx)) h
omit O H in
theorem clOf_acc:∀{l:List (Str×NameKind)} {acc:List (Str×Addr)} {q:Str×Addr},q∈acc→q∈clOf c l acc
 | [],_,_,h=>h
 |(y,k)::r,acc,q,h=>by
  rw[clOf_c]
  split
  ·exact clOf_acc (.tail _ h)
  ·exact clOf_acc h
omit O H in
theorem clOf_has:∀{l:List (Str×NameKind)} {acc:List (Str×Addr)} {x:Str},(x,NameKind.free)∈l→(x,(c.cells.lookup x).getD 0)∈clOf c l acc
 | [],_,_,h=>by cases h
 |(y,k)::r,acc,x,h=>by
  rw[clOf_c]
  rcases vI h with e|h
  ·cases e
   refine rwG (if_pos (by rfl)) ?_
   exact clOf_acc (.head _)
  ·split
   ·exact clOf_has h
   ·exact clOf_has h
omit O H in
theorem lookup_mem{α:Type}{x:Str}{v:α}{l:List (Str×α)}(h:l.lookup x=some v):(x,v)∈l:=by rw[←lk_eq]at h;exact lk_mem h
omit O H in
theorem mem_lookup{α:Type}{x:Str}{v:α}:∀{l:List (Str×α)},(x,v)∈l→∃u,l.lookup x=some u
 | [],h=>by cases h
 |(y,u)::r,h=>by
  refine rwG List.lookup_cons ?_
  split
  ·exact⟨_,rfl⟩
  ·rename_i e
   rcases vI h with q|h
   ·cases q;simp at e
   ·exact mem_lookup h
omit O H in
theorem relabel_names{sc:Scope}{x:Str}{k:NameKind}(h:sc.names.lookup x=some k):(relabel sc c).names.lookup x=some k∨(k=.free∧(relabel sc c).names.lookup x=some .cell):=by
 show(sc.names.map λ(n,k)=>if(k == .free&&c.scope.kind == .function&&c.kindOf n==some .cell)then(n,NameKind.cell)else(n,k)).lookup x=some k∨_∧(sc.names.map λ(n,k)=>if(k == .free&&c.scope.kind == .function&&c.kindOf n==some .cell)then(n,NameKind.cell)else(n,k)).lookup x=some .cell
 generalize sc.names=l at h
 induction l with
 |nil=>exact absN h
 |cons y r ih=>
  obtain⟨n,kk⟩:=y
  refine rwG List.map_cons ?_
  dsimp only
  rw[List.lookup_cons]at h
  by_cases hx:(x==n)=true
  ·rw[hx]at h
   (obtain rfl:=(vC h).symm;clear h)
   by_cases hc:(k==NameKind.free&&c.scope.kind == .function&&c.kindOf n==some .cell)=true
   ·refine rwG (if_pos hc) ?_
    simp only[Bool.and_eq_true]at hc
    refine .inr ⟨?_,by exact rwG List.lookup_cons (rwG hx rfl)⟩
    have:=hc.1.1
    simpa using this
   ·refine rwG (if_neg hc) ?_
    exact .inl (by exact rwG List.lookup_cons (rwG hx rfl))
  ·have hx':(x==n)=false:=by simpa using hx
   rw[hx']at h
   by_cases hc:(kk==NameKind.free&&c.scope.kind == .function&&c.kindOf n==some .cell)=true
   ·refine rwG (if_pos hc) (rwG List.lookup_cons (rwG hx' ?_));exact ih h
   ·refine rwG (if_neg hc) (rwG List.lookup_cons (rwG hx' ?_));exact ih h
omit O H in
theorem valUp_cell{g:GW}{h:Heap}(fr:FrR X g ρ c h){x:Str}{p:PV}(hv:valUp ρ x=some p) :
  ∃a v,c.cells.lookup x=some a∧h.IsCell a (some v)∧RepV X g v p∧a∉g.la∧a≠X.P∧(ρ.lam=true→∃o,g.Γ a=some o)∧(ρ.lam=false→g.Γ a=none):=by
 unfold valUp at hv
 split at hv
 ·exact fr.cell x p (.inl ⟨by assumption,hv⟩)
 ·exact fr.cell x p (.inr ⟨by assumption,hv⟩)
 ·exact absN hv
omit O H in
theorem compFr{g:GW}{h h':Heap}(fr:FrR X g ρ c h){sc:Scope}{up:List (Str×PV)}(hk:isFun sc=true)(hn:noCells sc=true)(hu:upOf ρ sc.names=some up){C:Addr}(hns:h'.Ns C λzz=>none)(hC:g.Γ C=none∧C∉g.la∧C≠X.P)
  (kp:∀b o,h.get? b=some o→h'.get? b=some o):FrR X g { scope:=sc,vars:=[],up:=up,lam:=ρ.lam,q:=ρ.q } (compEnvC sc (clOf c sc.names []) C c) h':=by
 have hall:∀q∈clOf c sc.names [],c.cells.lookup q.1=some q.2:=clOf_in (P:=λq=>c.cells.lookup q.1=some q.2) (λx hx=>by
  refine x1_1 (upOf_mem hu hx) λp hp=>?_
  refine x2_2 (valUp_cell fr hp) λa v e zz=>?_
  simp[e]) λq hq=>by cases hq
 refine⟨?_,fr.glob,fr.blt,λx k e=>?_,⟨_,hns,λx p zz e=>by exact absN e⟩,hC,λx p e=>?_,λx e=>?_,λx y a e1 e2=>?_,λz a e=>?_,fr.shw⟩
 ·exact isFun_eq hk
 ·rw[lk_eq]at e;exact relabel_names e
 ·rcases e with⟨e,zz⟩|⟨e1,e2⟩
  ·exact absurd (lk_mem e) (noCells_ok hn)
  ·refine x2_3 (valUp_cell fr (upOf_val hu e2)) λa v f1 ho1 f4=>?_;refine x1_2 ho1 λo f2 f3=>?_;clear ho1
   refine x1_1 (mem_lookup (clOf_has (c:=c) (acc:=[]) (lk_mem e1))) λb hb=>?_
   have hb':=hall _ (lookup_mem hb)
   rw[f1]at hb'
   have hab:a=b:=by injection hb'
   subst hab
   exact⟨a,v,hb,⟨o,kp _ _ f2,f3⟩,f4⟩
 ·exact absurd (lk_mem e) (noCells_ok hn)
 ·exact fr.inj x y a (hall _ (lookup_mem e1)) (hall _ (lookup_mem e2))
 ·refine x0_2 (fr.all z a (hall _ (lookup_mem e))) λho2 f4=>?_;refine x2_2 ho2 λu oc f2 f3=>?_;clear ho2
  exact⟨⟨u,oc,kp _ _ f2,f3⟩,f4⟩
noncomputable def CompFin(X:Fix)(A:Around)(E:Value→Shared→Prop)(use:Option (Value→Sem Unit))(Q:Value→Shared→Prop)(C:Addr)(v:Value)(s':Shared):Prop:=match use with
 |none=>∀h',Heap.SameBut C s'.heap h'→Q v { s' with heap:=h' }
 |some u=>wpAny (model X.prog X.w) A (u v) (λ_ s''=>∃m,s''.heap.Ns C m∧∀h',Heap.SameBut C s''.heap h'→Q .none { s'' with heap:=h' }) E s'
set_option tactic.hygienic true in
theorem comp_ok{cx:Cx}(hT:cx.T=X.T)(am:Amb X d A fe outer F c)(w:Wh X ρ c (fe::outer) g σ s){elt target iter:Expr}{ifs:List Expr}{ia:Int}{sc:Scope}{pos pos':Pos}{k:KV}{use:Option (Value→Sem Unit)}{Q:Value→Shared→Prop}{E:Value→Shared→Prop}{up:List (Str×PV)}
  (hg:compOk ⟨target,iter,ifs,ia⟩ sc=true) (hu:upOf ρ sc.names=some up)
  (h:evSrc cx L iter ρ σ (λs σ=>if tgtOk s target then compGo L elt target ifs σ.length kx loopMax s { scope:=sc,vars:=[],up:=up,lam:=ρ.lam,q:=ρ.q } (σ++[[]]) λσ'=>k (.lst σ.length) σ' else false) kx=true)
  (hE:∀e s',PX X noS (fe::outer) F g s kx e s'→E e s')
  (hfin:∀v C g' σ' s' p m,To X noS (fe::outer) g s g' s'→HR X g' σ' s'.heap→RepV X g' v p→k p σ'=true→s.heap.objs.size≤C→s'.heap.Ns C m→Own X g' C→CompFin X A E use Q C v s') :
  wpAny (model X.prog X.w) A (comprehension (.ListComp elt [⟨target,iter,ifs,ia⟩] sc pos) sc c pos' (newList []) false (firstIter [⟨target,iter,ifs,ia⟩] c) use) Q E s:=by
 dsimp only[compOk]at hg
 refine band5 hg λh1 h2 h3 h4 h5=>?_;clear hg
 have hia:ia=0:=eq_of_beq h1
 refine rwG hia ?_;clear hia
 have hkind:sc.kind=.function:=by
  exact isFun_eq h3
 have hfold:∀x,foldedSetIterable iter c x=pure x:=by
  intro x
  cases iter <;> first|rfl|(exact absF h2;done)
 have hcl:∀x,(x,NameKind.free)∈sc.names→∃a,c.cells.lookup x=some a:=λx hx=>by
  refine x1_1 (upOf_mem hu hx) λp hp=>?_
  refine x2_2 (valUp_cell w.fr hp) λa v e zz=>?_
  exact⟨a,e⟩
 have hnames:∀x∈sc.names,x.2=.local→sc.names.lookup x.1=some .local:=λx hx hl=>by
  have:=(vF h5) x hx
  rw[hl]at this
  dsimp only at this
  split at this
  ·rename_i e;rw[←lk_eq];exact e
  ·exact absF this
 have hfrs:∀M∈fsOf (fe::outer),M<s.heap.objs.size:=λM hM=>by
  refine x0_4 (w.fs.mem hM) λzz zz zz hq3=>?_;refine x1_2 hq3 λo ho zz=>?_
  exact Heap.lt_size ho
 refine comp_run rfl hfold (closure_ok hcl) hkind hnames (wpAny_mono (src_ok O H hT am w h) (λv s₁ h₁=>wpAny_mono h₁ (λit s₂ h₂=>?_) λe s' q=>hE e s' q) λe s' q=>hE e s' q)
 refine SrcPost.el h₂ λI ws src g₂ σ₂ he5=>?_;refine rwG he5 ?_;clear he5;intro t₂ R₂ it₂ own₂ hk₂;clear h₂
 refine iteS hk₂ ?_ ?_ <;> clear hk₂ <;> intro _ hk₂
 ·rename_i htg
  have w₂:=w.step t₂ R₂
  refine wpAny_newObj_type ?_
  refine x0_6 (vg_new O R₂ (l:=fe::outer) (S:=noS) (o:={ cls:=.type "list",dict:=none,data:=.seq ([]:List Value).toArray }) rfl) λt₃ R₃ ho₃ f1 f2 f3=>?_
  refine x0_2 (R₃.newList (a:=s₂.heap.objs.size) (vs:=#[]) (xs:=[]) ⟨0,ho₃⟩ .nil f1 f2 f3) λR₃' r₃=>?_
  refine wpAny_newFunctionEnv (λy hy e=>noCells_ok h4 (x:=y.1) (by refine rwS e ?_;exact hy)) (λy hy=>by cases hy) (λh' hns hsb=>?_) hkind
  generalize hH:s₂.heap.push { cls:=.type "list",dict:=none,data:=.seq ([]:List Value).toArray }=H₃ at *
  have hsz3:H₃.objs.size=s₂.heap.objs.size+1:=by refine rwS hH ?_;exact Heap.size_push ..
  have hC1:s₂.heap.objs.size≤H₃.objs.size:=by refine rwG hsz3 ?_;exact Nat.le_succ _
  have kp:∀b o,H₃.get? b=some o→h'.get? b=some o:=λb o e=>(hsb.2 b (Nat.ne_of_lt (Heap.lt_size e))).trans (Heap.get?_push_of_some _ e)
  have kp2:∀b o,s₂.heap.get? b=some o→h'.get? b=some o:=λb o e=>kp b o (by refine rwS hH ?_;exact Heap.get?_push_of_some _ e)
  have hsz:s₂.heap.objs.size≤h'.objs.size:=by
   have:=hsb.1
   rw[Heap.size_push]at this
   lia
  have t₄:To X noS (fe::outer) g₂ s₂ ⟨g₂.Γ,g₂.la++[s₂.heap.objs.size]⟩ { s₂ with heap:=h',toks:=s₂.toks+([]:List (Str×Value)).length }:=
   ⟨(Stp.heap hsz λb o e zz zz zz=>kp2 b o e).newList (vD _),rfl,rfl⟩
  have R₄:HR X ⟨g₂.Γ,g₂.la++[s₂.heap.objs.size]⟩ (σ₂++[[]]) h':=R₃'.heap λb o e zz=>kp b o e
  have w₄:=w₂.step t₄ R₄
  have ownC:Own X ⟨g₂.Γ,g₂.la++[s₂.heap.objs.size]⟩ H₃.objs.size:=let ⟨a,b,c⟩:=R₃'.fresh (vD _);⟨a,b,c⟩
  have frC:FrR X ⟨g₂.Γ,g₂.la++[s₂.heap.objs.size]⟩ { scope:=sc,vars:=[],up:=up,lam:=ρ.lam,q:=ρ.q } (compEnvC sc (clOf c sc.names []) H₃.objs.size c) h':=
   compFr w₄.fr h3 h4 hu hns ⟨ownC.nf,ownC.nl,ownC.nP⟩ λzz zz e=>e
  have wC:Wh X { scope:=sc,vars:=[],up:=up,lam:=ρ.lam,q:=ρ.q } (compEnvC sc (clOf c sc.names []) H₃.objs.size c) (fe::outer) ⟨g₂.Γ,g₂.la++[s₂.heap.objs.size]⟩ (σ₂++[[]]) { s₂ with heap:=h',toks:=s₂.toks+([]:List (Str×Value)).length }:=⟨R₄,w₄.fs,frC⟩
  have amC:Amb X d A fe outer F (compEnvC sc (clOf c sc.names []) H₃.objs.size c):=⟨am.fr,am.hd,am.fe,am.fc,am.units,am.depth⟩
  have hCle:s.heap.objs.size≤H₃.objs.size:=vE t₂.st.size hC1
  have lp:Lp X (fe::outer) (compEnvC sc (clOf c sc.names []) H₃.objs.size c) s.heap.objs.size ⟨g₂.Γ,g₂.la++[s₂.heap.objs.size]⟩ h' I ws src:=by
   refine⟨it₂.step t₄.st.gext λb hb o e=>kp2 b o e,λb hb=>?_,λb hb=>(own₂ b hb).2,λhm=>?_,λz a e=>?_,hfrs⟩
   ·refine x1_1 (it₂.mem b hb) λo e=>?_
    exact(own₂ b hb).1.step t₄.st e
   ·refine x1_1 (it₂.mem _ hm) λo e=>?_
    exact absurd (Heap.lt_size e) (vL hC1)
   ·have hall:∀q∈clOf c sc.names [],q.2<s.heap.objs.size:=clOf_in (P:=λq=>q.2<s.heap.objs.size) (λx hx=>by
     refine x1_1 (upOf_mem hu hx) λp hp=>?_
     refine x2_3 (valUp_cell w.fr hp) λa v e ho3 zz=>?_;refine x1_2 ho3 λo ho zz=>?_;clear ho3
     simp only[e,Option.getD_some]
     exact Heap.lt_size ho) λq hq=>by cases hq
    exact hall _ (lookup_mem e)
  have ha:(g₂.la++[s₂.heap.objs.size])[σ₂.length]?=some s₂.heap.objs.size:=by refine rwS R₂.len ?_;simp
  have hok:∀f g₃ σ₃ s₃ ρ',To X noS (fe::outer) g s g₃ s₃→Wh X ρ' (compEnvC sc (clOf c sc.names []) H₃.objs.size c) (fe::outer) g₃ σ₃ s₃→g₃.la[σ₂.length]?=some s₂.heap.objs.size→k (.lst σ₂.length) σ₃=true →
    CPost (model X.prog X.w) A E use Q (.ref s₂.heap.objs.size) (compEnvC sc (clOf c sc.names []) H₃.objs.size c) (.ok f) s₃:=by
   intro f g₃ σ₃ s₃ ρ' t w' hl hk
   refine x1_2 w'.fr.loc λm hn zz=>?_
   have o3:Own X g₃ H₃.objs.size:=⟨w'.fr.locOk.1,w'.fr.locOk.2.1,w'.fr.locOk.2.2⟩
   have:=hfin (.ref s₂.heap.objs.size) H₃.objs.size g₃ σ₃ s₃ (.lst σ₂.length) m t w'.R (.lst hl) hk hCle hn o3
   cases use with
   |none=>exact⟨m,hn,this⟩
   |some u=>exact this
  have herr:∀e s' g₃ σ₃ s₃ ρ',To X noS (fe::outer) g s g₃ s₃→Wh X ρ' (compEnvC sc (clOf c sc.names []) H₃.objs.size c) (fe::outer) g₃ σ₃ s₃→PX X noS (fe::outer) F g₃ s₃ kx e s' →
    notedBy (model X.prog X.w) A (compEnvC sc (clOf c sc.names []) H₃.objs.size c) (λe s'=>CPost (model X.prog X.w) A E use Q (.ref s₂.heap.objs.size) (compEnvC sc (clOf c sc.names []) H₃.objs.size c) (.error e) s') e s':=by
   intro e s' g₃ σ₃ s₃ ρ' t w' px
   refine noteFrame_rel am.fr am.fe amC.fc px λtb s'' x=>?_
   refine x0_2 (x.block t w' hfrs hCle) λho4 hb=>?_;refine x1_1 ho4 λm hn=>?_;clear ho4
   have fin:∃m,s''.heap.Ns H₃.objs.size m∧∀h',Heap.SameBut H₃.objs.size s''.heap h'→wpAny (model X.prog X.w) A (PySem.passOn "comprehension.variables-let-go" e (compEnvC sc (clOf c sc.names []) H₃.objs.size c):Sem Value) (λzz zz=>False) E { s'' with heap:=h' }:=
    ⟨m,hn,λh'' hs''=>passOn_rel amC.fc (hb h'' hs'') λs₄ p=>hE e s₄ p⟩
   cases use <;> exact fin
  have loop:codeAny (model X.prog X.w) A (.compLoop (.ListComp elt [⟨target,iter,ifs,0⟩] sc pos) 0 (.ref I) (.ref s₂.heap.objs.size) (compEnvC sc (clOf c sc.names []) H₃.objs.size c)) (CPost (model X.prog X.w) A E use Q (.ref s₂.heap.objs.size) (compEnvC sc (clOf c sc.names []) H₃.objs.size c)) { s₂ with heap:=h',toks:=s₂.toks+([]:List (Str×Value)).length }:=
   compGo_ok O H amC (g:=g) (s:=s) hCle hok herr loopMax (t₂.trans t₄) wC lp h4 ha htg hk₂
  exact codeAny_compStart_list loop (iter_self lp.it loop)
 ·exact absF hk₂
end
end
section
noncomputable def OrcOK(X:Fix)(d:Nat)(orc:Orc):Prop:=∀{A fe outer F g σ s v c vs ps k kx},Amb X d A fe outer F fe→HR X g σ s.heap→FramesOK X g s.heap (fe::outer)→RepV X g v c→RepL X g vs ps→orc c ps σ k kx=true →
 wpAny (model X.prog X.w) A (call v vs) (VG X noS (fe::outer) g s (RV X k)) (PX X noS (fe::outer) F g s kx) s
section
variable{X:Fix}(O:FixOK X){d:Nat}{L:Lvl}(H:LvOK X d L){A:Around}{fe:Env}{outer:List Env}{F:Addr}{c:Env}{ρ:Fr}{g:GW}{σ:Sto}{s:Shared}{kx:KX}
include O H
omit H in
theorem fn_val(R:HR X g σ s.heap){v:Value}{p:PV}(r:RepV X g v p)(h:fnP X.T.K p=true):∃a o fd,v=.ref a∧g.Γ a=some o∧o.data=.func fd:=by
 cases p with
 |old=>
  refine ifE' h fT ?_;clear h;intro ob e' h;refine ifE' h fT ?_;clear h;intro fd hfd h
  refine x1_2 r.iO λo he1=>?_;refine rwG he1 ?_;clear he1;intro e
  refine x3_1 (funV_eq hfd) λzz zz zz he3=>?_;subst he3
  exact⟨_,_,_,rfl,R.base _ _ (O.inK _ _ (klS e')),rfl⟩
 |clos=>
  refine x7_1 r.iC λzz zz zz zz zz zz zz hq7=>?_;refine x1_2 hq7 λzz he8=>?_;refine rwG he8 ?_;clear he8;intro e
  exact⟨_,_,_,rfl,e.e1,rfl⟩
 |hole i=>
  obtain rfl:=vB h
  refine x1_2 r.iH λΓ₀ e k=>?_
  refine x3_3 (O.cl _ _ e) λa o fd he3=>?_;refine rwG he3 ?_;clear he3;intro e1 e2
  exact⟨_,_,_,rfl,k _ _ e1,e2⟩
 |_=>exact absF h
theorem callName_ok{cx:Cx}(hT:cx.T=X.T)(hO:OrcOK X d cx.orc)(am:Amb X d A fe outer F c)(w:Wh X ρ c (fe::outer) g σ s){f:Str}{p pos:Pos}{es:List Expr}{k:KV}{q:PV}(hs:es.all noStar=true)(hq:nameP cx f ρ=some q)(hf:fnP cx.T.K q=true)
  (h:evs L es ρ σ (λps σ=>cx.orc q ps σ k kx) kx=true) :
  wpAny (model X.prog X.w) A (eval (.Call (.Name f p) es [] pos) c) (VG X noS (fe::outer) g s (RV X k)) (PX X noS (fe::outer) F g s kx) s:=by
 refine x1_2 (name_val O (A:=A) (pos:=p) hT w hq) λv rv hv=>?_
 rw[hT]at hf
 refine x3_3 (fn_val O w.R rv hf) λa o fd he3=>?_;subst he3;intro ho hd
 have hp:=(starEach_plain (c:=c) (pos:=pos) hs).1
 refine PyProof.Rows.Call_Name rfl (hv _ _ (callWith_function (o:=o) (fd:=fd) (evalArgs_all hp (vgoL (evs_ok H am pos es w _ h) λvs g₁ σ₁ s₁ t R₁ ps rp hk=>?_))))
 have w₁:=w.step t R₁
 exact⟨⟨R₁.frz _ _ (t.st.ext _ _ ho),hd⟩,vre t (hO ⟨am.fr,am.hd,am.fe,am.fe,am.units,am.depth⟩ R₁ w₁.fs (repV_mono t.st.gext rv) rp hk)⟩
omit O H in
theorem codeAmong_snoc'{pos pos':Pos}{c v:Value}(l:List Value)(ht:TriplesOk l)(h:codeAmong pos (l++[rawInt pos'.line,rawInt pos'.col,c])=some v):v=c∨codeAmong pos l=some v:=by
 fun_induction TriplesOk l with
 |case1=>
  simp only[List.nil_append,rawInt,codeAmong]at h
  exact iteS h (λ_ h=>.inl (vC h).symm) λ_ h=>absN h
 |case2 a _ b _ x r ih=>
  rw[List.cons_append,List.cons_append,List.cons_append,codeAmong]at h
  rw[codeAmong]
  by_cases hc:(a==(pos.line:Int)&&b==(pos.col:Int))=true
  ·rw[if_pos hc]at h ⊢;exact .inr h
  ·rw[if_neg hc]at h ⊢;exact ih ht h
 |case3=>exact ht.elim
omit O H in
theorem TriplesOk_snoc'{l:List Value}(h:TriplesOk l)(a b:Nat)(c:Value):TriplesOk (l++[rawInt a,rawInt b,c]):=by
 fun_induction TriplesOk l with
 |case1=>trivial
 |case2 _ _ _ _ _ rest ih=>exact ih h
 |case3=>exact h.elim
omit O H in
theorem noDef_ok{ag:Arguments}(h:noDef ag=true):defaultsOf ag c=([],[]):=by
 obtain⟨po,as,va,ko,kd,kw,df⟩:=ag
 refine band6 h ?_;clear h;intro h1 h2 h3 h4 h5 h6
 refine rwG (List.isEmpty_iff.mp h3) ?_
 obtain rfl:=List.isEmpty_iff.mp h4
 obtain rfl:=List.isEmpty_iff.mp h6
 rfl
omit O H in
theorem freeOne_ok{sc:Scope}{x:Str}(h:freeOne sc=some x):clOf c sc.names []=[(x,(c.cells.lookup x).getD 0)]∧∀y,(y,NameKind.free)∈sc.names→y=x:=by
 have key:∀(l:List (Str×NameKind)) (acc:List (Str×Addr)),clOf c l acc=((l.filter λx=>isFreeK x.2).map λy=>(y.1,(c.cells.lookup y.1).getD 0)).reverse++acc:=by
  intro l
  induction l with
  |nil=>intro acc;rfl
  |cons y r ih=>
   intro acc
   obtain⟨n,k⟩:=y
   rw[clOf_c]
   cases k <;> simp[ih,isFreeK]
 have h:oneK none (sc.names.filter λx=>isFreeK x.2) (λe=>some e.1)=some x:=h
 have hz:∃y,(sc.names.filter λx=>isFreeK x.2)=[y]∧y.1=x:=oneE (P:=λl=>∃y,l=[y]∧y.1=x) h nS λy h=>⟨y,rfl,vC h⟩
 refine x1_2 hz λy e e2=>?_
 subst e2
 refine⟨?_,λy hy=>?_⟩
 ·rw[key,e];rfl
 ·have:(y,NameKind.free)∈sc.names.filter (λx=>isFreeK x.2):=List.mem_filter.mpr ⟨hy,rfl⟩
  rw[e]at this
  exact congrArg Prod.fst (vM this)
theorem lam_ok(am:Amb X d A fe outer F c)(w:Wh X ρ c (fe::outer) g σ s){ag:Arguments}{body:Expr}{sc:Scope}{pos:Pos}{x:Str}{p:PV}{k:KV}(hx:freeOne sc=some x)(hg:(noCells sc&&ρ.lam&&ρ.q&&noDef ag)=true)
  (e1:lk x ρ.scope.names=some .cell) (e2:lk x ρ.vars=some p) (hk:k (.clos ag body sc x p) σ=true) {E:Value→Shared→Prop} :
  wpAny (model X.prog X.w) A (eval (.Lambda ag body sc pos) c) (VG X noS (fe::outer) g s (RV X k)) E s:=by
 refine band4 hg λh1 h2 h3 h4=>?_;clear hg
 refine x2_7 (w.fr.cell x p (.inl ⟨e1,e2⟩)) λa v c1 ho1 rv c4 c5 c6 zz=>?_;refine x1_2 ho1 λoc c2 c3=>?_;clear ho1
 refine x1_1 (c6 h2) λoc' hfr=>?_
 refine x0_2 (freeOne_ok (c:=c) hx) λhcl hone=>?_
 have hclo:=closure_ok (sc:=sc) (c:=c) λy hy=>by refine rwG (hone y hy) ?_;exact⟨a,c1⟩
 rw[hcl,c1]at hclo
 refine x0_2 (w.fr.shw h3) λhcode hq=>?_
 have hdef:defaultsOf ag c=([],[]):=noDef_ok h4
 refine x1_3 w.R.tab.tab λps hP htr htab=>?_
 refine x1_2 O.bmain λmg hmg hbm=>?_
 have kB:∀b o,X.B.get? b=some o→s.heap.get? b=some o:=λb o e=>w.R.frz _ _ (w.R.base _ _ e)
 have hns:s.heap.Ns mainGlobals mg:=hmg.at' λo e=>kB _ o e
 have hba:s.heap.BuiltinsAt mg X.P:=by
  refine x2_6 hbm λbm o b1 b2 b3 b4 b5 b6=>?_;clear hbm
  exact⟨bm,o,b1,b2,b3,b4,kB _ _ b5,b6⟩
 have hC:CodeHd s.heap X.cc X.P:=O.code.keeps kB
 have hfz:g.Γ a=some oc:=by
  have:=w.R.frz _ _ hfr
  rw[c2]at this;refine someI this ?_;clear this;intro hx;refine rwG hx ?_;clear hx;exact hfr
 refine kla_eval hdef ?_
 refine rwG hq ?_
 have rep:∀{g':GW} {f cd:Addr} {o:Obj} {vs:Array Value} {t:Tok} {pm ctv:Value},GExt g g'→g'.Γ f=some (kla_obj "<lambda>" X.q ag body sc [(x,a)] pm cd ctv)→g'.Γ cd=some o→o.data=.fields vs→vs[1]?=some (.str X.q t)→RepV X g' (.ref f) (.clos ag body sc x p):=
  λge q1 q2 q3 q4=>.clos q1 rfl rfl rfl rfl rfl rfl rfl rfl ⟨_,_,_,_,rfl,q2,q3,q4⟩ (ge.ext _ _ hfz) c3 (repV_mono ge rv)
 cases hf:codeAmong pos ps.toList with
 |some cv=>
  refine x4_4 (htab pos cv hf) λcd o vs t he4=>?_;subst he4;intro q2 q3 q4
  refine kla_makeFunctionHit hclo w.fr.glob hns hcode hC hP htr hf hba λctv h' tk kp hsz=>?_
  have R':HR X g σ h':=w.R.heap λb o e zz=>kp b o e
  refine x0_6 (vg_new O (s:={ s with heap:=h',toks:=tk }) R' (l:=fe::outer) (S:=noS) (o:=kla_obj "<lambda>" X.q ag body sc [(x,a)] ((mg "__name__").getD .none) cd ctv) rfl) λt1 R1 ho f1 f2 f3=>?_
  have t0:To X noS (fe::outer) g s g { s with heap:=h',toks:=tk }:=⟨Stp.heap hsz λb o e zz zz zz=>kp b o e,rfl,rfl⟩
  have ge:GExt g ⟨λb=>if b=h'.objs.size then some (kla_obj "<lambda>" X.q ag body sc [(x,a)] ((mg "__name__").getD .none) cd ctv)else g.Γ b,g.la⟩:=⟨λb o' e=>by
   show(if b=h'.objs.size then _ else g.Γ b)=some o'
   by_cases hb:b=h'.objs.size
   ·subst hb;rw[f1]at e;exact absN e
   ·refine rwG (if_neg hb) ?_;exact e,[],(vO _).symm⟩
  refine⟨_,σ,⟨((t0.trans t1).st.freeze (a:=h'.objs.size) (o:=kla_obj "<lambda>" X.q ag body sc [(x,a)] ((mg "__name__").getD .none) cd ctv) (vE t0.st.size (vD _)) f1),rfl,rfl⟩,R1.freeze ho f2 f3 f1,_,rep ge (if_pos rfl) (ge.ext _ _ q2) q3 q4,hk⟩
 |none=>
  refine kla_makeFunction hclo w.fr.glob hns hcode hC hP htr hf O.gP hba λc' ctv h' tk hx' hge hlt hrec htb=>?_
  refine x4_4 hrec λc₂ oC vs t e3 hoC hdC hqC=>?_;clear hrec
  cases e3
  -- the heap with the new code object and the longer table
  have hsz:s.heap.objs.size≤h'.objs.size:=Nat.le_of_lt (Nat.lt_of_le_of_lt hge hlt)
  refine x0_3 (w.R.fresh hge) λn1 n2 n3=>?_
  let g1:GW:=⟨λb=>if b=c' then some oC else g.Γ b,g.la⟩
  have ge1:GExt g g1:=⟨λb o' e=>by
   show(if b=c' then _ else g.Γ b)=some o'
   by_cases hb:b=c'
   ·subst hb;rw[n1]at e;exact absN e
   ·refine rwG (if_neg hb) ?_;exact e,[],(vO _).symm⟩
  have kp:∀b o,s.heap.get? b=some o→(g.Γ b≠none∨b∈g.la)→h'.get? b=some o:=λb o e q=>hx' b o (by
   rintro rfl
   rcases q with q|q
   ·exact q w.R.noP
   ·exact(w.R.laF _ q).2 rfl) e
  have tabN:TabInv X g1 h':=⟨_,htb,by
    have:=TriplesOk_snoc' htr pos.line pos.col (.ref c')
    simpa using this,λpos' v' e=>by
    have e':codeAmong pos' (ps.toList++[rawInt pos.line,rawInt pos.col,.ref c'])=some v':=by simpa using e
    rcases codeAmong_snoc' _ htr e' with rfl|q
    ·exact⟨c',oC,vs,t,rfl,if_pos rfl,hdC,hqC⟩
    ·refine x4_3 (htab pos' v' q) λcd o vs' t' i1 i2 i3=>?_
     exact⟨cd,o,vs',t',i1,ge1.ext _ _ i2,i3⟩⟩
  have R1:HR X g1 σ h':=by
   refine⟨λb o e=>?_,λb o e=>ge1.ext _ _ (w.R.base b o e),w.R.len,λi b xs q1 q2=>?_,w.R.nod,λb hb=>⟨?_,(w.R.laF b hb).2⟩,tabN,?_⟩
   ·have e':(if b=c' then some oC else g.Γ b)=some o:=e
    by_cases hb:b=c'
    ·rw[if_pos hb]at e';refine someI e' ?_;clear e';intro hx;refine rwS hx ?_;clear hx;refine rwG hb ?_;exact hoC
    ·rw[if_neg hb]at e';exact kp b o (w.R.frz _ _ e') (.inl (by refine rwG e' ?_;simp))
   ·refine x1_2 (w.R.lst i b xs q1 q2) λus ho2 q=>?_;refine x1_1 ho2 λm ho=>?_;clear ho2
    exact⟨us,⟨m,kp b _ ho (.inr (vN q1))⟩,repL_mono ge1 q⟩
   ·show(if b=c' then some oC else g.Γ b)=none
    rw[if_neg (λq=>n2 (by refine rwS q ?_;exact hb))];exact(w.R.laF b hb).1
   ·show(if X.P=c' then some oC else g.Γ X.P)=none
    refine rwG (if_neg (Ne.symm n3)) ?_;exact w.R.noP
  have t0:To X noS (fe::outer) g s g1 { s with heap:=h',toks:=tk }:=by
   have st:Stp X noS (fsOf (fe::outer)) g s.heap g h':=⟨hsz,λzz zz e=>e,λzz zz e=>.inl e,⟨[],(vO _).symm,λzz h=>(List.not_mem_nil h).elim⟩,λb o e zz zz q=>⟨o,hx' b o q e,.inl rfl⟩⟩
   exact⟨st.freeze hge n1,rfl,rfl⟩
  refine x0_6 (vg_new O (s:={ s with heap:=h',toks:=tk }) R1 (l:=fe::outer) (S:=noS) (o:=kla_obj "<lambda>" X.q ag body sc [(x,a)] ((mg "__name__").getD .none) c' ctv) rfl) λt1 R2 ho f1 f2 f3=>?_
  have ge:GExt g1 ⟨λb=>if b=h'.objs.size then some (kla_obj "<lambda>" X.q ag body sc [(x,a)] ((mg "__name__").getD .none) c' ctv)else g1.Γ b,g1.la⟩:=⟨λb o' e=>by
   show(if b=h'.objs.size then _ else g1.Γ b)=some o'
   by_cases hb:b=h'.objs.size
   ·subst hb;rw[f1]at e;exact absN e
   ·refine rwG (if_neg hb) ?_;exact e,[],(vO _).symm⟩
  refine⟨_,σ,⟨((t0.trans t1).st.freeze (a:=h'.objs.size) (o:=kla_obj "<lambda>" X.q ag body sc [(x,a)] ((mg "__name__").getD .none) c' ctv) hsz f1),rfl,rfl⟩,R2.freeze ho f2 f3 f1,_,rep (ge1.trans ge) (if_pos rfl) (ge.ext _ _ (if_pos rfl)) hdC hqC,hk⟩
end
end
section
section
variable{X:Fix}(O:FixOK X){d:Nat}{L:Lvl}(H:LvOK X d L){cx:Cx}(hT:cx.T=X.T)(hO:OrcOK X d cx.orc){A:Around}{fe:Env}{outer:List Env}{F:Addr}{c:Env}{ρ:Fr}{g:GW}{σ:Sto}{s:Shared}{kx:KX}
include O H hT hO
omit O H hT hO in
theorem isTr_plain{e:Expr}{whole:Sem Value}(h:¬isTr e=true):isTrue e c whole=(do let v ←whole;standAt e.pos;holding [v] (truthy v)):=by
 cases e with
 |UnaryOp op x pos=>cases op with
  |Not=>exact absurd rfl h
  |_=>rfl
 |BoolOp=>exact absurd rfl h
 |IfExp=>exact absurd rfl h
 |Compare=>exact absurd rfl h
 |_=>rfl
omit O H hT hO in
theorem asSlice_eq{e:Expr}{z:Option Expr×Option Expr×Option Expr×Pos}(h:asSlice e=some z):e=.Slice z.1 z.2.1 z.2.2.1 z.2.2.2:=by
 cases e with
 |Slice a b c p=>obtain rfl:=vC h;rfl
 |_=>exact absN h
omit O H hT hO in
theorem isCellK_eq{sc:Scope}{x:Str}(h:isCellK sc x=true):lk x sc.names=some .cell:=by
 unfold isCellK at h
 refine ifE h fT λk h=>?_
 cases k with
 |cell=>rfl
 |_=>exact absF h
omit hO in
theorem evComp_ok(am:Amb X d A fe outer F c)(w:Wh X ρ c (fe::outer) g σ s){elt:Expr}{gg:Comprehension}{sc:Scope}{pos:Pos}{k:KV}(h:evComp cx L elt gg sc ρ σ k kx=true) :
  wpAny (model X.prog X.w) A (eval (.ListComp elt [gg] sc pos) c) (VG X noS (fe::outer) g s (RV X k)) (PX X noS (fe::outer) F g s kx) s:=by
 refine ifB h fT ?_;clear h;intro hg h;refine ifE' h fT ?_;clear h;intro up hu h
 obtain⟨target,iter,ifs,ia⟩:=gg
 rw[eval_ListComp]
 have hia:ia=0:=by
  dsimp only[compOk]at hg
  simp only[Bool.and_eq_true]at hg
  simpa using hg.1.1.1.1
 subst hia
 refine comp_ok O H hT am w hg hu h (λzz zz q=>q) λv C g' σ' s' p m t R r hk hC hn ow h' hs'=>?_
 refine⟨g',σ',⟨t.st.trans' (S':=λb=>b=C) (Stp.heap (Nat.le_of_eq hs'.1.symm) λb o e nb zz zz=>(hs'.2 b nb).trans e) λb hb=>.inr (by rw[hb];exact hC),t.gens,t.os⟩,R.heap λb o e q=>(hs'.2 b (ow.ne q)).trans e,p,r,hk⟩
omit hO in
theorem evLam_ok(am:Amb X d A fe outer F c)(w:Wh X ρ c (fe::outer) g σ s){ag:Arguments}{body:Expr}{sc:Scope}{pos:Pos}{k:KV}(h:evLam ag body sc ρ σ k=true) :
  wpAny (model X.prog X.w) A (eval (.Lambda ag body sc pos) c) (VG X noS (fe::outer) g s (RV X k)) (PX X noS (fe::outer) F g s kx) s:=
 ifE' h fT λx hx h=>ifB h fT λhg h=>ifB h fT λe1 h=>ifE' h fT λp e2 h=>lam_ok O H am w hx hg (isCellK_eq e1) e2 h
omit O H hT hO in
theorem isJoin_eq{mk:MK}(h:isJoin mk=true):mk=.join:=by
 cases mk with
 |join=>rfl
 |_=>exact absF h
omit hO in
theorem evMeth_ok(am:Amb X d A fe outer F c)(w:Wh X ρ c (fe::outer) g σ s){o:Expr}{m:Str}{apos pos:Pos}{args:List Expr}{k:KV}(h:evMeth cx L o m apos args pos ρ σ k kx=true) :
  wpAny (model X.prog X.w) A (eval (.Call (.Attribute o m apos) args [] pos) c) (VG X noS (fe::outer) g s (RV X k)) (PX X noS (fe::outer) F g s kx) s:=by
 refine ifB h fT ?_;clear h;intro hg h;refine ifE' h fT ?_;clear h;intro mk hm h
 cases hr:revArg cx ρ args with
 |none=>rw[hr]at h;exact meth_ok O H hT am w hg hm h
 |some a=>
  rw[hr]at h
  refine ifB h fT ?_;clear h;intro hj h
  obtain rfl:=isJoin_eq hj
  exact joinRevE_ok O H hT am w hg hm hr h
theorem evNm_ok(am:Amb X d A fe outer F c)(w:Wh X ρ c (fe::outer) g σ s){f:Str}{p pos:Pos}{args:List Expr}{k:KV}(h:evNm cx L f args ρ σ k kx=true) :
  wpAny (model X.prog X.w) A (eval (.Call (.Name f p) args [] pos) c) (VG X noS (fe::outer) g s (RV X k)) (PX X noS (fe::outer) F g s kx) s:=by
 refine ifB h fT λhs h=>?_
 cases hq:nameP cx f ρ with
 |none=>rw[hq]at h;exact bltP_ok O H hT am w hs h
 |some q=>rw[hq]at h;exact ifB h fT λhf h=>callName_ok O H hT hO am w hs hq hf h
theorem evNL_ok(am:Amb X d A fe outer F c)(w:Wh X ρ c (fe::outer) g σ s){f:Str}{p pos:Pos}{args:List Expr}{k:KV}(h:evNL cx L f args ρ σ k kx=true) :
  wpAny (model X.prog X.w) A (eval (.Call (.Name f p) args [] pos) c) (VG X noS (fe::outer) g s (RV X k)) (PX X noS (fe::outer) F g s kx) s:=by
 unfold evNL at h
 revert h
 cases he:lrArg cx ρ f args with
 |none=>exactλh=>evNm_ok O H hT hO am w h
 |some es=>exactλh=>evLR_ok O H hT am w he h
theorem evCC_ok(am:Amb X d A fe outer F c)(w:Wh X ρ c (fe::outer) g σ s){f:Expr}{pos:Pos}{args:List Expr}{k:KV}(h:evCC cx L f args ρ σ k kx=true) :
  wpAny (model X.prog X.w) A (do callWith pos (←eval f c) [] (backTo pos (starEach args c)) (backToKw pos (keywordEach [] c))) (VG X noS (fe::outer) g s (RV X k)) (PX X noS (fe::outer) F g s kx) s:=by
 refine ifB h fT λhs h=>?_
 refine wpAny_bind (vgoV (H.ev am w f _ kx h) λv g₁ σ₁ s₁ t R₁ q rq hk=>ifB hk fT λhf hk=>?_)
 rw[hT]at hf
 have w₁:=w.step t R₁
 refine x3_3 (fn_val O R₁ rq hf) λa o fd he3=>?_;subst he3;intro ho hd
 have hp:=(starEach_plain (c:=c) (pos:=pos) hs).1
 refine vre t (callWith_function (o:=o) (fd:=fd) (evalArgs_all hp (vgoL (evs_ok H am pos args w₁ _ hk) λvs g₂ σ₂ s₂ t₂ R₂ ps rp hk₂=>?_)))
 have w₂:=w₁.step t₂ R₂
 exact⟨⟨R₂.frz _ _ (t₂.st.ext _ _ ho),hd⟩,vre t₂ (hO ⟨am.fr,am.hd,am.fe,am.fe,am.units,am.depth⟩ R₂ w₂.fs (repV_mono t₂.st.gext rq) rp hk₂)⟩
omit hO in
theorem evSub_ok(am:Amb X d A fe outer F c)(w:Wh X ρ c (fe::outer) g σ s){o i:Expr}{pos:Pos}{k:KV}(h:evSub cx L o i ρ σ k kx=true) :
  wpAny (model X.prog X.w) A (eval (.Subscript o i pos) c) (VG X noS (fe::outer) g s (RV X k)) (PX X noS (fe::outer) F g s kx) s:=by
 unfold evSub at h
 cases hz:asSlice i with
 |none=>rw[hz]at h;exact sub_ok O H hT am w h
 |some z=>rw[hz]at h;refine rwG (asSlice_eq hz) ?_;exact slc_ok O H am w h
omit O H hT hO in
theorem isUSub_eq{op:UnaryOp}(h:isUSub op=true):op=.USub:=by
 cases op with
 |USub=>rfl
 |_=>exact absF h
omit hT hO in
theorem neg_ok(w:Wh X ρ c (fe::outer) g σ s){op:UnaryOp}{e:Expr}{pos:Pos}{k:KV}(h:(if isUSub op then negI e λi=>k (.int (-i)) σ else false)=true){E:Value→Shared→Prop} :
  wpAny (model X.prog X.w) A (eval (.UnaryOp op e pos) c) (VG X noS (fe::outer) g s (RV X k)) E s:=by
 refine ifB h fT ?_;clear h;intro hu h
 refine rwG (isUSub_eq hu) ?_
 unfold negI at h
 refine intE h fT ?_;clear h;intro i u p h
 refine UnaryOp_ ?_
 exact wpAny_mkInt (PyProof.Rows.neg_int (vg_val O w.R (.int _ _) h _))
theorem evS_ok(am:Amb X d A fe outer F c)(w:Wh X ρ c (fe::outer) g σ s)(e:Expr)(k:KV)(h:evS cx L e ρ σ k kx=true) :
  wpAny (model X.prog X.w) A (eval e c) (VG X noS (fe::outer) g s (RV X k)) (PX X noS (fe::outer) F g s kx) s:=by
 cases e with
 |Constant=>exact ifE' h fT λp hp h=>const_ok O w hp h
 |Name=>exact ifE' h fT λp hp h=>name_ok O hT w hp h
 |BinOp=>exact binop_ok O H am w h
 |UnaryOp=>exact neg_ok O H w h
 |BoolOp=>exact boolOp_ok O H am _ w h
 |Compare=>exact iteS h (λzz h=>absF h) λhm h=>compare_ok O H hT am w (marks_of hm) h
 |IfExp=>exact ifexp_ok O H am w h
 |Tuple=>exact tuple_ok O H am w h
 |List=>exact list_ok O H am w h
 |Subscript=>exact evSub_ok O H hT am w h
 |Dict=>exact ifB h fT λhn h=>dict_ok O H am w hn h
 |ListComp elt gs sc pos=>exact oneE h fT λgg h=>evComp_ok O H hT am w h
 |Lambda=>exact evLam_ok O H hT am w h
 |Call f args kw pos=>
  refine nilE h fT ?_;clear h;intro h
  cases f with
  |Attribute=>exact evMeth_ok O H hT am w h
  |Name=>exact evNL_ok O H hT hO am w h
  |Call=>exact evCC_ok O H hT hO am w h
  |_=>exact absF h
 |_=>exact absF h
omit hO in
theorem allTr_ok(am:Amb X d A fe outer F c){op:BoolOp}{k:Bool→Sto→Bool}:∀(es:List Expr) {g σ s} (_:Wh X ρ c (fe::outer) g σ s),allTr L ρ kx op es σ k=true →
   wpAny (model X.prog X.w) A (allTrue op es c) (VG X noS (fe::outer) g s (RB k)) (PX X noS (fe::outer) F g s kx) s
 | [],g,σ,s,w,h=>by
  rw[arm_allTrue_nil]
  cases op <;> exact wpAny_pure ⟨g,σ,To.refl,w.R,h⟩
 |e::r,g,σ,s,w,h=>by
  rw[arm_allTrue_cons]
  refine wpAny_bind (vgo (H.tr am w e _ kx h) λb g₁ σ₁ s₁ t R₁ hk=>?_)
  dsimp only[RB]at hk
  cases op <;> cases b
  ·exact wpAny_pure (VG.base t ⟨g₁,σ₁,To.refl,R₁,hk⟩)
  ·exact vre t (allTr_ok am r (w.step t R₁) hk)
  ·exact vre t (allTr_ok am r (w.step t R₁) hk)
  ·exact wpAny_pure (VG.base t ⟨g₁,σ₁,To.refl,R₁,hk⟩)
theorem trS_ok(am:Amb X d A fe outer F c)(w:Wh X ρ c (fe::outer) g σ s)(e:Expr)(k:Bool→Sto→Bool)(h:trS cx L e ρ σ k kx=true) :
  wpAny (model X.prog X.w) A (isTrue e c (eval e c)) (VG X noS (fe::outer) g s (RB k)) (PX X noS (fe::outer) F g s kx) s:=by
 refine iteS h (λhi h=>?_) (λhi h=>?_)
 ·cases e with
  |UnaryOp op x pos=>
   cases op with
   |Not=>exact isTrue_not (vgo (H.tr am w _ _ kx h) λb g₁ σ₁ s₁ t R₁ hk=>VG.base t ⟨g₁,σ₁,To.refl,R₁,hk⟩)
   |_=>exact absF hi
  |BoolOp=>exact allTr_ok O H hT am _ w h
  |Compare=>exact iteS h (λzz h=>absF h) λhm h=>compareT_ok O H hT am w (marks_of hm) h
  |_=>exact absF h
 ·refine isTrue_plain (vgoV (evS_ok O H hT hO am w e _ h) λv g₁ σ₁ s₁ t R₁ p rp hk=>ifE' hk fT λb hb hk=>?_) (isTr_plain hi)
  exact vre t (truth_end O R₁ rp hb hk)
end
theorem lvl_ok{X:Fix}(O:FixOK X){d:Nat}{cx:Cx}(hT:cx.T=X.T)(hO:OrcOK X d cx.orc):∀n,LvOK X d (lvl cx n)
 |0=>⟨λzz zz zz zz zz h=>(absF h),λzz zz zz zz zz h=>(absF h)⟩
 |n+1=>⟨λam w e k zz h=>evS_ok O (lvl_ok O hT hO n) hT hO am w e k h,λam w e k zz h=>trS_ok O (lvl_ok O hT hO n) hT hO am w e k h⟩
end
section
noncomputable def FlR(X:Fix)(g:GW):Flow→FlowP→Prop
 |.next,.next=>True
 |.ret v,.ret p=>RepV X g v p
 |_,_=>False
inductive EPost(X:Fix)(ρ:Fr)(c:Env)(l:List Env)(g:GW)(s:Shared)(k:KF)(f:Flow)(s':Shared):Prop
 |mk (g':GW) (σ':Sto) (ρ':Fr) (fp:FlowP) (t:To X (WS ρ c) l g s g' s') (r:HR X g' σ' s'.heap) (fr:FrR X g' ρ' c s'.heap) (sm:SameFr ρ ρ') (fl:FlR X g' f fp) (h:k fp ρ' σ'=true):EPost X ρ c l g s k f s'
theorem EPost.el{X:Fix}{ρ:Fr}{c:Env}{l:List Env}{g:GW}{s:Shared}{k:KF}{f:Flow}{s':Shared}{G:Prop}(x:EPost X ρ c l g s k f s')(q:∀g' σ' ρ' fp,To X (WS ρ c) l g s g' s'→HR X g' σ' s'.heap→FrR X g' ρ' c s'.heap→SameFr ρ ρ'→FlR X g' f fp→k fp ρ' σ'=true→G):G:=EPost.casesOn x q
section
variable{X:Fix}{l:List Env}{F:Addr}{g g₁:GW}{s s₁ s':Shared}{kx:KX}{ρ ρ₁:Fr}{c:Env}{k:KF}{M:Model}{A:Around}
theorem EPost.base{f:Flow}(t:To X (WS ρ c) l g s g₁ s₁)(e:SameFr ρ ρ₁)(x:EPost X ρ₁ c l g₁ s₁ k f s'):EPost X ρ c l g s k f s':=by
 refine EPost.el x λg' σ' ρ' fp t' r1 r2 r3 r4 r5=>?_;clear x
 exact⟨g',σ',ρ',fp,t.trans (by refine rwS (WS.same (c:=c) e) ?_;exact t'),r1,r2,e.trans r3,r4,r5⟩
theorem PX.baseW{e:Value}(t:To X (WS ρ c) l g s g₁ s₁)(h:SameFr ρ ρ₁)(x:PX X (WS ρ₁ c) l F g₁ s₁ kx e s'):PX X (WS ρ c) l F g s kx e s':=by
 rw[WS.same (c:=c) h]at x
 exact x.base t
theorem noE{α:Type}{t:Sem α}{Q:α→Shared→Prop}(h:wpAny M A t Q (PX X noS l F g s kx) s₁):wpAny M A t Q (PX X (WS ρ c) l F g s kx) s₁:=
 wpAny_mono h (λ_ _ q=>q) λ_ _ q=>q.monoS λ_ q=>q.elim
theorem To.noW(t:To X noS l g s g₁ s₁):To X (WS ρ c) l g s g₁ s₁:=t.mono λ_ q=>q.elim
theorem wre{Q:Flow→Shared→Prop}{t:Sem Flow}(b:To X (WS ρ c) l g s g₁ s₁)(e:SameFr ρ ρ₁)(h:wpAny M A t (EPost X ρ₁ c l g₁ s₁ k) (PX X (WS ρ₁ c) l F g₁ s₁ kx) s₁)(hQ:∀f s',EPost X ρ c l g s k f s'→Q f s') :
  wpAny M A t Q (PX X (WS ρ c) l F g s kx) s₁:=
 wpAny_mono h (λf s' q=>hQ f s' (q.base b e)) λ_ _ q=>q.baseW b e
end
structure ExOK(X:Fix)(d:Nat)(L:Lvl):Prop where
 ex:∀{A fe outer F c ρ g σ s} (_:Amb X d A fe outer F c) (_:Wh X ρ c (fe::outer) g σ s) (st:Stmt) (k:KF) (kx:KX),L.ex st ρ σ k kx=true →
  wpAny (model X.prog X.w) A (exec st c) (EPost X ρ c (fe::outer) g s k) (PX X (WS ρ c) (fe::outer) F g s kx) s
section
variable{X:Fix}(O:FixOK X){d:Nat}{L:Lvl}(H:LvOK X d L)(HX:ExOK X d L){cx:Cx}(hT:cx.T=X.T)(hO:OrcOK X d cx.orc){A:Around}{fe:Env}{outer:List Env}{F:Addr}{c:Env}{ρ:Fr}{g:GW}{σ:Sto}{s:Shared}{kx:KX}
include O H HX hT hO
omit O H hT hO in
theorem execs_ok(am:Amb X d A fe outer F c){k:KF}:∀(ss:List Stmt) {ρ:Fr} {g σ s} (_:Wh X ρ c (fe::outer) g σ s),Internal.execs L ss ρ σ k kx=true →
   wpAny (model X.prog X.w) A (PySem.execs ss c) (EPost X ρ c (fe::outer) g s k) (PX X (WS ρ c) (fe::outer) F g s kx) s
 | [],ρ,g,σ,s,w,h=>by
  rw[arm_execs_nil]
  exact wpAny_pure ⟨g,σ,ρ,.next,To.refl,w.R,w.fr,.refl,trivial,h⟩
 |st::r,ρ,g,σ,s,w,h=>by
  rw[arm_execs_cons]
  refine wpAny_bind (wpAny_mono (HX.ex am w st _ kx h) (λf s₁ q=>?_) λ_ _ q=>q)
  refine EPost.el q λg₁ σ₁ ρ₁ fp t R₁ fr₁ e₁ hf hk=>?_
  have w₁:=w.writes t R₁ fr₁
  cases f with
  |next=>
   cases fp with
   |next=>exact wre t e₁ (execs_ok am r w₁ hk) λ_ _ q=>q
   |ret=>exact hf.elim
  |ret v=>
   cases fp with
   |next=>exact hf.elim
   |ret p=>exact wpAny_pure ⟨g₁,σ₁,ρ₁,.ret p,t,R₁,fr₁,e₁,hf,hk⟩
  |brk=>exact hf.elim
  |cont=>exact hf.elim
omit HX hO hT H in
theorem exprS_ok(am:Amb X d A fe outer F c)(w:Wh X ρ c (fe::outer) g σ s){e:Expr}{pos:Pos}{k:KF}{P:KV}(hn:notComp e=true)(hP:∀p σ,P p σ=true→k .next ρ σ=true)
  (h:wpAny (model X.prog X.w) A (eval e c) (VG X noS (fe::outer) g s (RV X P)) (PX X noS (fe::outer) F g s kx) s) :
  wpAny (model X.prog X.w) A (exec (.Expr e pos) c) (EPost X ρ c (fe::outer) g s k) (PX X (WS ρ c) (fe::outer) F g s kx) s:=by
 refine wpAny_Expr_any (noE (vgoV h λv g₁ σ₁ s₁ t R₁ p rp hk=>⟨g₁,σ₁,ρ,.next,t.noW,R₁,(w.step t R₁).fr,.refl,trivial,hP _ _ hk⟩)) ?_ ?_
 ·unfold interactive
  refine rwG w.fr.kind ?_;rfl
 ·cases e <;> first|rfl|(exact absF hn;done)
omit HX hO hT in
theorem ret_ok(am:Amb X d A fe outer F c)(w:Wh X ρ c (fe::outer) g σ s){e:Expr}{pos:Pos}{k:KF}(h:L.ev e ρ σ (λp σ=>k (.ret p) ρ σ) kx=true) :
  wpAny (model X.prog X.w) A (exec (.Return (some e) pos) c) (EPost X ρ c (fe::outer) g s k) (PX X (WS ρ c) (fe::outer) F g s kx) s:=by
 rw[arm_exec_Return]
 refine wpAny_bind (wpAny_standAt ?_)
 rw[arm_evalOpt_some]
 refine wpAny_bind (noE (vgoV (H.ev am w e _ kx h) λv g₁ σ₁ s₁ t R₁ p rp hk=>?_))
 exact wpAny_pure ⟨g₁,σ₁,ρ,.ret p,t.noW,R₁,(w.step t R₁).fr,.refl,rp,hk⟩
omit hO hT in
theorem if_ok(am:Amb X d A fe outer F c)(w:Wh X ρ c (fe::outer) g σ s){e:Expr}{a b:List Stmt}{pos:Pos}{k:KF}(h:L.tr e ρ σ (λt σ=>if t then Internal.execs L a ρ σ k kx else Internal.execs L b ρ σ k kx) kx=true) :
  wpAny (model X.prog X.w) A (exec (.If e a b pos) c) (EPost X ρ c (fe::outer) g s k) (PX X (WS ρ c) (fe::outer) F g s kx) s:=by
 rw[arm_exec_If]
 refine wpAny_bind (wpAny_standAt (wpAny_bind (noE (vgo (H.tr am w e _ kx h) λt g₁ σ₁ s₁ to R₁ hk=>?_))))
 have hk':(if t=true then Internal.execs L a ρ σ₁ k kx else Internal.execs L b ρ σ₁ k kx)=true:=hk
 have w₁:=w.step to R₁
 cases t with
 |true=>exact wre to.noW .refl (execs_ok HX am a w₁ hk') λ_ _ q=>q
 |false=>exact wre to.noW .refl (execs_ok HX am b w₁ hk') λ_ _ q=>q
omit O H HX hT hO in
theorem ass_end{l:List Env}{g₀:GW}{s₀ s₁:Shared}{g:GW}{k:KF}{s':Shared}(t:To X noS l g₀ s₀ g s₁)(x:AssPost X ρ c l g σ s₁ (λρ=>k .next ρ σ) s'):EPost X ρ c l g₀ s₀ k .next s':=by
 refine AssPost.el x λρ' t' R' fr' e' hk=>?_;clear x
 exact⟨g,σ,ρ',.next,t.noW.trans t',R',fr',e',trivial,hk⟩
omit O H HX hT hO in
set_option tactic.hygienic true in
theorem assNames_ok{l:List Env}{E:Value→Shared→Prop}:∀(xs:List Str) {ρ:Fr} {s:Shared} {vs:List Value} {ps:List PV} {ρ':Fr} {k:Fr→Bool},FrR X g ρ c s.heap→HR X g σ s.heap→assNames xs ps ρ=some ρ'→RepL X g vs ps→k ρ'=true →
   wpAny (model X.prog X.w) A (assignInOrder (xs.map λn=>bindName c n) vs) (λ_ s'=>AssPost X ρ c l g σ s k s') E s
 | [],ρ,s,vs,[],ρ',k,fr,R,h,q,hk=>by refine rwG q.i0 ?_;refine someI h ?_;clear h;intro hx;subst hx;exact wpAny_pure (a:=()) ⟨ρ,To.refl,R,fr,.refl,hk⟩
 | [],_,_,_,_::_,_,_,_,_,h,_,_=>by exact absN h
 |_::_,_,_,_,[],_,_,_,_,h,_,_=>by exact absN h
 |x::xs,ρ,s,ws,p::ps,ρ',k,fr,R,h,q0,hk=>by
  refine x2_3 q0.i1 λv vs he2 a b=>?_;refine rwG he2 ?_;clear he2
  dsimp only[assNames]at h
  split at h
  ·rename_i ρ₁ e
   refine rwG List.map_cons ?_
   refine PyProof.Rows.assignInOrder_cons (wpAny_bindName (wpAny_mono (ass1_ok (l:=l) (k:=λρ₂=>(assNames xs ps ρ₂).elim false k) fr R e a (by refine rwG h ?_;exact hk)) (λ_ s₁ q=>?_) λ_ _ q=>q))
   refine AssPost.el q λρ₂ t₂ R₂ fr₂ e₂ k₂=>?_
   cases h₂:assNames xs ps ρ₂ with
   |none=>rw[h₂]at k₂;exact absF k₂
   |some ρ₃=>
    rw[h₂]at k₂
    exact wpAny_mono (assNames_ok xs fr₂ R₂ h₂ b k₂) (λ_ s' q=>AssPost.base t₂ e₂ q) λ_ _ q=>q
  ·exact absN h
end
end
section
noncomputable def swS(b1 b2:Bool)(n:Nat)(ns:List Str)(b4 b5:Bool)(u:Sem (Option (List Str))):Sem (Option (List Str)):=if b1=true then pure none else if b2=true then pure none else if(ns.length != n||ns.eraseDups.length != ns.length)=true then pure none else if b4=true then pure none else if b5=true then u else pure (some ns)
noncomputable def swQ(b1 b2:Bool)(n:Nat)(ns:List Str)(b4 b5:Bool):Option (Option (List Str)):=if b1=true then some none else if b2=true then some none else if(ns.length != n||ns.eraseDups.length != ns.length)=true then some none else if b4=true then some none else if b5=true then none else some (some ns)
theorem ite_g{α β:Type}{r:α}{p:β}{c:Prop}[Decidable c]{x y:Option α}{u v:β}(h:(if c then x else y)=some r)(k1:x=some r→u=p)(k2:y=some r→v=p):(if c then u else v)=p:=by
 by_cases q:c
 ·rw[if_pos q]at h ⊢;exact k1 h
 ·rw[if_neg q]at h ⊢;exact k2 h
theorem swS_ok{b1 b2:Bool}{n:Nat}{ns:List Str}{b4 b5:Bool}{u:Sem (Option (List Str))}{r:Option (List Str)}(h:swQ b1 b2 n ns b4 b5=some r):swS b1 b2 n ns b4 b5 u=pure r:=
 ite_g h (λe=>congrArg pure (vC e)) λh=>ite_g h (λe=>congrArg pure (vC e)) λh=>ite_g h (λe=>congrArg pure (vC e)) λh=>ite_g h (λe=>congrArg pure (vC e)) λh=>ite_g h (λe=>absN e) λe=>congrArg pure (vC e)
noncomputable def swN(c:Env)(line:Nat)(ts:List Expr):List Str:=ts.filterMap λ
 |.Name id pos=>if c.kindOf id==some .local&&pos.line==line then some id else none
 |_=>none
noncomputable def starB(vs:List Expr):Bool:=vs.any λ|.Starred .. => true|_=>false
theorem filterMap_cg{α β:Type}{f g:α→Option β}:∀{l:List α},(∀x∈l,f x=g x)→l.filterMap f=l.filterMap g
 | [],_=>rfl
 |a::r,h=>by rw[List.filterMap_cons,List.filterMap_cons,h a (.head _),filterMap_cg λx hx=>h x (.tail _ hx)]
section
variable{X:Fix}(O:FixOK X){d:Nat}{L:Lvl}(H:LvOK X d L)(HX:ExOK X d L){cx:Cx}(hT:cx.T=X.T)(hO:OrcOK X d cx.orc){A:Around}{fe:Env}{outer:List Env}{F:Addr}{c:Env}{ρ:Fr}{g:GW}{σ:Sto}{s:Shared}{kx:KX}
include O H HX hT hO
omit O H HX hT hO in
set_option tactic.hygienic true in
theorem swap_ok{h:Heap}(fr:FrR X g ρ c h){ts vs:List Expr}{a b:Nat}{p q:Pos}{r:Option (List Str)}(e:swapP ρ ts vs=some r):swappedStores [.Tuple ts a p] (.Tuple vs b q) c=pure r:=by
 unfold swapP at e
 refine iteS e ?_ ?_ <;> clear e <;> intro _ e
 ·exact absN e
 ·rename_i hsim
  have hsim':ts.all (simpleT ρ)=true:=by simpa using hsim
  have hblk:(c.blockKind != .function)=false:=by
   unfold Env.blockKind
   rw[fr.kind];rfl
  have hnames:swN c ((ts.head?.map (·.pos.line)).getD 0) ts=swapNames ρ ((ts.head?.map (·.pos.line)).getD 0) ts:=by
   generalize(ts.head?.map (·.pos.line)).getD 0=line
   clear e hsim
   refine filterMap_cg λt ht=>?_
   have hs:=(vF hsim') t ht
   cases t with
   |Name id pos=>
    have:(c.kindOf id==some NameKind.local)=isLocK (lk id ρ.scope.names):=by
     have hs:simpleT ρ (.Name id pos)=true:=hs
     unfold simpleT at hs
     dsimp only at hs
     cases ek:lk id ρ.scope.names with
     |none=>rw[ek]at hs;exact absF hs
     |some k=>
      rw[ek]at hs
      rcases fr.names _ _ ek with hk|⟨hk,_⟩
      ·rw[hk];cases k <;> first|rfl|exact absF hs
      ·subst hk;exact absF hs
    show(if c.kindOf id==some .local&&pos.line==line then some id else none)=if isLocK (lk id ρ.scope.names)&&pos.line==line then some id else none
    rw[this]
   |_=>rfl
  have hstar:starB vs = !vs.all noStar:=by
   rw[List.not_all_eq_any_not]
   refine congrArg (List.any vs) (funext λv=>?_)
   cases v <;> rfl
  refine(show swappedStores [.Tuple ts a p] (.Tuple vs b q) c=swS (!(ts.length==2||ts.length==3)||vs.length != ts.length||c.blockKind != .function) (starB vs) ts.length (swN c ((ts.head?.map (·.pos.line)).getD 0) ts) (vs.all (foldedForSure 8)) (vs.all (constantsAlone 8)) _ from rfl).trans ?_
  rw[hnames,hstar,hblk,Bool.or_false]
  exact swS_ok e
end
end
section
section
variable{X:Fix}(O:FixOK X){d:Nat}{L:Lvl}(H:LvOK X d L)(HX:ExOK X d L){cx:Cx}(hT:cx.T=X.T)(hO:OrcOK X d cx.orc){A:Around}{fe:Env}{outer:List Env}{F:Addr}{c:Env}{ρ:Fr}{g:GW}{σ:Sto}{s:Shared}{kx:KX}
include O H HX hT hO
omit O H HX hT hO in
theorem tgt_stores{t:Expr}(h:okTgt t=true):(assignEach [t] c).map (·.2)=[assign t c]:=by
 cases t <;> first|rfl|(exact absF h;done)
omit O H HX hT hO in
theorem asg_plain(am:Amb X d A fe outer F c)(w:Wh X ρ c (fe::outer) g σ s){t e:Expr}{pos:Pos}{k:KF}(ht:okTgt t=true)(hsw:swapsWithSole [t] e pos.line c=pure false)(hst:swappedStores [t] e c=pure none)
  (h:wpAny (model X.prog X.w) A (eval e c) (VG X noS (fe::outer) g s (RV X λp σ=>assT t p ρ λρ=>k .next ρ σ)) (PX X noS (fe::outer) F g s kx) s) :
  wpAny (model X.prog X.w) A (exec (.Assign [t] e pos) c) (EPost X ρ c (fe::outer) g s k) (PX X (WS ρ c) (fe::outer) F g s kx) s:=by
 rw[arm_exec_Assign]
 refine wpAny_bind (wpAny_standAt ?_)
 refine rwG hsw (rwG hst (rwG (tgt_stores ht) ?_))
 refine wpAny_bind (wpAny_pure ?_)
 rw[if_neg Bool.false_ne_true]
 refine wpAny_bind (noE (vgoV h λv g₁ σ₁ s₁ to R₁ p rp hk=>?_))
 refine wpAny_bind (wpAny_pure ?_)
 refine x1_2 (assT_some hk) λρ' ha hk'=>?_
 have w₁:=w.step to R₁
 refine wpAny_bind (wpAny_mono (assN_ok (l:=fe::outer) (k:=λρ=>k .next ρ σ₁) am.hd 3 w₁.fr R₁ ha rp hk') (λzz s₂ q=>wpAny_pure (ass_end to q)) λzz zz q=>q)
omit O H HX hT hO in
theorem asg_swap(am:Amb X d A fe outer F c)(w:Wh X ρ c (fe::outer) g σ s){t e:Expr}{pos:Pos}{k:KF}{names:List Str}(hsw:swapsWithSole [t] e pos.line c=pure false)(hst:swappedStores [t] e c=pure (some names))
  (h:wpAny (model X.prog X.w) A (eval e c) (VG X noS (fe::outer) g s (RV X λp σ=>ptupK false p λps=>if Nat.beq ps.length names.length then ifS false (assNames names.reverse ps.reverse ρ) λρ=>k .next ρ σ else false)) (PX X noS (fe::outer) F g s kx) s) :
  wpAny (model X.prog X.w) A (exec (.Assign [t] e pos) c) (EPost X ρ c (fe::outer) g s k) (PX X (WS ρ c) (fe::outer) F g s kx) s:=by
 rw[arm_exec_Assign]
 refine wpAny_bind (wpAny_standAt ?_)
 refine rwG hsw (rwG hst ?_)
 refine wpAny_bind (wpAny_pure ?_)
 rw[if_neg Bool.false_ne_true]
 refine wpAny_bind (noE (vgoV h λv g₁ σ₁ s₁ to R₁ p rp hk=>?_))
 refine wpAny_bind (wpAny_pure ?_)
 show wpAny _ _ (do rule "assign.swapped-stores";let items ←unpackItems v names.length none;assignInOrder (names.reverse.map λn=>bindName c n) items.reverse;pure Flow.next) _ _ s₁
 revert rp
 refine ptupE hk fT λps hk rp=>ifB hk fT λhl hk=>ifE' hk fT λρ' ha hk=>?_
 have hl':=vB hl
 refine x2_3 (RepV.isTuple R₁ rp) λa vs he2=>?_;refine rwG he2 ?_;clear he2;intro htup q
 have w₁:=w.step to R₁
 have hsz:names.length=vs.size:=by exact rwS hl' (rwS q.length (rwG vH rfl))
 refine rwG hsz ?_
 refine wpAny_bind (wpAny_rule (wpAny_bind (wpAny_mono (wpAny_sized (Q:=λxs s'=>∃h',xs=vs.toList∧s' = { s₁ with heap:=h' }∧Heap.ExtBut s₁.heap.objs.size s₁.heap h') (E:=PX X (WS ρ c) (fe::outer) F g s kx) (PyProof.Rows.unpackItems_tuple am.hd htup λh' he=>⟨h',rfl,rfl,he⟩)) (λxs s' hz1=>?_) λzz zz q=>q.1)))
 refine x0_2 hz1 λho1 hz=>?_;clear hz1;refine x1_3 ho1 λh' e1 e2 he=>?_;clear ho1
 subst e1;subst e2
 have kp:∀b o,s₁.heap.get? b=some o→h'.get? b=some o:=λb o e=>he b o (λq=>Nat.lt_irrefl _ (by rw[q]at e;exact Heap.lt_size e)) e
 have R':HR X g₁ σ₁ h':=R₁.heap λb o e zz=>kp b o e
 have t':To X noS (fe::outer) g₁ s₁ g₁ { s₁ with heap:=h' }:=⟨Stp.heap hz λb o e zz zz zz=>kp b o e,rfl,rfl⟩
 have w':=w₁.step t' R'
 refine wpAny_bind (wpAny_mono (assNames_ok (l:=fe::outer) (s:={ s₁ with heap:=h' }) (k:=λρ=>k .next ρ σ₁) names.reverse w'.fr R' ha q.reverse hk) (λzz s₂ q=>wpAny_pure (ass_end (to.trans t') q)) λzz zz q=>q)
omit H HX hT hO in
theorem asg_used(H:LvOK X d L)(hT:cx.T=X.T)(am:Amb X d A fe outer F c)(w:Wh X ρ c (fe::outer) g σ s){x:Str}{pn:Pos}{elt target iter:Expr}{ifs:List Expr}{sc:Scope}{pos cpos:Pos}{k:KF}{up:List (Str×PV)}
  (hsw:swapsWith (.ListComp elt [⟨target,iter,ifs,0⟩] sc cpos) (some (.Name x pn)) pos.line c=pure true)
  (hg:compOk ⟨target,iter,ifs,0⟩ sc=true) (hu:upOf ρ sc.names=some up)
  (h:evSrc cx L iter ρ σ (λs σ=>if tgtOk s target then compGo L elt target ifs σ.length kx loopMax s { scope:=sc,vars:=[],up:=up,lam:=ρ.lam,q:=ρ.q } (σ++[[]]) λσ'=>assT (.Name x pn) (.lst σ.length) ρ λρ=>k .next ρ σ' else false) kx=true) :
  wpAny (model X.prog X.w) A (exec (.Assign [.Name x pn] (.ListComp elt [⟨target,iter,ifs,0⟩] sc cpos) pos) c) (EPost X ρ c (fe::outer) g s k) (PX X (WS ρ c) (fe::outer) F g s kx) s:=by
 refine rwG (exec_Assign_Name_used _ _ _ _ hsw) ?_
 refine wpAny_bind (wpAny_standAt ?_)
 have hlow:∀z a,c.cells.lookup z=some a→lk z ρ.scope.names=some .cell→a<s.heap.objs.size:=λz a e hz=>by
  refine x2_3 (w.fr.own z hz) λa' v e1 ho2 zz=>?_;refine x1_2 ho2 λo e2 zz=>?_;clear ho2
  rw[e]at e1;refine someI e1 ?_;clear e1;intro hx;refine rwG hx ?_;clear hx
  exact Heap.lt_size e2
 have hloc:c.locals<s.heap.objs.size:=by refine x1_2 w.fr.loc λm hn zz=>?_;exact hn.lt
 refine wpAny_bind (wpAny_bind (comp_ok (k:=λp σ'=>assT (.Name x pn) p ρ λρ=>k .next ρ σ') O H hT am w hg hu h (Q:=λzz s'=>wpAny (model X.prog X.w) A (pure ()) (λzz s'=>wpAny (model X.prog X.w) A (pure Flow.next) (EPost X ρ c (fe::outer) g s k) (PX X (WS ρ c) (fe::outer) F g s kx) s') (PX X (WS ρ c) (fe::outer) F g s kx) s') (λzz zz q=>q.monoS λzz q=>q.elim) λv C g' σ' s' p m t R r hk hC hn ow=>?_))
 refine x1_2 (assT_some hk) λρ' ha hk'=>?_
 have w':=w.step t R
 refine wpAny_mono (assN_ok (l:=fe::outer) (k:=λρ=>k .next ρ σ') am.hd 3 w'.fr R ha r hk') (λzz s'' q=>?_) λzz zz q=>q
 refine AssPost.el q λρ₂ t₂ R₂ fr₂ e₂ hk₂=>?_
 have hnW:¬WS ρ c C:=by
  rintro (q|⟨zz,z,hz,q⟩)
  ·rw[q]at hC;exact absurd hloc (vL hC)
  ·exact absurd (hlow z C q hz) (vL hC)
 refine x3_2 (Ns.dict hn) λoC es nn hoC hdC=>?_
 have ow₂:Own X g' C:=ow
 have hnC:s''.heap.Ns C m:=Ns.ofData hn λo ho=>by
  refine x1_3 (t₂.st.keepData ho hnW ow.nl ow.nP) λo' q1 q2 zz=>?_
  exact⟨o',q1,q2⟩
 refine⟨m,hnC,λh'' hs''=>wpAny_pure (wpAny_pure ?_)⟩
 have stC:Stp X (λb=>b=C) (fsOf (fe::outer)) g' s''.heap g' h'':=Stp.heap (Nat.le_of_eq hs''.1.symm) λb o e nb zz zz=>(hs''.2 b nb).trans e
 have T:To X (WS ρ c) (fe::outer) g s g' { s'' with heap:=h'' }:=⟨((t.noW (ρ:=ρ) (c:=c)).trans t₂).st.trans' stC λb hb=>.inr (by rw[hb];exact hC),t₂.gens.trans t.gens,t₂.os.trans t.os⟩
 refine⟨g',σ',ρ₂,.next,T,R₂.heap λb o e q=>(hs''.2 b (neW ow₂.nf ow₂.nl ow₂.nP q)).trans e,fr₂.step stC (λq=>?_) (λz a v e hc q=>?_),e₂,trivial,hk₂⟩
 ·rw[←q]at hC;exact absurd hloc (vL hC)
 ·-- a cell is not the block's dict
  refine x1_2 hc λoc hc1 hc2=>?_;clear hc
  refine x3_2 (Ns.dict hnC) λoD esD nD hD1 hD2=>?_
  rw[q,hD1]at hc1;refine someI hc1 ?_;clear hc1;intro hx;subst hx
  rw[hD2]at hc2;cases hc2
end
end
section
section
variable{prog:Program}{w:World}{A:Around}{R:Result→Shared→Prop}{s:Shared}
theorem for_turn{target:Expr}{it:Value}{body:List Stmt}{env:Env}
  (h:wpAny (model prog w) A (pyNext it) (λr s₁=>match r with
   |none=>R (.ok .next) s₁
   |some v=>wpAny (model prog w) A (letOwnedTupleGo target it v) (λzz s₁=>wpAny (model prog w) A (assign target env v) (λzz s₂=>wpAny (model prog w) A (PySem.execs body env) (λf s₃=>match f with
     |.next|.cont=>codeAny (model prog w) A (.forLoop target it body [] env) R s₃
     |.brk=>R (.ok .next) s₃
     |.ret v=>R (.ok (.ret v)) s₃) (notedBy (model prog w) A env λe s'=>R (.error e) s') s₂) (notedBy (model prog w) A env λe s'=>R (.error e) s') s₁) (notedBy (model prog w) A env λe s'=>R (.error e) s') s₁) (notedBy (model prog w) A env λe s'=>R (.error e) s') s) :
  codeAny (model prog w) A (.forLoop target it body [] env) R s:=by
 refine codeAny_of_tree ?_
 refine wpAny_noted ?_
 refine wpAny_bind (wpAny_standAt (wpAny_bind (wpAny_onRaise (wpAny_mono h (λr s₁ h₁=>?_) λzz zz h'=>wpAny_standAt h'))))
 cases r with
 |none=>exact wpAny_pure ⟨rfl,codeAny_block (wpAny_pure (a:=Flow.next) h₁)⟩
 |some v=>
  refine wpAny_bind (wpAny_mono h₁ (λzz s₁' h₁'=>?_) λzz zz h'=>h')
  refine wpAny_bind (wpAny_mono h₁' (λzz s₂ h₂=>wpAny_bind (wpAny_mono h₂ (λf s₃ h₃=>?_) λzz zz h'=>h')) λzz zz h'=>h')
  cases f with
  |next=>exact wpAny_pure ⟨rfl,h₃⟩
  |cont=>exact wpAny_pure ⟨rfl,h₃⟩
  |brk=>exact wpAny_pure h₃
  |ret v=>exact wpAny_pure h₃
theorem while_turn{test:Expr}{body:List Stmt}{env:Env}
  (h:wpAny (model prog w) A (isTrue test env (eval test env)) (λb s₂=>
    if b then wpAny (model prog w) A (PySem.execs body env) (λf s₃=>match f with
      |.next|.cont=>codeAny (model prog w) A (.whileLoop test body [] env) R s₃
      |.brk=>R (.ok .next) s₃
      |.ret v=>R (.ok (.ret v)) s₃) (notedBy (model prog w) A env λe s'=>R (.error e) s') s₂
    else R (.ok .next) s₂) (notedBy (model prog w) A env λe s'=>R (.error e) s') s) :
  codeAny (model prog w) A (.whileLoop test body [] env) R s:=by
 refine codeAny_of_tree ?_
 show wpAny _ A ((whileTurn test body [] env).onRaise (λx=>do noteFrame x env;theTreesLotGoes x)) _ _ s
 refine wpAny_noted ?_
 refine wpAny_bind (wpAny_mono h (λb s₂ h₂=>?_) λzz zz h'=>h')
 cases b with
 |false=>
  exact wpAny_bind (wpAny_pure (a:=Flow.next) (wpAny_pure h₂))
 |true=>
  refine wpAny_bind (wpAny_mono h₂ (λf s₃ h₃=>?_) λzz zz h'=>h')
  cases f with
  |next=>exact wpAny_pure ⟨rfl,h₃⟩
  |cont=>exact wpAny_pure ⟨rfl,h₃⟩
  |brk=>exact wpAny_pure h₃
  |ret v=>exact wpAny_pure h₃
end
section
variable{X:Fix}(O:FixOK X){d:Nat}{L:Lvl}(H:LvOK X d L)(HX:ExOK X d L){cx:Cx}(hT:cx.T=X.T)(hO:OrcOK X d cx.orc){A:Around}{fe:Env}{outer:List Env}{F:Addr}{c:Env}{ρ:Fr}{g:GW}{σ:Sto}{s:Shared}{kx:KX}
include O H HX hT hO
omit O H HX hT hO in
theorem isPair_eq{t e:Expr}{z:List Expr×List Expr}(h:isPair t e=some z):∃a p b q,t=.Tuple z.1 a p∧e=.Tuple z.2 b q:=by
 unfold isPair at h
 refine tupxE h nS ?_;clear h;intro ts a p h;refine tupxE h nS ?_;clear h;intro vs b q h
 refine rwS (vC h) ?_
 exact⟨_,_,_,_,rfl,rfl⟩
omit O H HX hT hO in
theorem sole_tup{ts:List Expr}{a:Nat}{p:Pos}{e:Expr}{n:Nat}:swapsWithSole [.Tuple ts a p] e n c=pure false:=by cases e <;> rfl
omit O H HX hT hO in
theorem stores_tup{ts:List Expr}{a:Nat}{p:Pos}{e:Expr}(hp:isPair (.Tuple ts a p) e=none):swappedStores [.Tuple ts a p] e c=pure none:=by
 cases e with
 |Tuple=>exact absS hp
 |_=>rfl
omit O H HX hT hO in
theorem stores_name{x:Str}{p:Pos}{e:Expr}:swappedStores [.Name x p] e c=pure none:=by cases e <;> rfl
omit O H HX hT hO in
theorem sole_name{x:Str}{p:Pos}{e:Expr}{n:Nat}(h:notComp e=true):swapsWithSole [.Name x p] e n c=pure false:=by
 cases e with
 |ListComp=>exact absF h
 |SetComp=>exact absF h
 |DictComp=>exact absF h
 |_=>rfl
omit O H HX hT hO in
theorem comp_of{e:Expr}{k:KV}(hn:¬notComp e=true)(h:evS cx L e ρ σ k kx=true):∃elt gg sc p,e=.ListComp elt [gg] sc p∧evComp cx L elt gg sc ρ σ k kx=true:=by
 cases e with
 |ListComp elt gs sc p=>exact oneE h fT λgg h=>⟨_,_,_,_,rfl,h⟩
 |SetComp=>exact absF h
 |DictComp=>exact absF h
 |_=>exact absurd rfl hn
theorem assign_ok(am:Amb X d A fe outer F c)(w:Wh X ρ c (fe::outer) g σ s){t e:Expr}{pos:Pos}{k:KF}(ht:okTgt t=true)(h:exAss cx L t e ρ σ k kx=true) :
  wpAny (model X.prog X.w) A (exec (.Assign [t] e pos) c) (EPost X ρ c (fe::outer) g s k) (PX X (WS ρ c) (fe::outer) F g s kx) s:=by
 unfold exAss at h
 cases hp:isPair t e with
 |some z=>
  rw[hp]at h
  refine x4_2 (isPair_eq hp) λzz zz zz zz he4=>?_;subst he4;intro he5;subst he5
  refine ifE' h fT ?_;clear h;intro r hs h
  cases r with
  |none=>exact asg_plain am w ht rfl (swap_ok w.fr hs) (H.ev am w _ _ kx h)
  |some names=>exact asg_swap am w rfl (swap_ok w.fr hs) (H.ev am w _ _ kx h)
 |none=>
  rw[hp]at h
  have hev:=evS_ok O H hT hO am w e _ h
  cases t with
  |Tuple ts a p1=>exact asg_plain am w ht sole_tup (stores_tup hp) hev
  |Name x pn=>
   by_cases hc:notComp e=true
   ·exact asg_plain am w ht (sole_name hc) stores_name hev
   ·refine x4_2 (comp_of hc h) λelt gg sc cpos he4=>?_;subst he4;intro h
    have hsw:∃b,swapsWith (.ListComp elt [gg] sc cpos) (some (.Name x pn)) pos.line c=pure b:=⟨_,rfl⟩
    refine x1_1 hsw λb hb=>?_;clear hsw
    cases b with
    |false=>exact asg_plain am w ht hb stores_name hev
    |true=>
     refine ifB h fT ?_;clear h;intro hg h;refine ifE' h fT ?_;clear h;intro up hu h
     obtain⟨target,iter,ifs,ia⟩:=gg
     have hia:ia=0:=by
      dsimp only[compOk]at hg
      simp only[Bool.and_eq_true]at hg
      simpa using hg.1.1.1.1
     subst hia
     exact asg_used O H hT am w hb hg hu h
  |_=>exact absF ht
omit O H HX hT hO in
theorem loop_err(am:Amb X d A fe outer F c){S:Addr→Prop}{e:Value}{s':Shared}{RR:Result→Shared→Prop}(hR:∀e s',RR (.error e) s'=cameBackBy (model X.prog X.w) A c (PX X S (fe::outer) F g s kx) e s')(x:PX X S (fe::outer) F g s kx e s') :
  notedBy (model X.prog X.w) A c (λe s'=>RR (.error e) s') e s':=by
 refine noteFrame_rel am.fr am.fe am.fc x λt s'' y=>?_
 show RR (.error e) s''
 rw[hR]
 exact cameBack_rel am.fc y λs₃ z=>z
theorem forGo_ok(am:Amb X d A fe outer F c){ρ₀:Fr}{target:Expr}{body:List Stmt}{I:Addr}{ws:List Addr}{k:KF}{RR:Result→Shared→Prop}
  (hR:∀e s',RR (.error e) s'=cameBackBy (model X.prog X.w) A c (PX X (WS ρ₀ c) (fe::outer) F g s kx) e s') (hok:∀f s',EPost X ρ₀ c (fe::outer) g s k f s'→RR (.ok f) s') :
  ∀(n:Nat) {g₁ σ₁ s₁ src ρ} (_:To X (WS ρ₀ c) (fe::outer) g s g₁ s₁) (_:SameFr ρ₀ ρ) (_:Wh X ρ c (fe::outer) g₁ σ₁ s₁) (_:Lp X (fe::outer) c s.heap.objs.size g₁ s₁.heap I ws src) (_:tgtOk src target=true),
   forGo L target body kx n src ρ σ₁ k=true→codeAny (model X.prog X.w) A (.forLoop target (.ref I) body [] c) RR s₁:=by
 intro n
 induction n with
 |zero=>intro _ _ _ _ _ _ _ _ _ _ h;exact absF h
 |succ n ih=>
  intro g₁ σ₁ s₁ src ρ t e w lp ht h
  have wsOk:∀{g':GW} {s':Shared},To X (·∈ws) (fe::outer) g₁ s₁ g' s'→To X (WS ρ₀ c) (fe::outer) g s g' s':=λt'=>t.trans' t' λb hb=>.inr (lp.new b hb)
  have stepW:∀{g':GW} {σ':Sto} {s':Shared},To X (·∈ws) (fe::outer) g₁ s₁ g' s'→HR X g' σ' s'.heap→Wh X ρ c (fe::outer) g' σ' s':=λt' R'=>
   w.stepS t' R' lp.loc (λz a e hm=>absurd (lp.cel z a e) (vL (lp.new a hm))) λL hL hm=>absurd (lp.frs L hL) (vL (lp.new L hm))
  refine ifE' h fT λo hn h=>?_
  cases o with
  |none=>
   refine for_turn (wpAny_mono (next_ok O (l:=fe::outer) (target:=target) am.hd w.R lp.it lp.own hn ht (E:=notedBy (model X.prog X.w) A c λe s'=>RR (.error e) s')) (λr s₂ hr=>?_) λzz zz q=>q)
   refine x0_3 hr λhe0=>?_;refine rwG he0 ?_;clear he0;intro t' R'
   exact hok _ _ ⟨_,_,ρ,.next,wsOk t',R',(stepW t' R').fr,e,trivial,h⟩
  |some y=>
   obtain⟨p,src'⟩:=y
   refine x1_2 (assT_some h) λρ' ha' h=>?_
   refine for_turn (wpAny_mono (next_ok O (l:=fe::outer) (target:=target) am.hd w.R lp.it lp.own hn ht (E:=notedBy (model X.prog X.w) A c λe s'=>RR (.error e) s')) (λr s₂ hr=>?_) λzz zz q=>q)
   refine x1_2 hr λu he1=>?_;refine rwG he1 ?_;clear he1;intro hu;clear hr
   refine wpAny_mono hu (λ_ s₃ hz1=>?_) λzz zz q=>q
   refine x1_4 hz1 λg₃ t₃ R₃ ru it₃=>?_;clear hz1
   have w₃:=stepW t₃ R₃
   have T₃:=wsOk t₃
   have lp₃:Lp X (fe::outer) c s.heap.objs.size g₃ s₃.heap I ws src':=⟨it₃,λb hb=>let ⟨_,e⟩:=lp.it.mem b hb;(lp.own b hb).step t₃.st e,lp.new,lp.loc,lp.cel,lp.frs⟩
   have ht':=tgtOk_next hn ht
   refine wpAny_mono (assN_ok (l:=fe::outer) (k:=λρ=>Internal.execs L body ρ σ₁ (λfl ρ σ=>@FlowP.casesOn (λ_=>Bool) fl (forGo L target body kx n src' ρ σ k) λp=>k (.ret p) ρ σ) kx) am.hd 3 w₃.fr R₃ ha' ru h) (λ_ s₄ ⟨ρ₄,t₄,R₄,fr₄,same,h₄⟩=>?_) λzz zz q=>q
   have w₄:=w₃.writes t₄ R₄ fr₄
   have e₄:=e.trans same
   have T₄:To X (WS ρ₀ c) (fe::outer) g s g₃ s₄:=T₃.trans (by refine rwS (WS.same (c:=c) e) ?_;exact t₄)
   have lp₄:=lp₃.go t₄ lp₃.notWS
   refine wpAny_mono (execs_ok HX am body w₄ h₄) (λf s₅ hz3=>?_) (λe' s' q=>loop_err am hR (q.baseW T₄ e₄))
   refine EPost.el hz3 λg₅ σ₅ ρ₅ fp t₅ R₅ fr₅ same₅ hf h₅=>?_;clear hz3
   have e₅:=e₄.trans same₅
   have T₅:To X (WS ρ₀ c) (fe::outer) g s g₅ s₅:=T₄.trans (by refine rwS (WS.same (c:=c) e₄) ?_;exact t₅)
   have w₅:=w₄.writes t₅ R₅ fr₅
   have lp₅:=lp₄.go t₅ lp₄.notWS
   cases f with
   |next=>
    cases fp with
    |next=>exact ih T₅ e₅ w₅ lp₅ ht' h₅
    |ret=>exact hf.elim
   |ret v=>
    cases fp with
    |next=>exact hf.elim
    |ret p=>exact hok _ _ ⟨g₅,σ₅,ρ₅,.ret p,T₅,R₅,fr₅,e₅,hf,h₅⟩
   |brk=>exact hf.elim
   |cont=>exact hf.elim
omit O H HX hT hO in
theorem notSet_for{iter:Expr}{x:Value}(h:notSet iter=true):foldedSetIterable iter c x=pure x:=by
 cases iter with
 |Set=>exact absF h
 |_=>rfl
theorem for_ok(am:Amb X d A fe outer F c)(w:Wh X ρ c (fe::outer) g σ s){target iter:Expr}{body:List Stmt}{pos:Pos}{k:KF}(hs:notSet iter=true)
  (h:evSrc cx L iter ρ σ (λs σ=>if tgtOk s target then forGo L target body kx loopMax s ρ σ k else false) kx=true) :
  wpAny (model X.prog X.w) A (exec (.For target iter body [] pos) c) (EPost X ρ c (fe::outer) g s k) (PX X (WS ρ c) (fe::outer) F g s kx) s:=by
 refine wpAny_For (wpAny_mono (src_ok O H hT am w h) (λv s₁ h₁=>wpAny_mono h₁ (λit s₂ h₂=>?_) λzz zz q=>q.monoS λzz q=>q.elim) λzz zz q=>q.monoS λzz q=>q.elim) (λx=>notSet_for hs)
 refine SrcPost.el h₂ λI ws src g₂ σ₂ he5=>?_;refine rwG he5 ?_;clear he5;intro t₂ R₂ it₂ own₂ hk₂;clear h₂
 refine ifB hk₂ fT λhtg hk₂=>?_
 ·have w₂:=w.step t₂ R₂
  have lp:Lp X (fe::outer) c s.heap.objs.size g₂ s₂.heap I ws src:=⟨it₂,λb hb=>(own₂ b hb).1,λb hb=>(own₂ b hb).2,λhm=>by
    refine x1_2 w.fr.loc λm hn zz=>?_
    exact absurd hn.lt (vL (own₂ _ hm).2),λz a e=>by
    refine x0_2 (w.fr.all z a e) λho1 zz=>?_;refine x2_2 ho1 λv oc e2 zz=>?_;clear ho1
    exact Heap.lt_size e2,λM hM=>by
    refine x0_4 (w.fs.mem hM) λzz zz zz hq3=>?_;refine x1_2 hq3 λo ho zz=>?_
    exact Heap.lt_size ho⟩
  exact forGo_ok O H HX hT hO am (g:=g) (s:=s) (ρ₀:=ρ) (λzz zz=>rfl) (λf s' q=>q) loopMax t₂.noW .refl w₂ lp htg hk₂
theorem whileGo_ok(am:Amb X d A fe outer F c){ρ₀:Fr}{test:Expr}{body:List Stmt}{k:KF}{RR:Result→Shared→Prop}
  (hR:∀e s',RR (.error e) s'=cameBackBy (model X.prog X.w) A c (PX X (WS ρ₀ c) (fe::outer) F g s kx) e s') (hok:∀f s',EPost X ρ₀ c (fe::outer) g s k f s'→RR (.ok f) s') :
  ∀(n:Nat) {g₁ σ₁ s₁ ρ} (_:To X (WS ρ₀ c) (fe::outer) g s g₁ s₁) (_:SameFr ρ₀ ρ) (_:Wh X ρ c (fe::outer) g₁ σ₁ s₁),
   whileGo L test body kx n ρ σ₁ k=true→codeAny (model X.prog X.w) A (.whileLoop test body [] c) RR s₁:=by
 intro n
 induction n with
 |zero=>intro _ _ _ _ _ _ _ h;exact absF h
 |succ n ih=>
  intro g₁ σ₁ s₁ ρ t e w h
  refine while_turn (wpAny_mono (H.tr am w test _ kx h) (λb s₂ hz4=>?_) (λe' s' q=>loop_err am hR ((q.monoS λzz q=>q.elim).baseW t e)))
  refine VG.el hz4 λg₂ σ₂ t₂ R₂ h₂=>?_;clear hz4
  have w₂:=w.step t₂ R₂
  have T₂:To X (WS ρ₀ c) (fe::outer) g s g₂ s₂:=t.trans t₂.noW
  have h₂':(if b then Internal.execs L body ρ σ₂ (λfl ρ σ=>match fl with
   |.next=>whileGo L test body kx n ρ σ k
   |.ret p=>k (.ret p) ρ σ) kx else k .next ρ σ₂)=true:=h₂
  cases b with
  |false=>
   refine rwG (if_neg (by simp)) ?_
   rw[if_neg (by simp)]at h₂'
   exact hok _ _ ⟨g₂,σ₂,ρ,.next,T₂,R₂,w₂.fr,e,trivial,h₂'⟩
  |true=>
   refine rwG (if_pos rfl) ?_
   rw[if_pos rfl]at h₂'
   refine wpAny_mono (execs_ok HX am body w₂ h₂') (λf s₅ hz5=>?_) (λe' s' q=>loop_err am hR (q.baseW T₂ e))
   refine EPost.el hz5 λg₅ σ₅ ρ₅ fp t₅ R₅ fr₅ same₅ hf h₅=>?_;clear hz5
   have e₅:=e.trans same₅
   have T₅:To X (WS ρ₀ c) (fe::outer) g s g₅ s₅:=T₂.trans (by refine rwS (WS.same (c:=c) e) ?_;exact t₅)
   have w₅:=w₂.writes t₅ R₅ fr₅
   cases f with
   |next=>
    cases fp with
    |next=>exact ih T₅ e₅ w₅ h₅
    |ret=>exact hf.elim
   |ret v=>
    cases fp with
    |next=>exact hf.elim
    |ret p=>exact hok _ _ ⟨g₅,σ₅,ρ₅,.ret p,T₅,R₅,fr₅,e₅,hf,h₅⟩
   |brk=>exact hf.elim
   |cont=>exact hf.elim
theorem while_ok(am:Amb X d A fe outer F c)(w:Wh X ρ c (fe::outer) g σ s){test:Expr}{body:List Stmt}{pos:Pos}{k:KF}(h:whileGo L test body kx loopMax ρ σ k=true) :
  wpAny (model X.prog X.w) A (exec (.While test body [] pos) c) (EPost X ρ c (fe::outer) g s k) (PX X (WS ρ c) (fe::outer) F g s kx) s:=
 wpAny_While (whileGo_ok O H HX hT hO am (g:=g) (s:=s) (ρ₀:=ρ) (λzz zz=>rfl) (λzz zz q=>q) loopMax To.refl .refl w h)
end
end
section
theorem mapSeq_set_plain(its:Array Value)(n j:Nat)(x:Value):∃n',Obj.mapSeq (·.setIfInBounds j x) { cls:=.type "list",data:=.seq its n } = { cls:=.type "list",data:=.seq (its.setIfInBounds j x) n' }:=by
 exact⟨_,rfl⟩
theorem setItem_plain{prog:Program}{w:World}{A:Around}{E:Value→Shared→Prop}{s:Shared}{l:Addr}{items:Array Value}{k:Int}{t:Tok}{v:Value}{Q:Unit→Shared→Prop}(hl:s.heap.PlainList l items)
  (h0:0≤k) (hfit:k<2 ^ 63) (hn:k<items.size) (hQ:∀h',h'.PlainList l (items.setIfInBounds k.toNat v)→Heap.SameBut l s.heap h'→Q () { s with heap:=h' }) :
  wpAny (model prog w) A (setItem (.ref l) (.int k t) v) Q E s:=by
 have hl':=hl.isList
 refine x1_1 hl λn ho=>?_;clear hl
 unfold setItem
 try with_reducible refine wpAny_holding ?_
 first|refine wpAny_bind (wpAny_pure ?_)|skip
 refine wpAny_bind (wpAny_sequenceKey hl'.typeIs rfl ?_)
 refine wpAny_bind (wpAny_callSpecial?_slot (name:=Str.ofString "__setitem__") hl'.typeIs slot_list_setitem (wpAny_call_entry slot_list_setitem hl'.typeIs entry_list_setitem ?_ (args_list_setitem _ _ _)))
 show wpAny _ _ (Builtin.List.listSubscript? (.int k t) >>= _) _ _ s
 refine wpAny_bind (wpAny_listSubscript_int (fitsIndex_of h0 hfit) ?_)
 clear hfit
 refine x1_1 (Int.eq_ofNat_of_zero_le h0) λj he1=>?_;subst he1
 have hj:j<items.size:=by(with_reducible exact Internal.ar51 (by assumption))
 refine wpAny_bind (wpAny_bind (wpAny_seqItemAt ho rfl (wpAny_pure ?_)))
 refine rwG (show items[j]?=some items[j]from Array.getElem?_eq_getElem hj) ?_
 refine x1_1 (mapSeq_set_plain items n j v) λn' hd=>?_
 have hfin:(s.heap.update l (Obj.mapSeq (·.setIfInBounds j v))).PlainList l (items.setIfInBounds j v):=
  ⟨n',(Heap.get?_update_self _ ho (Obj.isFreed_of_seq (by exact rwG hd rfl))).trans (congrArg some hd)⟩
 refine wpAny_bind (wpAny_setSeqItemAt ho rfl ?_)
 first
  |exact wpAny_bind (wpAny_pure (wpAny_pure ⟨.none,rfl,wpAny_pure (hQ _ hfin (Heap.SameBut.update ..))⟩))
  |exact wpAny_pure ⟨.none,rfl,wpAny_pure (hQ _ hfin (Heap.SameBut.update ..))⟩
theorem RepL.set{X:Fix}{g:GW}{v:Value}{p:PV}(r:RepV X g v p):∀{i:Nat} {vs:List Value} {ps:List PV},RepL X g vs ps→RepL X g (vs.set i v) (ps.set i p)
 |_,_,[],q=>by refine rwG q.i0 ?_;exact .nil
 |0,_,_::_,q=>by refine x2_3 q.i1 λzz zz he2=>?_;refine rwG he2 ?_;clear he2;intro zz b;exact .cons r b
 |i+1,_,_::_,q=>by refine x2_3 q.i1 λzz zz he2=>?_;refine rwG he2 ?_;clear he2;intro a b;exact .cons a (b.set r)
section
variable{X:Fix}(O:FixOK X){d:Nat}{L:Lvl}(H:LvOK X d L){cx:Cx}(hT:cx.T=X.T){A:Around}{fe:Env}{outer:List Env}{F:Addr}{c:Env}{ρ:Fr}{g:GW}{σ:Sto}{s:Shared}{kx:KX}
include O H hT
omit H in
theorem set_ok(w:Wh X ρ c (fe::outer) g σ s){x:Str}{i:Int}{u:Nat}{p1 p2 p3:Pos}{p:PV}{v:Value}{k:Sto→Bool}(r:RepV X g v p)(h:setP cx x i p ρ σ k=true){E:Value→Shared→Prop} :
  wpAny (model X.prog X.w) A (assign (.Subscript (.Name x p1) (.Constant (.int i) u p2) p3) c v) (λzz s'=>∃σ',To X noS (fe::outer) g s g s'∧HR X g σ' s'.heap∧k σ'=true) E s:=by
 refine ifE' h fT λz hx h=>?_
 revert hx
 refine plstE h fT λl h hx=>ifE' h fT λxs hl h=>ifB h fT λhc h=>band3 hc λh1 h2 h3=>?_
 have h1':=of_decide_eq_true h1
 have h2':i.toNat<xs.length:=vA h2
 refine x1_2 (name_val O (A:=A) (pos:=p1) hT w hx) λvv rv hv=>?_
 refine x2_5 (RepV.isList w.R rv (gtS hl)) λa vs he2=>?_;subst he2;intro hi zz q hp
 have hlen:=q.length
 rw[vH]at hlen
 have:=okL_le' h3
 rw[assign_Subscript]
 refine wpAny_bind (wpAny_holding (hv _ _ (wpAny_bind (wpAny_holding ?_))))
 refine wpAny_mkInt (wpAny_bind (wpAny_standAt (wpAny_bind (wpAny_holding ?_))))
 refine setItem_plain (s:={ s with toks:=s.toks+1 }) hp h1' (by(with_reducible exact Internal.ar52 (by assumption) (by assumption))) (by(with_reducible exact Internal.ar53 (by assumption) (by assumption) (by assumption))) λh' hp' hs'=>?_
 refine wpAny_release ?_
 refine⟨_,⟨Stp.setList (vN hi) hs',rfl,rfl⟩,HR.setList w.R hi hs' hp' ?_,h⟩
 refine rwG Array.toList_setIfInBounds ?_
 exact q.set r
omit O H hT in
theorem sole_two{t e:Expr}{n:Nat}(hn:notComp2 e=true):swapsWithSole [t] e n c=pure false:=by
 cases e <;> first|rfl|exact absF hn
omit O H hT in
theorem stores_two{x y:Str}{i:Int}{u q1:Nat}{p1 p2 p3 p q2:Pos}{e:Expr}(hn:notComp2 e=true):swappedStores [.Tuple [.Subscript (.Name x p1) (.Constant (.int i) u p2) p3,.Name y p] q1 q2] e c=pure none:=by
 cases e <;> first|rfl|exact absF hn
omit O H hT in
theorem itemTgt_eq{t:Expr}{z:Str×Int×Option Expr}(h:itemTgt t=some z):(∃p1 u p2 p3,t=.Subscript (.Name z.1 p1) (.Constant (.int z.2.1) u p2) p3∧z.2.2=none) ∨
  ∃p1 u p2 p3 y p q1 q2,t=.Tuple [.Subscript (.Name z.1 p1) (.Constant (.int z.2.1) u p2) p3,.Name y p] q1 q2∧z.2.2=some (.Name y p):=by
 unfold itemTgt at h
 refine iteS h (λzz h=>?_) (λzz h=>?_)
 ·refine tupxE h nS ?_;clear h;intro ts q1 q2 h;refine twoE h nS ?_;clear h;intro a b h;refine itemE h nS ?_;clear h;intro x q i u q' p h;refine nameE h nS ?_;clear h;intro y py h
  refine rwS (vC h) ?_
  exact .inr ⟨_,_,_,_,_,_,_,_,rfl,rfl⟩
 ·refine itemE h nS ?_;clear h;intro x q i u q' p h
  refine rwS (vC h) ?_
  exact .inl ⟨_,_,_,_,rfl,rfl⟩
theorem item1_ok(am:Amb X d A fe outer F c)(w:Wh X ρ c (fe::outer) g σ s){x:Str}{i:Int}{u:Nat}{p1 p2 p3:Pos}{e:Expr}{pos:Pos}{k:KF}(hn:notComp2 e=true)(h:L.ev e ρ σ (λp σ=>setP cx x i p ρ σ λσ=>k .next ρ σ) kx=true) :
  wpAny (model X.prog X.w) A (exec (.Assign [.Subscript (.Name x p1) (.Constant (.int i) u p2) p3] e pos) c) (EPost X ρ c (fe::outer) g s k) (PX X (WS ρ c) (fe::outer) F g s kx) s:=by
 rw[arm_exec_Assign]
 refine wpAny_bind (wpAny_standAt ?_)
 refine rwG (sole_two hn) ?_
 refine wpAny_bind (wpAny_pure ?_)
 rw[if_neg Bool.false_ne_true]
 refine wpAny_bind (noE (vgoV (H.ev am w _ _ kx h) λv g₁ σ₁ s₁ to R₁ p rp hk=>?_))
 show wpAny _ _ (do assignAll v [assign (.Subscript (.Name x p1) (.Constant (.int i) u p2) p3) c];pure Flow.next) _ _ s₁
 refine wpAny_bind (wpAny_mono (set_ok O hT (w.step to R₁) rp hk) (λ_ s₂ ⟨σ₂,t₂,R₂,hk₂⟩=>wpAny_pure ?_) λzz zz q=>q)
 exact⟨g₁,σ₂,ρ,.next,(to.trans t₂).noW,R₂,((w.step to R₁).step t₂ R₂).fr,.refl,trivial,hk₂⟩
theorem item2_ok(am:Amb X d A fe outer F c)(w:Wh X ρ c (fe::outer) g σ s){x yn:Str}{i:Int}{u q1:Nat}{p1 p2 p3 p q2:Pos}{e:Expr}{pos:Pos}{k:KF}(hn:notComp2 e=true)
  (h:L.ev e ρ σ (λpp σ=>ptupK false pp λps=>twoK false ps λpa pb=>setP cx x i pa ρ σ λσ=>assT (.Name yn p) pb ρ λρ=>k .next ρ σ) kx=true) :
  wpAny (model X.prog X.w) A (exec (.Assign [.Tuple [.Subscript (.Name x p1) (.Constant (.int i) u p2) p3,.Name yn p] q1 q2] e pos) c) (EPost X ρ c (fe::outer) g s k) (PX X (WS ρ c) (fe::outer) F g s kx) s:=by
 rw[arm_exec_Assign]
 refine wpAny_bind (wpAny_standAt ?_)
 refine rwG (sole_two hn) ?_
 refine wpAny_bind (wpAny_pure ?_)
 rw[if_neg Bool.false_ne_true]
 refine rwG (stores_two hn) ?_
 refine wpAny_bind (noE (vgoV (H.ev am w _ _ kx h) λv g₁ σ₁ s₁ to R₁ pp rp hk=>?_))
 refine wpAny_bind (wpAny_pure ?_)
 show wpAny _ _ (do assignAll v [assign (.Tuple [.Subscript (.Name x p1) (.Constant (.int i) u p2) p3,.Name yn p] q1 q2) c];pure Flow.next) _ _ s₁
 revert rp
 refine ptupE hk fT λps hk=>twoE hk fT λpa pb hk rp=>?_
 refine x2_3 (RepV.isTuple R₁ rp) λa vs he2=>?_;refine rwG he2 ?_;clear he2;intro htu q
 refine x2_3 q.two λva vb hvs ra rb=>?_
 have hsz:vs.size=2:=by refine rwS vH (rwG hvs ?_);rfl
 rw[show assignAll (.ref a) [assign (.Tuple [.Subscript (.Name x p1) (.Constant (.int i) u p2) p3,.Name yn p] q1 q2) c]=assign (.Tuple [.Subscript (.Name x p1) (.Constant (.int i) u p2) p3,.Name yn p] q1 q2) c (.ref a)from rfl,assign_Tuple]
 refine wpAny_bind (wpAny_bind (wpAny_standAt ?_))
 unfold unpack
 rw[show(assignEach [Expr.Subscript (.Name x p1) (.Constant (.int i) u p2) p3,.Name yn p] c).length=vs.size by refine rwG hsz ?_;rfl,show(assignEach [Expr.Subscript (.Name x p1) (.Constant (.int i) u p2) p3,.Name yn p] c).findIdx? (·.1)=none from rfl]
 refine wpAny_bind (wpAny_holding (wpAny_mono (wpAny_sized (Q:=λxs s'=>∃h',xs=vs.toList∧s' = { s₁ with heap:=h' }∧Heap.ExtBut s₁.heap.objs.size s₁.heap h') (E:=PX X (WS ρ c) (fe::outer) F g s kx) (PyProof.Rows.unpackItems_tuple am.hd htu λh' he=>⟨h',rfl,rfl,he⟩)) (λxs s' hz2=>?_) λzz zz q=>q.1))
 refine x0_2 hz2 λho1 hz=>?_;clear hz2;refine x1_3 ho1 λh' e1 e2 he=>?_;clear ho1
 refine rwG e1 ?_;clear e1;subst e2
 have kp:∀b o,s₁.heap.get? b=some o→h'.get? b=some o:=λb o e=>he b o (λq=>Nat.lt_irrefl _ (by rw[q]at e;exact Heap.lt_size e)) e
 have t₂:To X noS (fe::outer) g₁ s₁ g₁ { s₁ with heap:=h' }:=⟨Stp.heap hz λb o e zz zz zz=>kp b o e,rfl,rfl⟩
 have R₂:HR X g₁ σ₁ h':=R₁.heap λb o e zz=>kp b o e
 have w₂:=(w.step to R₁).step (s₁:={ s₁ with heap:=h' }) t₂ R₂
 refine rwG hvs ?_
 show wpAny _ _ (assignInOrder [assign (.Subscript (.Name x p1) (.Constant (.int i) u p2) p3) c,assign (.Name yn p) c] [va,vb]) _ _ _
 refine PyProof.Rows.assignInOrder_cons (wpAny_mono (set_ok O hT w₂ ra hk) (λ_ s₃ hz3=>?_) λzz zz q=>q)
 refine x1_3 hz3 λσ₃ t₃ R₃ hk₃=>?_;clear hz3
 have w₃:=w₂.step t₃ R₃
 refine x1_2 (assT_some hk₃) λρ' ha hk'=>?_
 have T₃:=(to.trans t₂).trans t₃
 refine PyProof.Rows.assignInOrder_cons (wpAny_mono (assN_ok (l:=fe::outer) (k:=λρ=>k .next ρ σ₃) am.hd 3 w₃.fr R₃ ha rb hk') (λzz s₂ q=>?_) λzz zz q=>q)
 exact wpAny_pure (a:=()) (wpAny_pure (ass_end T₃ q))
theorem itemS_ok(am:Amb X d A fe outer F c)(w:Wh X ρ c (fe::outer) g σ s){t e:Expr}{pos:Pos}{z:Str×Int×Option Expr}{k:KF}(ht:itemTgt t=some z)(h:itemS cx L z.1 z.2.1 z.2.2 e ρ σ k kx=true) :
  wpAny (model X.prog X.w) A (exec (.Assign [t] e pos) c) (EPost X ρ c (fe::outer) g s k) (PX X (WS ρ c) (fe::outer) F g s kx) s:=by
 refine ifB h fT λhn h=>?_
 rcases itemTgt_eq ht with⟨p1,u,p2,p3,rfl,hz⟩|⟨p1,u,p2,p3,y,p,q1,q2,rfl,hz⟩
 ·rw[hz]at h;exact item1_ok O H hT am w hn h
 ·rw[hz]at h;exact item2_ok O H hT am w hn h
end
end
section
noncomputable def RaiseOK(X:Fix)(d:Nat):Prop:=∀{L:Lvl},LvOK X d L→∀{cx:Cx},cx.T=X.T→cx.gf=X.gf→∀{A fe outer F c ρ g σ s} (_:Amb X d A fe outer F c) (_:Wh X ρ c (fe::outer) g σ s) {f:Str} {a:Expr} {p pos pos':Pos} {kx:KX} {Q:Flow→Shared→Prop},
 nameOk f=true→noStar a=true→isGf cx f ρ=true→L.ev a ρ σ (λp σ=>pstrK false p λ_=>kx σ) kx=true →
 wpAny (model X.prog X.w) A (exec (.Raise (some (.Call (.Name f p) [a] [] pos)) none pos') c) Q (PX X noS (fe::outer) F g s kx) s
section
variable{X:Fix}(O:FixOK X){d:Nat}(hRa:RaiseOK X d){L:Lvl}(H:LvOK X d L)(HX:ExOK X d L){cx:Cx}(hT:cx.T=X.T)(hgf:cx.gf=X.gf)(hO:OrcOK X d cx.orc){A:Around}{fe:Env}{outer:List Env}{F:Addr}{c:Env}{ρ:Fr}{g:GW}{σ:Sto}{s:Shared}{kx:KX}
include O hRa H HX hT hgf hO
theorem exS_ok(am:Amb X d A fe outer F c)(w:Wh X ρ c (fe::outer) g σ s)(st:Stmt)(k:KF)(h:exS cx L st ρ σ k kx=true) :
  wpAny (model X.prog X.w) A (exec st c) (EPost X ρ c (fe::outer) g s k) (PX X (WS ρ c) (fe::outer) F g s kx) s:=by
 cases st with
 |Expr=>exact ifB h fT λhn h=>exprS_ok O am w (P:=λ_ σ=>k .next ρ σ) hn (λ_ _ q=>q) (H.ev am w _ _ kx h)
 |Return=>exact ifE h fT λe h=>ret_ok O H am w h
 |Assign ts e pos=>
  refine oneE h fT λt h=>?_
  cases hi:itemTgt t with
  |some z=>rw[hi]at h;exact itemS_ok O H hT am w hi h
  |none=>rw[hi]at h;exact ifB h fT λht h=>assign_ok O H HX hT hO am w ht h
 |If=>exact if_ok O H HX am w h
 |For=>exact nilE h fT λh=>ifB h fT λhs h=>for_ok O H HX hT hO am w hs h
 |While=>exact nilE h fT λh=>while_ok O H HX hT hO am w h
 |Raise e z p=>
  cases e with
  |none=>exact absF h
  |some e=>cases z with
   |some=>exact absF h
   |none=>
    refine call0E (show exRaise cx L e ρ σ kx=true from h) fT λgg as ks p h=>nilE h fT λh=>nameE h fT λf p' h=>oneE h fT λa h=>ifB h fT λhc h=>band3 hc λh1 h2 h3=>?_
    exact noE (hRa H hT hgf am w h1 h2 h3 h)
 |_=>exact absF h
end
theorem lvlX_ok{X:Fix}(O:FixOK X){d:Nat}(hRa:RaiseOK X d){cx:Cx}(hT:cx.T=X.T)(hgf:cx.gf=X.gf)(hO:OrcOK X d cx.orc):∀n,ExOK X d (lvl cx n)
 |0=>⟨λ_ _ _ _ _ h=>(absF h)⟩
 |n+1=>⟨λam w st k _ h=>exS_ok O hRa (lvl_ok O hT hO n) (lvlX_ok O hRa hT hgf hO n) hT hgf hO am w st k h⟩
end
section
theorem zip_lookup{α β:Type}[BEq α][LawfulBEq α]:∀{xs:List α} {vs:List β} {x:α},vs.length=xs.length→x∈xs→((xs.zip vs).lookup x).isSome=true
 | [],_,_,_,h=>by cases h
 |y::ys,[],_,hl,_=>by cases hl
 |y::ys,v::vs,x,hl,h=>by
  rw[List.zip_cons_cons,List.lookup_cons]
  split
  ·rfl
  ·rename_i e
   rcases vI h with rfl|h
   ·simp at e
   ·exact zip_lookup (by simpa using hl) h
theorem zip_filterMap{β:Type}:∀{xs:List Str} {vs:List β},xs.Nodup→vs.length=xs.length→(xs.filterMap λn=>((xs.zip vs).lookup n).map (n,·))=xs.zip vs:=by
 intro xs vs hn hl
 have key:∀(xs:List Str) (vs:List β) (Z:List (Str×β)),xs.Nodup→vs.length=xs.length→(∀x v,(x,v)∈xs.zip vs→Z.lookup x=some v)→(xs.filterMap λn=>(Z.lookup n).map (n,·))=xs.zip vs:=by
  intro xs
  induction xs with
  |nil=>intro vs Z zz zz zz;rfl
  |cons x xs ih=>
   intro vs Z hn hl hZ
   cases vs with
   |nil=>cases hl
   |cons v vs=>
    rw[List.filterMap_cons,hZ x v (by simp)]
    rw[List.zip_cons_cons]
    show(x,v)::xs.filterMap (λn=>(Z.lookup n).map (n,·))=_
    rw[ih vs Z (List.nodup_cons.mp hn).2 (by simpa using hl) λy u hm=>hZ y u (by rw[List.zip_cons_cons];exact .tail _ hm)]
 refine key xs vs _ hn hl λx v hm=>?_
 clear key
 induction xs generalizing vs with
 |nil=>cases hm
 |cons y ys ih=>
  cases vs with
  |nil=>cases hl
  |cons u us=>
   rw[List.zip_cons_cons]at hm ⊢
   rw[List.lookup_cons]
   rcases vI hm with e|hm2
   ·cases e;simp
   ·have hy:y∉ys:=(List.nodup_cons.mp hn).1
    have:(x==y)=false:=by
     rw[beq_eq_false_iff_ne]
     intro q
     exact hy (q▸(List.of_mem_zip hm2).1)
    rw[this]
    exact ih (List.nodup_cons.mp hn).2 (by simpa using hl) hm2
theorem distinctS_ok:∀{xs:List Str},distinctS xs=true→xs.Nodup
 | [],_=>List.nodup_nil
 |x::r,h=>by
  have h:=vJ (show(_&&_)=true from h)
  refine List.nodup_cons.mpr ⟨λhm=>?_,distinctS_ok h.2⟩
  have:=h.1
  rw[Bool.not_eq_true',List.any_eq_false]at this
  exact this x hm (by rw[eqS_iff];simp)
theorem forIn_fix{α β:Type}{l:List α}{f:α→β→Sem (ForInStep β)}(c:β)(h:∀x∈l,f x c=pure (.yield c)):forIn l c f=pure c:=by
 induction l with
 |nil=>rfl
 |cons x r ih=>
  rw[List.forIn_cons,h x (.head _),pure_bind]
  exact ih λy hy=>h y (.tail _ hy)
noncomputable def fdN(fd:FuncData)(as:List Arg):FuncData:={ fd with params:=⟨[],as,none,[],[],none,fd.params.defaults⟩ }
theorem fdN_eq{fd:FuncData}(hp:plainPar fd.params=true):fd=fdN fd fd.params.args:=by
 obtain⟨name,qualname,params,body,scope,globals,closure,defaults,kwdefaults,doc,pyModule,annotations,code,closureTuple,builtins⟩:=fd
 exact congrArg (λp=>(⟨name,qualname,p,body,scope,globals,closure,defaults,kwdefaults,doc,pyModule,annotations,code,closureTuple,builtins⟩:FuncData)) (plainPar_eq hp)
theorem bind_of{α β:Type}{m:Sem α}{f:α→Sem β}{x:α}{y:Sem β}(h:m=pure x)(k:f x=y):(m >>= f)=y:=by subst h;exact k
section
variable{M:Model}{A:Around}{E:Value→Shared→Prop}{s:Shared}
theorem bind_seq{fd:FuncData}{args:Args}{k:Option (Array Value)→Sem (List (Str×Value))}{binds:List (Str×Value)}{Q:List (Str×Value)→Shared→Prop}(h₁:bindArgs fd args=seqItems? fd.defaults >>= k)(hs:∀{Q':Option (Array Value)→Shared→Prop},(∀r,Q' r s)→wpAny M A (seqItems? fd.defaults) Q' E s)(h₂:∀r,k r=pure binds)(hq:Q binds s):wpAny M A (bindArgs fd args) Q E s:=
 h₁▸wpAny_bind (hs λr=>h₂ r▸wpAny_pure hq)
theorem bind_full{fd:FuncData}{vals:List Value}{Q:List (Str×Value)→Shared→Prop}(hp:plainPar fd.params=true)(hl:vals.length=(fd.params.args.map (·.arg)).length)(hn:(fd.params.args.map (·.arg)).Nodup)
  (hd:fd.defaults=.none∨∃t o vs n,fd.defaults=.ref t∧s.heap.get? t=some o∧o.data=.seq vs n) (h:Q ((fd.params.args.map (·.arg)).zip vals) s):wpAny M A (bindArgs fd ⟨vals,[]⟩) Q E s:=by
 rw[fdN_eq hp]
 refine bind_seq (fd:=fdN fd fd.params.args) rfl (λ{Q'} hq=>?_) (λr=>?_) h
 ·show wpAny M A (seqItems? fd.defaults) Q' E s
  rcases hd with e|⟨t,o,vs,n,e,ho,hdd⟩
  ·rw[e];exact wpAny_bind (wpAny_of_eq (a:=()) rfl (wpAny_pure (hq _)))
  ·rw[e];exact wpAny_seqItems ho hdd (hq _)
 ·generalize hN:fd.params.args.map (·.arg)=N at hl hn
  have hlook:∀x∈N,((N.zip vals).lookup x).isNone=false:=λx hx=>by
   have:=zip_lookup hl hx
   cases hh:(N.zip vals).lookup x with
   |none=>rw[hh]at this;exact absF this
   |some=>rfl
  have hmiss:∀n,((N.take n).filter λn=>((N.zip vals).lookup n).isNone)=[]:=λn=>List.filter_eq_nil_iff.mpr λx hx q=>absF ((hlook x (List.mem_of_mem_take hx)).symm.trans q)
  subst hN
  refine(if_neg λq=>?_).trans ((if_neg λq=>absF ((congrArg (λl:List Str=>!l.isEmpty) (hmiss _)).symm.trans q)).trans ?_)
  ·exact absurd (of_decide_eq_true (band2 q λq _=>q)) (vL (Nat.le_of_eq hl))
  refine bind_of (x:=(fd.params.args.map (·.arg)).zip vals) (forIn_fix _ λx hx=>?_) ?_
  ·have hm:x.1∈fd.params.args.map (·.arg):=List.mem_of_mem_drop (List.of_mem_zip hx).1
   exact if_neg λq=>absF ((hlook x.1 hm).symm.trans q)
  ·exact congrArg (pure (f:=Sem)) ((congrArg (List.filterMap _) (vO (fd.params.args.map (·.arg)))).trans (zip_filterMap hn hl))
end
end
section
theorem bindL_out{kd:Str→Option NameKind}{x:Str}:∀{bs:List (Str×Value)} {m:Str→Option Value},x∉bs.map (·.1)→bindL kd bs m x=m x
 | [],_,_=>rfl
 |(n,v)::r,m,h=>by
  rw[List.map_cons,List.mem_cons,not_or]at h
  rw[bindL,bindL_out h.2]
  split
  ·exact if_neg h.1
  ·rfl
theorem bindL_in{kd:Str→Option NameKind}{x:Str}(hk:kd x=some .local):∀{bs:List (Str×Value)} {m:Str→Option Value} {v:Value},(bs.map (·.1)).Nodup→bs.lookup x=some v→bindL kd bs m x=some v
 | [],_,_,_,h=>by exact absN h
 |(n,u)::r,m,v,hn,h=>by
  rw[List.map_cons,List.nodup_cons]at hn
  rw[List.lookup_cons]at h
  rw[bindL]
  split at h
  ·rename_i e
   refine someI h ?_;clear h;intro hx;refine rwG hx ?_;clear hx
   have:x=n:=eq_of_beq e
   subst this
   refine rwG (bindL_out hn.1) (rwG (if_pos hk) ?_);simp
  ·exact bindL_in hk hn.2 h
theorem bindC_out{kd:Str→Option NameKind}{x:Str}:∀{bs:List (Str×Value)} {m:Str→Option Value},x∉bs.map (·.1)→bindC kd bs m x=m x
 | [],_,_=>rfl
 |(n,v)::r,m,h=>by
  rw[List.map_cons,List.mem_cons,not_or]at h
  rw[bindC,bindC_out h.2]
  split
  ·rfl
  ·exact if_neg h.1
theorem bindC_in{kd:Str→Option NameKind}{x:Str}(hk:kd x=some .cell):∀{bs:List (Str×Value)} {m:Str→Option Value} {v:Value},(bs.map (·.1)).Nodup→bs.lookup x=some v→bindC kd bs m x=some v
 | [],_,_,_,h=>by exact absN h
 |(n,u)::r,m,v,hn,h=>by
  rw[List.map_cons,List.nodup_cons]at hn
  rw[List.lookup_cons]at h
  rw[bindC]
  split at h
  ·rename_i e
   refine someI h ?_;clear h;intro hx;refine rwG hx ?_;clear hx
   have:x=n:=eq_of_beq e
   subst this
   rw[bindC_out hn.1,if_neg (by refine rwG hk ?_;simp)];simp
  ·exact bindC_in hk hn.2 h
theorem cellsFrom_acc{q:Str×Addr}:∀{l:List (Str×NameKind)} {n:Nat} {acc:List (Str×Addr)},q∈acc→q∈cellsFrom n l acc
 | [],_,_,h=>h
 |(y,k)::r,n,acc,h=>by
  rw[cellsFrom]
  split
  ·exact cellsFrom_acc (.tail _ h)
  ·exact cellsFrom_acc h
theorem cellsFrom_has{x:Str}:∀{l:List (Str×NameKind)} {n:Nat} {acc:List (Str×Addr)},(x,NameKind.cell)∈l→∃a,(x,a)∈cellsFrom n l acc
 | [],_,_,h=>by cases h
 |(y,k)::r,n,acc,h=>by
  rw[cellsFrom]
  rcases vI h with e|h
  ·cases e
   refine rwG (if_pos (by rfl)) ?_
   exact⟨n,cellsFrom_acc (.head _)⟩
  ·split <;> exact cellsFrom_has h
theorem pair_inj{l:List (Str×Addr)}(h:l.Pairwise λx y=>x.2≠y.2):∀p∈l,∀q∈l,p.2=q.2→p=q:=by
 induction h with
 |nil=>intro p hp;cases hp
 |cons h1 _ ih=>
  intro p hp q hq e
  rcases vI hp with ep|hp'
  ·rcases vI hq with eq|hq'
   ·exact rwG ep (rwG eq rfl)
   ·rw[ep]at e;exact absurd e (h1 q hq')
  ·rcases vI hq with eq|hq'
   ·rw[eq]at e;exact absurd e.symm (h1 p hp')
   ·exact ih p hp' q hq' e
set_option tactic.hygienic true in
theorem bindP_ok{X:Fix}{g:GW}:∀{xs:List Str} {ps:List PV} {bs:List (Str×PV)} {vs:List Value},bindP xs ps=some bs→RepL X g vs ps→vs.length=xs.length∧∀x p,lk x bs=some p→∃v,(xs.zip vs).lookup x=some v∧RepV X g v p
 | [],[],_,_,h,q=>by refine rwG q.i0 ?_;refine someI h ?_;clear h;intro hx;subst hx;exact⟨rfl,λx p e=>by exact absN e⟩
 |x::xs,p::ps,bs,_,h,q0=>by
  refine x2_3 q0.i1 λv vs he2=>?_;refine rwG he2 ?_;clear he2;intro a b
  dsimp only[bindP]at h
  cases hr:bindP xs ps with
  |none=>rw[hr]at h;exact absN h
  |some r=>
   rw[hr]at h;refine someI h ?_;clear h;intro hx;subst hx
   refine x0_2 (bindP_ok hr b) λh1 h2=>?_
   refine⟨by rw[List.length_cons,List.length_cons,h1],λy q e=>?_⟩
   rw[lk_c]at e
   rw[List.zip_cons_cons,List.lookup_cons]
   rw[eqS_iff]at e
   refine iteS e ?_ ?_ <;> clear e <;> intro _ e
   ·rename_i hy;refine someI e ?_;clear e;intro hx;subst hx;refine rwG hy ?_;exact⟨v,rfl,a⟩
   ·rename_i hy
    have hy':(y==x)=false:=by simpa using hy
    refine rwG hy' ?_
    exact h2 y q e
 | [],_::_,_,_,h,_=>by exact absN h
 |_::_,[],_,_,h,_=>by exact absN h
noncomputable def frzAll(g:GW)(h:Heap)(as:List Addr):GW:=⟨λb=>if b∈as then h.get? b else g.Γ b,g.la⟩
theorem frzAll_ext{X:Fix}{g:GW}{h:Heap}{as:List Addr}(ha:∀a∈as,Own X g a):GExt g (frzAll g h as):=⟨λb o e=>by
  show(if b∈as then h.get? b else g.Γ b)=some o
  refine rwG (if_neg (λq=>by rw[(ha b q).nf]at e;exact absN e)) ?_;exact e,[],(vO _).symm⟩
theorem HR.freezeAll{X:Fix}{g:GW}{σ:Sto}{h:Heap}{as:List Addr}(x:HR X g σ h)(ha:∀a∈as,Own X g a):HR X (frzAll g h as) σ h:=by
 have ge:=frzAll_ext (h:=h) ha
 refine⟨λb o e=>?_,λb o e=>ge.ext _ _ (x.base b o e),x.len,λi b xs e1 e2=>?_,x.nod,λb hb=>⟨?_,(x.laF b hb).2⟩,?_,?_⟩
 ·have e':(if b∈as then h.get? b else g.Γ b)=some o:=e
  refine iteS e' ?_ ?_ <;> clear e' <;> intro _ e'
  ·exact e'
  ·exact x.frz b o e'
 ·refine x1_2 (x.lst i b xs e1 e2) λvs l q=>?_
  exact⟨vs,l,repL_mono ge q⟩
 ·show(if b∈as then h.get? b else g.Γ b)=none
  refine rwG (if_neg (λq=>(ha b q).nl hb)) ?_;exact(x.laF b hb).1
 ·refine x1_3 x.tab.tab λps h1 h2 h3=>?_
  exact⟨ps,h1,h2,λpos c' e=>let ⟨cd,oc,vs,t,i1,i2,i3⟩:=h3 pos c' e;⟨cd,oc,vs,t,i1,ge.ext _ _ i2,i3⟩⟩
 ·show(if X.P∈as then h.get? X.P else g.Γ X.P)=none
  refine rwG (if_neg (λq=>(ha _ q).nP rfl)) ?_;exact x.noP
set_option tactic.hygienic true in
theorem Stp.freezeAll{X:Fix}{S FS g h g' h' hh}{as:List Addr}(x:Stp X S FS g h g' h')(ha:∀a∈as,Own X g' a)(hn:∀a∈as,h.objs.size≤a):Stp X S FS g h (frzAll g' hh as) h':=by
 have ge:=frzAll_ext (h:=hh) ha
 refine⟨x.size,λb o e=>ge.ext _ _ (x.ext b o e),λb o e=>?_,x.la,x.keep⟩
 have e':(if b∈as then hh.get? b else g'.Γ b)=some o:=e
 refine iteS e' ?_ ?_ <;> clear e' <;> intro _ e'
 ·rename_i hb;exact .inr (hn b hb)
 ·exact x.new b o e'
end
section
section
variable{X:Fix}{S:Addr→Prop}{l:List Env}{env:Env}{L:Addr}{g g₁ g':GW}{s s₁ s':Shared}
theorem Stp.pop(hf:env.frame=some L)(hL:s.heap.objs.size≤L)(hS:∀b,S b→s.heap.objs.size≤b)(t₁:Stp X noS (fsOf l) g s.heap g₁ s₁.heap)(t:Stp X S (fsOf (env::l)) g₁ s₁.heap g' s'.heap):Stp X noS (fsOf l) g s.heap g' s'.heap:=by
 have hfs:fsOf (env::l)=L::fsOf l:=by show(env::l).filterMap (·.frame)=_;rw[List.filterMap_cons,hf]
 rw[hfs]at t
 have z:=(t₁.mono (S':=noS) (FS':=L::fsOf l) (λzz q=>q) λb q=>.tail _ q).trans' t λb q=>.inr (hS b q)
 refine⟨z.size,z.ext,z.new,z.la,λb o e n1 n2 n3=>?_⟩
 refine x1_2 (z.keep b o e n1 n2 n3) λo' e' q=>?_
 refine⟨o',e',q.imp id λ⟨hb,r⟩=>⟨?_,r⟩⟩
 rcases vI hb with rfl|hb
 ·exact absurd (Heap.lt_size e) (vL hL)
 ·exact hb
theorem To.pop(hf:env.frame=some L)(hL:s.heap.objs.size≤L)(hS:∀b,S b→s.heap.objs.size≤b)(t₁:To X noS l g s g₁ s₁)(t:To X S (env::l) g₁ s₁ g' s'):To X noS l g s g' s':=
 ⟨Stp.pop hf hL hS t₁.st t.st,t.gens.trans t₁.gens,t.os.trans t₁.os⟩
theorem XR.pop{kx:KX}{T:Option (Addr×Value)}{e:Value}(hf:env.frame=some L)(hL:s.heap.objs.size≤L)(hS:∀b,S b→s.heap.objs.size≤b)(t₁:To X noS l g s g₁ s₁)(x:XR X S (env::l) g₁ s₁ kx T e s'):XR X noS l g s kx T e s':=by
 refine XR.el x λg' σ ea he hst R hxx hF hk e1 e2=>?_;clear x;refine ExcR.el hxx λhle hok oe vs a1 a2 a3 a4 a5=>?_;clear hxx
 refine⟨⟨g',σ,ea,he,Stp.pop hf hL hS t₁.st hst,R,⟨vE t₁.st.size hle,hok,oe,vs,a1,a2,a3,a4,?_⟩,λenv' he'=>hF env' (.tail _ he'),hk⟩,e1.trans t₁.gens,e2.trans t₁.os⟩
 cases T with
 |none=>exact a5
 |some q=>
  refine x0_4 a5 λb1 b2 b3 b4=>?_;clear a5
  exact⟨b1,b2,vE t₁.st.size b3,b4⟩
end
theorem codeOk_ok{K:Frag}{fd:FuncData}{H:Heap}(h:codeOk K fd=true)(kB:∀b ob,K.lookup b=some ob→H.get? b=some ob):H.CodeRec fd.code fd.qualname:=by
 refine ifE' h fT λc ec h=>ifE' h fT λo eo h=>ifE' h fT λvs ev h=>ifE' h fT λv e1 h=>ifE' h fT λq eq h=>?_
 rw[vstrV_eq eq]at e1
 have hq:q.1=fd.qualname:=by rw[eqS_iff]at h;exact eq_of_beq h
 rw[hq]at e1
 exact⟨c,o,vs,q.2,refV_eq ec,kB _ _ (klS eo),fieldsV_eq ev,e1⟩
theorem dfltOk_ok{K:Frag}{fd:FuncData}{H:Heap}(h:dfltOk K fd=true)(kB:∀b ob,K.lookup b=some ob→H.get? b=some ob):fd.defaults=.none∨∃t o vs n,fd.defaults=.ref t∧H.get? t=some o∧o.data=.seq vs n:=by
 dsimp only[dfltOk]at h
 generalize fd.defaults=v at h
 cases v with
 |none=>exact .inl rfl
 |ref t=>exact ifE' h fT λo eo h=>ifE' h fT λz ez zz=>.inr ⟨t,o,z.1,z.2,rfl,kB _ _ (klS eo),seqV_eq ez⟩
 |_=>exact absF h
noncomputable def frOf(X:Fix)(fd:FuncData)(a:Addr)(bs:List (Str×PV)):Fr:={ scope:=fd.scope,vars:=bs,up:=[],lam:=lamOf fd.scope (fd.params.args.map (·.arg)),q:=Nat.beq a X.T.sh }
noncomputable def retOf:Flow→Value
 |.ret v=>v
 |_=>.none
noncomputable def isRet:Flow→Bool
 |.ret _=>true
 |.next=>true
 |_=>false
theorem callDef_genV{X:Fix}(O:FixOK X){d:Nat}{A:Around}{fe:Env}{outer:List Env}{F:Addr}{g:GW}{σ:Sto}{s:Shared}{kx:KX}(am:Amb X (d+1) A fe outer F fe)(R:HR X g σ s.heap)(fs:FramesOK X g s.heap (fe::outer))
  {a:Addr} {o:Obj} {fd:FuncData} {body:List Stmt} {vs vc:List Value} {RR:Value→GW→Sto→Prop} (hK:X.T.K.lookup a=some o) (ho:o.data=.func fd) (hf:fnOk X.T.K fd=true) (hb:fd.body=.stmts body) (hl:vs.length=(fd.params.args.map (·.arg)).length)
  (hbind:∀{M:Model} {A:Around} {E:Value→Shared→Prop} {Q:List (Str×Value)→Shared→Prop},Q ((fd.params.args.map (·.arg)).zip vs) s→wpAny M A (bindArgs fd ⟨vc,[]⟩) Q E s)
  (h:∀(A₁:Around) (env:Env) (F₁:Addr) (g₁:GW) (s₁:Shared),Amb X d A₁ env (fe::outer) F₁ env→To X noS (fe::outer) g s g₁ s₁ →
   (∀ps bs,bindP (fd.params.args.map (·.arg)) ps=some bs→RepL X g vs ps→Wh X (frOf X fd a bs) env (env::fe::outer) g₁ σ s₁) →
   wpAny (model X.prog X.w) A₁ (PySem.execs body env) (λf s₂=>∃g₂ σ₂,To X (WS (frOf X fd a []) env) (env::fe::outer) g₁ s₁ g₂ s₂∧HR X g₂ σ₂ s₂.heap∧RR (retOf f) g₂ σ₂∧isRet f=true) (PX X (WS (frOf X fd a []) env) (env::fe::outer) F₁ g₁ s₁ kx) s₁) :
  wpAny (model X.prog X.w) A (call (.ref a) vc) (VG X noS (fe::outer) g s λv g σ _=>RR v g σ) (PX X noS (fe::outer) F g s kx) s:=by
 unfold fnOk at hf
 refine band11 hf λf1 f2 f3 f4 f5 f6 f7 f8 f9 f10 f11=>?_;clear hf
 have kB:∀b ob,X.T.K.lookup b=some ob→s.heap.get? b=some ob:=λb ob e=>R.frz _ _ (R.base _ _ (O.inK _ _ e))
 have hkind:=isFun_eq f3
 have hglob:=vB f6
 have hblt:=vB f7
 have hclo:fd.closure=[]:=by simpa using f8
 have hcd:=codeOk_ok f9 kB
 have hnd:=distinctS_ok f2
 have hparK:∀x∈fd.params.args.map (·.arg),lk x fd.scope.names=some .local∨lk x fd.scope.names=some .cell:=λx hx=>by
  have:=(vF f11) x hx
  exact parKind_eq this
 have hzn:((fd.params.args.map (·.arg)).zip vs).map (·.1)=fd.params.args.map (·.arg):=by
  rw[List.map_fst_zip];rw[hl];exact vD _
 have hnl:s.heap.NoLimit:=O.nolimit.keeps λb o e=>R.frz _ _ (R.base _ _ e)
 refine wpAny_call (codeAny_call_function (by have:=am.depth;show A.depth<1000;(with_reducible exact Internal.ar56 (by assumption))) (kB _ _ hK) ho (by simpa using f4) (by simpa using f5) hb hcd ?_)
 refine hbind ?_
 rw[hclo]
 refine wpAny_newFunctionEnv_cells hkind (λx hx=>?_) λenv he s₁ x=>?_
 ·have hx1:x.1∈fd.params.args.map (·.arg):=by rw[←hzn];exact List.mem_map_of_mem hx
  rcases hparK x.1 hx1 with e|e
  ·left;rw[←lk_eq];exact e
  ·right
   refine⟨by rw[←lk_eq];exact e,?_⟩
   refine x1_1 (cellsFrom_has (n:=s.heap.objs.size+1) (acc:=[]) (lk_mem e)) λb hb'=>?_
   refine x1_1 (mem_lookup hb') λu hu=>?_
   rw[hu];rfl
 ·have hloc:env.locals=s.heap.objs.size:=by rw[he];rfl
  have hfr:env.frame=some s.heap.objs.size:=by rw[he];rfl
  have hsc:env.scope=fd.scope:=by rw[he];rfl
  have hcells:env.cells=cellsFrom (s.heap.objs.size+1) fd.scope.names []:=by rw[he];rfl
  obtain⟨ho1,xcell,xapart,xabove⟩:=x;obtain⟨ho2,xns,xkeep,zz⟩:=ho1;refine x2_1 ho2 λh₁ tk hs₁=>?_;clear ho2
  subst hs₁
  dsimp only at xns xkeep xcell
  rw[hloc]at xns xabove
  refine⟨hnl.keeps xkeep,codeAny_func ?_⟩
  have hL:=xns.lt
  have R':HR X g σ h₁:=R.heap λb ob e zz=>xkeep b ob e
  -- the cells
  have ownc:∀y b,(y,b)∈env.cells→Own X g b:=λy b hm=>by
   refine x0_3 (R.fresh (Nat.le_of_lt (xabove y b hm))) λn1 n2 n3=>?_
   exact⟨n1,n2,n3⟩
  let as:List Addr:=if lamOf fd.scope (fd.params.args.map (·.arg))then env.cells.map (·.2)else[]
  have has:∀b∈as,∃y,(y,b)∈env.cells:=λb hb'=>by
   have hb2:b∈(if lamOf fd.scope (fd.params.args.map (·.arg))then env.cells.map (·.2)else[]):=hb'
   split at hb2
   ·refine x1_2 (List.mem_map.mp hb2) λho3 hm he2=>?_;subst he2;obtain⟨y,b'⟩:=ho3;exact⟨y,hm⟩
   ·cases hb2
  have hown:∀b∈as,Own X g b:=λb hb'=>let ⟨y,hm⟩:=has b hb';ownc y b hm
  have hge:∀b∈as,s.heap.objs.size≤b:=λb hb'=>let ⟨y,hm⟩:=has b hb';Nat.le_of_lt (xabove y b hm)
  have R₁:=R'.freezeAll hown
  have t₁:To X noS (fe::outer) g s (frzAll g h₁ as) { s with heap:=h₁,toks:=tk }:=⟨(Stp.heap (Nat.le_of_lt hL) λb ob e zz zz zz=>xkeep b ob e).freezeAll hown hge,rfl,rfl⟩
  have ge:=frzAll_ext (h:=h₁) hown
  refine x0_3 (R.fresh (vD s.heap.objs.size)) λl1 l2 l3=>?_
  have hLas:s.heap.objs.size∉as:=λhm=>by
   refine x1_1 (has _ hm) λy hm'=>?_
   exact absurd (xabove y _ hm') (Nat.lt_irrefl _)
  have hLG:(frzAll g h₁ as).Γ s.heap.objs.size=none:=by
   show(if _∈as then _ else _)=none
   rw[if_neg hLas];exact l1
  have fs₁:FramesOK X (frzAll g h₁ as) h₁ (env::fe::outer):=by
   intro e he'
   rcases vI he' with rfl|he'
   ·refine x3_2 (Ns.dict xns) λoL esL nL q1 q2=>?_
    exact⟨by rw[hsc,hkind];simp,_,oL,hfr,hLG,l2,l3,q1,esL,nL,q2⟩
   ·exact fs.step t₁.st (λzz zz zz zz z=>z) e he'
  have hfrR:∀ps bs,bindP (fd.params.args.map (·.arg)) ps=some bs→RepL X g vs ps→FrR X (frzAll g h₁ as) { scope:=fd.scope,vars:=bs,up:=[],lam:=lamOf fd.scope (fd.params.args.map (·.arg)),q:=Nat.beq a X.T.sh } env h₁:=by
   intro ps bs hbs q
   refine x0_2 (bindP_ok hbs q) λzz hval=>?_
   have cellOf:∀y b,env.cells.lookup y=some b→(y,b)∈env.cells:=λy b e=>lookup_mem e
   refine⟨by rw[hsc];exact hkind,by rw[he];exact hglob,by rw[he];exact hblt,λy k' e=>.inl ?_,⟨_,by rw[hloc];exact xns,λy p e1 e2=>?_⟩,by rw[hloc];exact⟨hLG,l2,l3⟩,λy p e=>?_,λy e=>?_,λy z b e1 e2=>?_,λz b e=>?_,λhq=>?_⟩
   ·show env.scope.names.lookup y=_
    rw[hsc,←lk_eq];exact e
   ·refine x1_2 (hval y p e2) λv hv rv=>?_
    have hkd:env.kindOf y=some .local:=by
     show env.scope.names.lookup y=_
     rw[hsc,←lk_eq];exact e1
    exact⟨v,bindL_in hkd (by rw[hzn];exact hnd) hv,repV_mono ge rv⟩
   ·rcases e with⟨e1,e2⟩|⟨zz,e2⟩
    ·refine x1_2 (hval y p e2) λv hv rv=>?_
     have hkd:env.kindOf y=some .cell:=by
      show env.scope.names.lookup y=_
      rw[hsc,←lk_eq];exact e1
     refine x1_1 (cellsFrom_has (n:=s.heap.objs.size+1) (acc:=[]) (lk_mem e1)) λb hm=>?_
     rw[←hcells]at hm
     refine x1_1 (mem_lookup hm) λu hu=>?_
     have hc:=xcell y u hu
     rw[bindC_in hkd (by rw[hzn];exact hnd) hv]at hc
     have ho:=ownc y u (cellOf y u hu)
     refine x1_2 hc λoc q1 q2=>?_;clear hc
     refine⟨u,v,hu,⟨oc,q1,q2⟩,repV_mono ge rv,ho.nl,ho.nP,λhl=>⟨oc,?_⟩,λhl=>?_⟩
     ·show(if u∈as then h₁.get? u else _)=some oc
      have hl':lamOf fd.scope (fd.params.args.map (·.arg))=true:=hl
      rw[if_pos]
      ·exact q1
      ·show u∈(if lamOf fd.scope (fd.params.args.map (·.arg))then env.cells.map (·.2)else[])
       rw[if_pos hl']
       exact List.mem_map.mpr ⟨(y,u),cellOf y u hu,rfl⟩
     ·show(if u∈as then h₁.get? u else g.Γ u)=none
      have hl':lamOf fd.scope (fd.params.args.map (·.arg))=false:=hl
      rw[if_neg]
      ·exact ho.nf
      ·show u∉(if lamOf fd.scope (fd.params.args.map (·.arg))then env.cells.map (·.2)else[])
       rw[hl'];simp
    ·exact absN e2
   ·refine x1_1 (cellsFrom_has (n:=s.heap.objs.size+1) (acc:=[]) (lk_mem e)) λb hm=>?_
    rw[←hcells]at hm
    refine x1_1 (mem_lookup hm) λu hu=>?_
    have ho:=ownc y u (cellOf y u hu)
    refine⟨u,_,hu,xcell y u hu,ho.nl,ho.nP,λhl=>?_⟩
    show(if u∈as then h₁.get? u else g.Γ u)=none
    have hl':lamOf fd.scope (fd.params.args.map (·.arg))=false:=hl
    rw[if_neg]
    ·exact ho.nf
    ·show u∉(if lamOf fd.scope (fd.params.args.map (·.arg))then env.cells.map (·.2)else[])
     rw[hl'];simp
   ·have:=pair_inj xapart _ (cellOf y b e1) _ (cellOf z b e2) rfl
    exact congrArg Prod.fst this
   ·have ho:=ownc z b (cellOf z b e)
    exact⟨⟨_,xcell z b e⟩,ho.nl,ho.nP⟩
   ·have ha:=vB hq
    rw[ha]at hK
    refine x0_2 (O.sh o fd hK ho) λz1 z2=>?_
    refine⟨by rw[he];exact z1,?_⟩
    rw[he];exact z2
  have am₁:Amb X d (A.deeper env) env (fe::outer) s.heap.objs.size env:=⟨by show A.frames.map (env :: ·)=_;rw[am.fr];rfl,am.hd,hfr,hfr,by have:=am.units;show A.units+3+16*d+100≤cLine;(with_reducible exact Internal.ar57 (by assumption)),by have:=am.depth;show A.depth+1+d≤900;(with_reducible exact Internal.ar58 (by assumption))⟩
  have hWS:∀b,WS (frOf X fd a []) env b→s.heap.objs.size≤b:=by
   rintro b (z|⟨zz,y,zz,z⟩)
   ·rw[z,hloc];exact vD _
   ·exact Nat.le_of_lt (xabove y b (lookup_mem z))
  refine wpAny_mono (h (A.deeper env) env s.heap.objs.size _ _ am₁ t₁ λps bs hbs q=>⟨R₁,fs₁,hfrR ps bs hbs q⟩) (λf s₂ hz2=>?_) λe s₂ px=>?_
  ·refine x2_4 hz2 λg₂ σ₂ t₂ R₂ hk hr=>?_;clear hz2
   have T:=To.pop hfr (vD _) hWS t₁ t₂
   cases f with
   |next=>exact⟨g₂,σ₂,T,R₂,hk⟩
   |ret v=>exact⟨g₂,σ₂,T,R₂,hk⟩
   |brk=>exact absF hr
   |cont=>exact absF hr
  ·exact leaving_rel am₁.fr hfr hfr px λt s₃ y=>⟨_,.inr ⟨t,.inl rfl⟩,XR.pop hfr (vD _) hWS t₁ y⟩
theorem callDef_genB{X:Fix}(O:FixOK X){d:Nat}{A:Around}{fe:Env}{outer:List Env}{F:Addr}{g:GW}{σ:Sto}{s:Shared}{kx:KX}(am:Amb X (d+1) A fe outer F fe)(R:HR X g σ s.heap)(fs:FramesOK X g s.heap (fe::outer))
  {a:Addr} {o:Obj} {fd:FuncData} {body:List Stmt} {vs vc:List Value} {k:KV} (hK:X.T.K.lookup a=some o) (ho:o.data=.func fd) (hf:fnOk X.T.K fd=true) (hb:fd.body=.stmts body) (hl:vs.length=(fd.params.args.map (·.arg)).length)
  (hbind:∀{M:Model} {A:Around} {E:Value→Shared→Prop} {Q:List (Str×Value)→Shared→Prop},Q ((fd.params.args.map (·.arg)).zip vs) s→wpAny M A (bindArgs fd ⟨vc,[]⟩) Q E s)
  (h:∀(A₁:Around) (env:Env) (F₁:Addr) (g₁:GW) (s₁:Shared),Amb X d A₁ env (fe::outer) F₁ env→To X noS (fe::outer) g s g₁ s₁ →
   (∀ps bs,bindP (fd.params.args.map (·.arg)) ps=some bs→RepL X g vs ps→Wh X (frOf X fd a bs) env (env::fe::outer) g₁ σ s₁) →
   wpAny (model X.prog X.w) A₁ (PySem.execs body env) (λf s₂=>∃g₂ σ₂,To X (WS (frOf X fd a []) env) (env::fe::outer) g₁ s₁ g₂ s₂∧HR X g₂ σ₂ s₂.heap∧∃p,RepV X g₂ (retOf f) p∧k p σ₂=true∧isRet f=true) (PX X (WS (frOf X fd a []) env) (env::fe::outer) F₁ g₁ s₁ kx) s₁) :
  wpAny (model X.prog X.w) A (call (.ref a) vc) (VG X noS (fe::outer) g s (RV X k)) (PX X noS (fe::outer) F g s kx) s:=
 wpAny_mono (callDef_genV (RR:=λv g σ=>∃p,RepV X g v p∧k p σ=true) O am R fs hK ho hf hb hl hbind λA₁ env F₁ g₁ s₁ am₁ t₁ mk=>wpAny_mono (h A₁ env F₁ g₁ s₁ am₁ t₁ mk) (λf s₂ hz3=>by refine x2_3 hz3 λg₂ σ₂ t₂ R₂ hq4=>?_;refine x1_3 hq4 λp rp hk hr=>?_;clear hz3;exact⟨g₂,σ₂,t₂,R₂,⟨p,rp,hk⟩,hr⟩) λ_ _ q=>q) (λ_ _ q=>q.mono λ_ _ _ _ r=>r.elim λp r=>⟨p,r.1,r.2⟩) λ_ _ q=>q
theorem bind_given{X:Fix}{g:GW}{σ:Sto}{s:Shared}(O:FixOK X)(R:HR X g σ s.heap){fd:FuncData}{vs:List Value}(hf:fnOk X.T.K fd=true)(hl:vs.length=(fd.params.args.map (·.arg)).length){M:Model}{A:Around}{E:Value→Shared→Prop}{Q:List (Str×Value)→Shared→Prop}
  (h:Q ((fd.params.args.map (·.arg)).zip vs) s):wpAny M A (bindArgs fd ⟨vs,[]⟩) Q E s:=by
 unfold fnOk at hf
 refine band11 hf λf1 f2 f3 f4 f5 f6 f7 f8 f9 f10 f11=>?_;clear hf
 have kB:∀b ob,X.T.K.lookup b=some ob→s.heap.get? b=some ob:=λb ob e=>R.frz _ _ (R.base _ _ (O.inK _ _ e))
 have hd:=dfltOk_ok f10 kB
 exact bind_full f1 hl (distinctS_ok f2) hd h
theorem callDef_ok{X:Fix}(O:FixOK X){d:Nat}(hRa:RaiseOK X d){orc:Orc}(hO:OrcOK X d orc){A:Around}{fe:Env}{outer:List Env}{F:Addr}{g:GW}{σ:Sto}{s:Shared}{kx:KX}(am:Amb X (d+1) A fe outer F fe)(R:HR X g σ s.heap)(fs:FramesOK X g s.heap (fe::outer))
  {a:Addr} {o:Obj} {fd:FuncData} {body:List Stmt} {vs:List Value} {ps:List PV} {bs:List (Str×PV)} {k:KV} (hK:X.T.K.lookup a=some o) (ho:o.data=.func fd) (hf:fnOk X.T.K fd=true) (hb:fd.body=.stmts body) (hbs:bindP (fd.params.args.map (·.arg)) ps=some bs) (q:RepL X g vs ps)
  (h:Internal.execs (lvl ⟨X.T,X.gf,orc⟩ lvlMax) body { scope:=fd.scope,vars:=bs,up:=[],lam:=lamOf fd.scope (fd.params.args.map (·.arg)),q:=Nat.beq a X.T.sh } σ (λfl zz σ=>match fl with
     |.next=>k .none σ
     |.ret p=>k p σ) kx=true) :
  wpAny (model X.prog X.w) A (call (.ref a) vs) (VG X noS (fe::outer) g s (RV X k)) (PX X noS (fe::outer) F g s kx) s:=by
 have hl:=(bindP_ok hbs q).1
 refine callDef_genB O am R fs hK ho hf hb hl (λh=>bind_given O R hf hl h) ?_
 intro A₁ env F₁ g₁ s₁ am₁ t₁ mk
 refine wpAny_mono (execs_ok (lvlX_ok O hRa (cx:=⟨X.T,X.gf,orc⟩) rfl rfl hO lvlMax) am₁ body (mk _ bs hbs q) h) (λf s₂ hx=>?_) λe s₂ px=>px
 refine EPost.el hx λg₂ σ₂ ρ₂ fp t₂ R₂ zz zz hfl hk=>?_;clear hx
 cases f with
 |next=>
  cases fp with
  |next=>exact⟨g₂,σ₂,t₂,R₂,.none,.none,hk,rfl⟩
  |ret=>exact hfl.elim
 |ret v=>
  cases fp with
  |next=>exact hfl.elim
  |ret p=>exact⟨g₂,σ₂,t₂,R₂,p,hfl,hk,rfl⟩
 |brk=>exact hfl.elim
 |cont=>exact hfl.elim
end
section
theorem nodup_lookup{α:Type}:∀{l:List (Str×α)} {x:Str} {v:α},(l.map (·.1)).Nodup→(x,v)∈l→l.lookup x=some v
 | [],_,_,_,h=>by cases h
 |(y,u)::r,x,v,hn,h=>by
  rw[List.map_cons,List.nodup_cons]at hn
  rw[List.lookup_cons]
  rcases vI h with e|h
  ·cases e;simp
  ·have:(x==y)=false:=by
    rw[beq_eq_false_iff_ne]
    intro q
    exact hn.1 (q▸List.mem_map_of_mem (f:=(·.1)) h)
   rw[this]
   exact nodup_lookup hn.2 h
theorem lookup_reverse{α:Type}{l:List (Str×α)}{x:Str}{v:α}(hn:(l.map (·.1)).Nodup)(h:l.lookup x=some v):l.reverse.lookup x=some v:=
 nodup_lookup (by rw[List.map_reverse];exact(List.reverse_perm _).nodup_iff.mpr hn) (List.mem_reverse.mpr (lookup_mem h))
set_option tactic.hygienic true in
theorem callClos_ok{X:Fix}(O:FixOK X){d:Nat}{orc:Orc}(hO:OrcOK X d orc){A:Around}{fe:Env}{outer:List Env}{F:Addr}{g:GW}{σ:Sto}{s:Shared}{kx:KX}(am:Amb X (d+1) A fe outer F fe)(R:HR X g σ s.heap)(fs:FramesOK X g s.heap (fe::outer))
  {v:Value} {ag:Arguments} {body:Expr} {sc:Scope} {x:Str} {p:PV} {vs:List Value} {ps:List PV} {bs:List (Str×PV)} {k:KV} (r:RepV X g v (.clos ag body sc x p))
  (hf:(plainPar ag&&distinctS (ag.args.map (·.arg))&&isFun sc && !sc.isCoroutine && !sc.isGenerator&&noCells sc&&(ag.args.map (·.arg)).all (parKind sc))=true) (hbs:bindP (ag.args.map (·.arg)) ps=some bs) (q:RepL X g vs ps)
  (h:(lvl ⟨X.T,X.gf,orc⟩ lvlMax).ev body { scope:=sc,vars:=bs,up:=[(x,p)],lam:=true,q:=false } σ k kx=true) :
  wpAny (model X.prog X.w) A (call v vs) (VG X noS (fe::outer) g s (RV X k)) (PX X noS (fe::outer) F g s kx) s:=by
 refine band7 hf λf1 f2 f3 f4 f5 f6 f7=>?_;clear hf
 obtain⟨a,oc,od,fd,osl,c,co,u,rfl,e1,e2,e3,e4,e5,e6,e7,e8,e9,e10,e11,e12,e13⟩:=r.iC
 ·subst e2;subst e4
  refine x4_4 e10 λcd ocd vcd tcd i1 i2 i3 i4=>?_;clear e10
  have hkind:=isFun_eq f3
  have hcd:s.heap.CodeRec fd.code fd.qualname:=⟨cd,ocd,vcd,tcd,i1,R.frz _ _ i2,i3,i4⟩
  have hnd:=distinctS_ok f2
  refine x0_2 (bindP_ok hbs q) λhl hval=>?_
  have hzn:((fd.params.args.map (·.arg)).zip vs).map (·.1)=fd.params.args.map (·.arg):=by
   rw[List.map_fst_zip];rw[hl];exact vD _
  have hnl:s.heap.NoLimit:=O.nolimit.keeps λb o e=>R.frz _ _ (R.base _ _ e)
  refine wpAny_call (kla_callFunE (by have:=am.depth;show A.depth<1000;(with_reducible exact Internal.ar56 (by assumption))) (R.frz _ _ e1) rfl (by simpa using f4) (by simpa using f5) e3 hcd ?_)
  refine bind_full f1 hl hnd (.inl e8) ?_
  rw[e5]
  refine wpAny_newFunctionEnv (λy hy e=>noCells_ok f6 (x:=y.1) (by rw[←e];exact hy)) (λy hy=>?_) (λh₁ xns hsb=>?_) hkind
  ·have hy1:y.1∈fd.params.args.map (·.arg):=by rw[←hzn];exact List.mem_map_of_mem hy
   have:=(vF f7) y.1 hy1
   rcases parKind_eq this with e|e
   ·rw[←lk_eq];exact e
   ·exact absurd (lk_mem e) (noCells_ok f6)
  ·generalize hE:newEnv fd.scope s.heap.objs.size fd.globals [(x,c)] (fd.qualname++".<locals>.") (some a) fd.code none fd.builtins=env
   have hloc:env.locals=s.heap.objs.size:=by rw[←hE];rfl
   have hfr:env.frame=some s.heap.objs.size:=by rw[←hE];rfl
   have hsc:env.scope=fd.scope:=by rw[←hE];rfl
   have hcells:env.cells=[(x,c)]:=by rw[←hE];rfl
   have xkeep:∀b o,s.heap.get? b=some o→h₁.get? b=some o:=λb o e=>(hsb.2 b (Nat.ne_of_lt (Heap.lt_size e))).trans (Heap.get?_push_of_some _ e)
   have hL:=xns.lt
   have R₁:HR X g σ h₁:=R.heap λb ob e zz=>xkeep b ob e
   have t₁:To X noS (fe::outer) g s g { s with heap:=h₁,toks:=s.toks+((fd.params.args.map (·.arg)).zip vs).length }:=⟨Stp.heap (Nat.le_of_lt hL) λb ob e zz zz zz=>xkeep b ob e,rfl,rfl⟩
   refine x0_3 (R.fresh (vD s.heap.objs.size)) λl1 l2 l3=>?_
   refine⟨hnl.keeps xkeep,kla_codeExpr ?_⟩
   have fs₁:FramesOK X g h₁ (env::fe::outer):=by
    intro e he'
    rcases vI he' with rfl|he'
    ·refine x3_2 (Ns.dict xns) λoL esL nL q1 q2=>?_
     exact⟨by rw[hsc,hkind];simp,_,oL,hfr,l1,l2,l3,q1,esL,nL,q2⟩
    ·exact fs.step t₁.st (λzz zz zz zz z=>z) e he'
   have hlk:∀y b,env.cells.lookup y=some b→y=x∧b=c:=λy b e=>by
    rw[hcells,List.lookup_cons]at e
    split at e
    ·rename_i hy;refine someI e ?_;clear e;intro hx;subst hx;exact⟨by simpa using hy,rfl⟩
    ·exact absN e
   have hcl:c∉g.la:=λhm=>by have:=(R.laF c hm).1;rw[e11]at this;exact absS this
   have hcP:c≠X.P:=λz=>by rw[z,R.noP]at e11;exact absN e11
   have hlx:env.cells.lookup x=some c:=by rw[hcells,List.lookup_cons];simp
   have hfrR:FrR X g { scope:=fd.scope,vars:=bs,up:=[(x,p)],lam:=true,q:=false } env h₁:=by
    refine⟨by rw[hsc];exact hkind,by rw[←hE];exact e6,by rw[←hE];exact e7,λy k' e=>.inl ?_,⟨_,by rw[hloc];exact xns,λy p' q1 q2=>?_⟩,by rw[hloc];exact⟨l1,l2,l3⟩,λy p' e=>?_,λy e=>absurd (lk_mem e) (noCells_ok f6),λy z b q1 q2=>?_,λz b e=>?_,λhq=>by exact absF hq⟩
    ·show env.scope.names.lookup y=_
     rw[hsc,←lk_eq];exact e
    ·refine x1_2 (hval y p' q2) λv' hv rv=>?_
     exact⟨v',lookup_reverse (by rw[hzn];exact hnd) hv,rv⟩
    ·rcases e with⟨q1,zz⟩|⟨q1,q2⟩
     ·exact absurd (lk_mem q1) (noCells_ok f6)
     ·have hy:y=x∧p'=p:=by
       have q2':lk y [(x,p)]=some p':=q2
       rw[lk_c]at q2'
       refine iteS q2' ?_ ?_ <;> clear q2' <;> intro _ q2'
       ·rename_i z;refine someI q2' ?_;clear q2';intro hx;subst hx;rw[eqS_iff]at z;exact⟨by simpa using z,rfl⟩
       ·exact absN q2'
      refine x0_2 hy λhe0=>?_;subst he0;intro he1;subst he1;clear hy
      exact⟨c,u,hlx,⟨co,xkeep _ _ (R.frz _ _ e11),e12⟩,e13,hcl,hcP,λzz=>⟨co,e11⟩,λhl=>by exact absT hl⟩
    ·exact(hlk y b q1).1.trans (hlk z b q2).1.symm
    ·refine x0_2 (hlk z b e) λhe0=>?_;subst he0;intro he1;subst he1
     exact⟨⟨_,co,xkeep _ _ (R.frz _ _ e11),e12⟩,hcl,hcP⟩
   have w₁:Wh X { scope:=fd.scope,vars:=bs,up:=[(x,p)],lam:=true,q:=false } env (env::fe::outer) g σ { s with heap:=h₁,toks:=s.toks+((fd.params.args.map (·.arg)).zip vs).length }:=⟨R₁,fs₁,hfrR⟩
   have am₁:Amb X d (A.deeper env) env (fe::outer) s.heap.objs.size env:=⟨by show A.frames.map (env :: ·)=_;rw[am.fr];rfl,am.hd,hfr,hfr,by have:=am.units;show A.units+3+16*d+100≤cLine;(with_reducible exact Internal.ar57 (by assumption)),by have:=am.depth;show A.depth+1+d≤900;(with_reducible exact Internal.ar58 (by assumption))⟩
   refine wpAny_mono ((lvl_ok O (cx:=⟨X.T,X.gf,orc⟩) rfl hO lvlMax).ev am₁ w₁ body k kx h) (λv' s₂ hz1=>?_) λe s₂ px=>?_
   ·refine VG.el hz1 λg₂ σ₂ t₂ R₂ hr=>?_;clear hz1
    exact⟨g₂,σ₂,To.pop hfr (vD _) (λzz z=>z.elim) t₁ t₂,R₂,hr⟩
   ·exact leaving_rel am₁.fr hfr hfr px λt s₃ y=>⟨_,.inr ⟨t,.inl rfl⟩,XR.pop hfr (vD _) (λzz z=>z.elim) t₁ y⟩
theorem callP_ok{X:Fix}(O:FixOK X){d:Nat}(hRa:RaiseOK X d){orc:Orc}(hO:OrcOK X d orc):OrcOK X (d+1) (callP X.T X.gf orc):=by
 intro A fe outer F g σ s v c vs ps k kx am R fs r q h
 revert r
 refine poldE h fT ?_;clear h;intro a h r;refine ifE' h fT ?_;clear h;intro ob e' h;refine ifE' h fT ?_;clear h;intro fd hfd h;refine ifB h fT ?_;clear h;intro hf h;refine ifE' h fT ?_;clear h;intro body hb h;refine ifE' h fT ?_;clear h;intro bs hbs hx
 refine x1_2 r.iO λo he1=>?_;subst he1;intro e
 refine x3_1 (funV_eq hfd) λoc od sl he3=>?_;subst he3
 exact callDef_ok O hRa hO am R fs (klS e') rfl hf (stmtsV_eq hb) hbs q hx
noncomputable def SpOK(X:Fix)(d:Nat)(sp:PV→List PV→Option (Sto→KV→KX→Bool)):Prop:=∀{A fe outer F g σ s v c vs ps k kx t},Amb X d A fe outer F fe→HR X g σ s.heap→FramesOK X g s.heap (fe::outer)→RepV X g v c→RepL X g vs ps→sp c ps=some t→t σ k kx=true →
 wpAny (model X.prog X.w) A (call v vs) (VG X noS (fe::outer) g s (RV X k)) (PX X noS (fe::outer) F g s kx) s
theorem Amb.le{X:Fix}{d d':Nat}{A fe outer F c}(am:Amb X d A fe outer F c)(h:d'≤d):Amb X d' A fe outer F c:=
 ⟨am.fr,am.hd,am.fe,am.fc,by have:=am.units;(with_reducible exact Internal.ar59 (by assumption) (by assumption)),by have:=am.depth;(with_reducible exact Internal.ar60 (by assumption) (by assumption))⟩
theorem tower_ok{X:Fix}(O:FixOK X)(hRa:∀d,RaiseOK X d){b:Nat}{sp:PV→List PV→Option (Sto→KV→KX→Bool)}(hS:SpOK X b sp):∀e,OrcOK X (b+e) (tower X.T X.gf sp e)
 |0=>λzz zz zz zz zz h=>by exact absF h
 |e+1=>by
  intro am R fs r q h
  exact ifSR (λt ht h=>hS (am.le (by(with_reducible exact Internal.ar61))) R fs r q ht h) (λ_ h=>callP_ok O (hRa (b+e)) (tower_ok O hRa hS e) am R fs r q h) h
end
section
noncomputable abbrev excBm:List Value:=[.type "Exception",.type "BaseException",.type "object"]
section
variable{prog:Program}{w:World}{A:Around}{h:Heap}{g:Array GenState}{d:Drawn}{t:Nat}{os:OsState}
variable{nm q:Str}{C N L fI:Addr}{bs:List Value}{hdct:Bool}{sn:List Str}{sub:List Value}{ab:Bool}{col:Option Bool}{dd:Option Addr}{k0 k1 k2 k3 k5:Option Value}
theorem ex_has{X:String}{b:Bool}(hb:excBm.contains (.type X)=b):(Value.ref L::excBm).contains (.type X)=b:=by
 rw[List.contains_cons,hb];rfl
theorem ex_checkNew{E:Value→Shared→Prop}{M:Model}{rest:List Value}{Q:Unit→Shared→Prop}(hC:h.get? C=some (excClassObj nm q C N bs (.ref L::excBm) hdct sn sub ab col dd k0 k1 k2 k3 k5 "Exception.__new__"))
  (hq:Q () ⟨h,g,d,t,os⟩):wpAny M A (checkBuiltinCall "Exception.__new__" ⟨.ref C::rest,[]⟩) Q E ⟨h,g,d,t,os⟩:=by
 have F:=PySem.F.excBase_Exception
 have hcont:(Value.ref C :: .ref L::excBm).contains (.type "Exception")=true:=by rw[List.contains_cons,ex_has F.hasB,Bool.or_true]
 have hstar:=F.noStar
 simp only[checkBuiltinCall,F.newKind,F.newSplit,F.newRow]
 repeat (first|refine wpAny_loadPart_at hC ?_|(refine wpAny_isSubtype_exc hC ?_;rw[hcont])|refine wpAny_staticBase_exc hC ?_|refine wpAny_madeBy_exc hC ?_|simp only[bne_self_eq_false,Bool.false_eq_true,if_false]|wp_step)
 exact hq
theorem ex_new{R:Result→Shared→Prop}{rest:List Value}(hC:h.get? C=some (excClassObj nm q C N bs (.ref L::excBm) hdct sn sub ab col dd k0 k1 k2 k3 k5 "Exception.__new__"))
  (hq:R (.ok (.ret (.ref (h.objs.size+1)))) ⟨(h.push { cls:=.type "tuple",data:=.seq rest.toArray }).push
   { cls:=.ref C,data:=.fields #[.ref h.objs.size,.none,.none,.none,.bool false,.none] },g,d,t,os⟩) (hrest:rest.length≤sizeLine) :
  codeAny (model prog w) A (.builtin "Exception.__new__" ⟨.ref C::rest,[]⟩) R ⟨h,g,d,t,os⟩:=by
 have F:=PySem.F.excBase_Exception
 have hends:=F.ends
 have hcB:(Value.ref C :: .ref L::excBm).contains (.type "Exception")=true:=by rw[List.contains_cons,ex_has F.hasB,Bool.or_true]
 have hcA:(Value.ref C :: .ref L::excBm).contains (.type "AttributeError")=false:=by rw[List.contains_cons,ex_has F.noAttr];rfl
 have hcN:(Value.ref C :: .ref L::excBm).contains (.type "NameError")=false:=by rw[List.contains_cons,ex_has F.noName];rfl
 refine codeAny_builtinAt F.entry ?_
 unfold Builtin.«BaseException.__new__»
 refine PySem.wpAt_bind ?_
 show PySem.wpAt _ _ _ (stack >>= _) _ _ _
 refine PySem.wpAt_bind (PySem.wpAt_stack λp below=>PySem.wpAt_of_wpAny ?_)
 wp_walk
 refine PySem.wpAt_of_wpAny ?_
 rw[F.owner]
 repeat (first|with_reducible refine wpAny_madeHere_exc F.canon hC ?_|with_reducible refine wpAny_loadPart_at hC ?_|(with_reducible refine wpAny_isSubtype_exc hC ?_;first|rw[hcB]|rw[hcA]|rw[hcN])|wp_step)
 show R _ _
 rw[Heap.size_push]
 exact hq
theorem ex_checkInit{E:Value→Shared→Prop}{M:Model}{e:Addr}{oe:Obj}{rest:List Value}{Q:Unit→Shared→Prop}
  (hC:h.get? C=some (excClassObj nm q C N bs (.ref L::excBm) hdct sn sub ab col dd k0 k1 k2 k3 k5 "Exception.__new__")) (he:h.get? e=some oe) (hcls:oe.cls=.ref C) (hq:Q () ⟨h,g,d,t,os⟩) :
  wpAny M A (checkBuiltinCall "Exception.__init__" ⟨.ref e::rest,[]⟩) Q E ⟨h,g,d,t,os⟩:=by
 have F:=PySem.F.excBase_Exception
 have hcB:(Value.ref C :: .ref L::excBm).contains (.type "Exception")=true:=by rw[List.contains_cons,ex_has F.hasB,Bool.or_true]
 have hshort:=F.noStar
 simp only[checkBuiltinCall,F.initKind,F.initSplit,F.initRow]
 repeat (first|(with_reducible refine wpAny_loadPart_at he ?_;rw[hcls])|with_reducible refine wpAny_loadPart_at hC ?_|(with_reducible refine wpAny_isSubtype_exc hC ?_;rw[hcB])|wp_step)
 refine wpAny_onRaise ?_
 rw[show ∀(a b:String) (n:Nat),Bind.check ⟨.positional,"*","Exception",.self,[⟨"args",.varPos,false⟩]⟩ a b n (List.map (λx=>x.fst) ({ pos:=Value.ref e::rest }:Args).kw)=pure ()from
  λa b n=>check_star_args _ _ _ _ _ _]
 exact wpAny_pure hq
theorem ex_typeLookup{E:Value→Shared→Prop}{M:Model}{mN mA:Str→Option Value}{c0:Value}{dA:Option Addr}{cd:ClassData}{sl:Array (Option Value)}{v:Value}{Q:Option Value→Shared→Prop}
  (hC:h.get? C=some (excClassObj nm q C N bs (.ref L::excBm) hdct sn sub ab col dd k0 k1 k2 k3 k5 "Exception.__new__")) (hn:h.Ns N mN) (hni:mN "__init__"=none)
  (hL:h.get? L=some { cls:=c0,dict:=dA,data:=.cls cd,slots:=sl }) (hnL:h.Ns cd.ns mA) (hi:mA "__init__"=some v)
  (hq:Q (some v) ⟨h,g,d,t,os⟩):wpAny M A (typeLookup (.ref C) "__init__") Q E ⟨h,g,d,t,os⟩:=by
 rw[typeLookup_eq]
 refine wpAny_bind (wpAny_mroOf_exc hC ?_)
 rw[lookupAlong_cons]
 refine wpAny_bind (wpAny_classOwn_exc hC hn ?_)
 rw[hni]
 show wpAny _ _ (lookupAlong (.ref L::excBm) "__init__") _ _ _
 rw[lookupAlong_cons]
 refine wpAny_bind (wpAny_classOwn_cls hL hnL ?_)
 rw[hi]
 exact wpAny_pure hq
theorem ex_type_call{E:Value→Shared→Prop}{mN mA:Str→Option Value}{c0:Value}{dA:Option Addr}{cd:ClassData}{sl:Array (Option Value)}{rest:List Value}{oI:Obj}{Q:Fin→Shared→Prop}
  (hC:h.get? C=some (excClassObj nm q C N bs (.ref L::excBm) hdct sn sub ab col dd k0 k1 k2 k3 k5 "Exception.__new__")) (hn:h.Ns N mN) (hni:mN "__init__"=none)
  (hL:h.get? L=some { cls:=c0,dict:=dA,data:=.cls cd,slots:=sl }) (hnL:h.Ns cd.ns mA) (hi:mA "__init__"=some (.ref fI))
  (hfI:h.get? fI=some oI) (hfc:oI.cls=.type "function")
  (hq:∀h' e,h.objs.size≤e→Heap.MadeExcOf h h' e (.ref C) rest →
   wpAny (model prog w) A (call (.ref fI) (.ref e::rest)) (λr s'=>r=.none∧Q (.done (.ret (.ref e))) s') E ⟨h',g,d,t,os⟩) (hrest:rest.length≤sizeLine) :
  wpAny (model prog w) A (Builtin.«type.__call__» ⟨.ref C::rest,[]⟩) Q E ⟨h,g,d,t,os⟩:=by
 have F:=PySem.F.excBase_Exception
 repeat (first|with_reducible refine wpAny_loadPart_at hC ?_|with_reducible refine wpAny_madeBy_exc hC ?_|wp_step)
 refine codeAny_call_builtin_code (Code.quiet_builtin _ F.quiet) (ex_checkNew hC ?_)
 refine ex_new hC ?_ hrest
 show wpAny _ _ _ _ _ _
 have kk:∀b o,h.get? b=some o→((h.push { cls:=.type "tuple",data:=.seq rest.toArray }).push { cls:=.ref C,data:=.fields #[.ref h.objs.size,.none,.none,.none,.bool false,.none] }).get? b=some o:=λb o e=>Heap.get?_push_of_some _ (Heap.get?_push_of_some _ e)
 have hC₁:=kk _ _ hC
 have hfI₁:=kk _ _ hfI
 have hget:((h.push { cls:=.type "tuple",data:=.seq rest.toArray }).push
   { cls:=.ref C,data:=.fields #[.ref h.objs.size,.none,.none,.none,.bool false,.none] }).get? (h.objs.size+1)=some
   { cls:=.ref C,data:=.fields #[.ref h.objs.size,.none,.none,.none,.bool false,.none] }:=by heap_get
 have hcC:(Value.ref C :: .ref L::excBm).contains (.ref C)=true:=by simp
 unfold isInstance
 repeat (first|with_reducible refine wpAny_loadPart_at hget ?_|(with_reducible refine wpAny_isSubtype_exc hC₁ ?_;rw[hcC])|wp_step)
 show wpAny _ _ (typeLookup (.ref C) _) _ _ _
 refine ex_typeLookup hC₁ (hn.keeps kk) hni (kk _ _ hL) (hnL.keeps kk) hi ?_
 refine wpAny_holding (wpAny_bind ?_)
 unfold bindSpecial
 refine wpAny_bind (wpAny_typeOf (T:="function") ⟨_,hfI₁,hfc⟩ ?_)
 rw[if_pos (by decide)]
 refine wpAny_pure (wpAny_bind (wpAny_mono (hq _ (h.objs.size+1) (Nat.le_succ _) ⟨kk,Heap.get?_none_of_le (Nat.le_succ _),h.objs.size,hget,Heap.get?_none_of_le (vD _),?_⟩) (λr s' hr=>?_) λzz zz x=>x))
 ·exact Heap.get?_push_of_some _ (Heap.get?_push_at rfl rfl)
 ·refine x0_2 hr λhe0=>?_;subst he0;intro hQ;clear hr
  wp_walk
  exact hQ
theorem ex_call{E:Value→Shared→Prop}{mN mA:Str→Option Value}{c0:Value}{dA:Option Addr}{cd:ClassData}{sl:Array (Option Value)}{rest:List Value}{oI:Obj}{Q:Value→Shared→Prop}
  (hC:h.get? C=some (excClassObj nm q C N bs (.ref L::excBm) hdct sn sub ab col dd k0 k1 k2 k3 k5 "Exception.__new__")) (hn:h.Ns N mN) (hni:mN "__init__"=none)
  (hL:h.get? L=some { cls:=c0,dict:=dA,data:=.cls cd,slots:=sl }) (hnL:h.Ns cd.ns mA) (hi:mA "__init__"=some (.ref fI))
  (hfI:h.get? fI=some oI) (hfc:oI.cls=.type "function")
  (hq:∀h' e,h.objs.size≤e→Heap.MadeExcOf h h' e (.ref C) rest →
   wpAny (model prog w) (A.under (.builtin "type.__call__" ⟨.ref C::rest,[]⟩)) (call (.ref fI) (.ref e::rest)) (λr s'=>r=.none∧Q (.ref e) s') E ⟨h',g,d,t,os⟩) (hrest:rest.length≤sizeLine) :
  wpAny (model prog w) A (call (.ref C) rest) Q E ⟨h,g,d,t,os⟩:=by
 have f1:=tc_lookup
 have f2:=tc_bind (.ref C)
 have hT:(⟨h,g,d,t,os⟩:Shared).TypeIs (.ref C) "type":=⟨_,hC,rfl⟩
 refine wpAny_call (codeAny_of_tree ?_)
 show wpAny _ _ (callAny (.ref C) _) _ _ _
 repeat (any_goals (first|assumption|with_reducible refine wpAny_loadPart_at hC ?_|wp_step))
 refine⟨rfl,?_⟩
 refine codeAny_call_builtin_at (Code.quiet_builtin _ (by decide +kernel)) entry_typeCall (wpAny_check_type_call_sub hC (ex_type_call (hrest:=hrest) hC hn hni hL hnL hi hfI hfc λh' e hle hm=>?_))
 exact hq h' e hle hm
end
end
section
theorem tl_meta_ga:typeLookup (.type "type") "__getattribute__"=pure (some (.builtin "type.__getattribute__")):=by rw[typeLookup_type,builtinLookup_eq_fast];kernel_rfl
theorem tl_meta_init:typeLookup (.type "type") "__init__"=pure (some (.builtin "type.__init__")):=by rw[typeLookup_type,builtinLookup_eq_fast];kernel_rfl
theorem tl_exc_init:typeLookup (.type "Exception") "__init__"=pure (some (.builtin "Exception.__init__")):=by rw[typeLookup_type,builtinLookup_eq_fast];kernel_rfl
theorem ty_exc:typeOf (.type "Exception")=pure (.type "type"):=by kernel_rfl
theorem sp_set:specialOf (.builtin "type.__init__") "__set__"=pure none:=by kernel_rfl
theorem sp_del:specialOf (.builtin "type.__init__") "__delete__"=pure none:=by kernel_rfl
theorem sp_get:specialOf (.builtin "type.__init__") "__get__"=pure (some (.builtin "wrapper_descriptor.__get__")):=by kernel_rfl
theorem entry_tga:entryFor table "type.__getattribute__"=some Builtin.«type.__getattribute__» := entryFor_of_tree (by kernel_rfl)
section
variable{prog:Program}{w:World}{A:Around}{E:Value→Shared→Prop}{s:Shared}
theorem exc_init_entry{tk:Tok}{Q:Fin→Shared→Prop}(hq:∀s',s'.heap=s.heap→s'.gens=s.gens→s'.os=s.os→Q (.done (.ret (.builtin "Exception.__init__"))) s') :
  wpAny (model prog w) A (Builtin.«type.__getattribute__» ⟨[.type "Exception",.str "__init__" tk],[]⟩) Q E s:=by
 unfold Builtin.«type.__getattribute__»
 have f0:opaqueClassAbove (.type "Exception")=pure none:=by kernel_rfl
 have fa:asStr? (.str "__init__" tk)=pure (some ("__init__":Str)):=by rfl
 refine wpAny_bind (wpAny_of_eq fa ?_)
 show wpAny _ _ (opaqueClassAbove (.type "Exception") >>= _) _ _ _
 refine wpAny_bind (wpAny_of_eq f0 ?_)
 show wpAny _ _ (typeOf (.type "Exception") >>= _) _ _ _
 refine wpAny_bind (wpAny_of_eq ty_exc ?_)
 refine wpAny_bind (wpAny_of_eq tl_meta_init ?_)
 show wpAny _ _ (specialOf (.builtin "type.__init__") "__get__" >>= _) _ _ _
 refine wpAny_bind (wpAny_of_eq sp_get ?_)
 show wpAny _ _ (specialOf (.builtin "type.__init__") "__set__" >>= _) _ _ _
 refine wpAny_bind (wpAny_of_eq sp_set ?_)
 show wpAny _ _ (specialOf (.builtin "type.__init__") "__delete__" >>= _) _ _ _
 refine wpAny_bind (wpAny_of_eq sp_del ?_)
 refine wpAny_bind (wpAny_pure ?_)
 show wpAny _ _ (typeLookup (.type "Exception") "__init__" >>= _) _ _ _
 refine wpAny_bind (wpAny_of_eq tl_exc_init ?_)
 show wpAny _ _ (if Builtin.heldUnderItsOwnName "__init__" (.builtin "Exception.__init__")=true then _ else _) _ _ _
 rw[if_neg (by decide +kernel)]
 have f7:typeOf (.builtin "Exception.__init__")=pure (.type "wrapper_descriptor"):=by kernel_rfl
 refine wpAny_bind (wpAny_of_eq f7 ?_)
 rw[if_pos (by decide +kernel)]
 exact wpAny_pure (hq _ rfl rfl rfl)
theorem wpAny_mkText{x:Str}{Q:Value→Shared→Prop}(h:∀tk s',s'.heap=s.heap→s'.gens=s.gens→s'.os=s.os→Q (.str x tk) s'):wpAny (model prog w) A (mkText x) Q E s:=by
 wp_walk
 exact h _ _ rfl rfl rfl
theorem exc_init_attr{ex:Bool}{Q:Value→Shared→Prop}(hq:∀s',s'.heap=s.heap→s'.gens=s.gens→s'.os=s.os→Q (.builtin "Exception.__init__") s') :
  wpAny (model prog w) A (getAttr (.type "Exception") "__init__" ex) Q E s:=by
 unfold getAttr
 refine wpAny_bind (wpAny_mkText λtk s' e1 e2 e3=>?_)
 unfold getAttrBy
 refine wpAny_holding (wpAny_bind (wpAny_of_eq ty_exc (wpAny_bind (wpAny_of_eq tl_meta_ga ?_))))
 show wpAny _ _ (getAttrByItsOwn (.type "Exception") (.str "__init__" tk) (.type "type") (.builtin "type.__getattribute__") true ex) _ _ _
 unfold getAttrByItsOwn
 refine wpAny_bind (wpAny_of_eq (a:=none) rfl ?_)
 refine wpAny_bind (wpAny_attempt (wpAny_holding ?_))
 have e0:callGetattribute (.type "Exception") (.str "__init__" tk) (.builtin "type.__getattribute__") ex=boundAndCalled (.builtin "type.__getattribute__") (.type "Exception") (.str "__init__" tk):=by
  unfold callGetattribute;cases ex <;> rfl
 rw[e0]
 unfold boundAndCalled
 have e1':bindSpecial (.builtin "type.__getattribute__") (.type "Exception")=pure (.builtin "type.__getattribute__",[.type "Exception"]):=by kernel_rfl
 refine wpAny_bind (wpAny_of_eq e1' ?_)
 have e2':checkBuiltinCall "type.__getattribute__" ⟨[.type "Exception",.str "__init__" tk],[]⟩=pure ():=by kernel_rfl
 refine wpAny_call (codeAny_call_builtin (by decide +kernel) entry_tga (wpAny_of_eq e2' (exc_init_entry λs'' q1 q2 q3=>?_)))
 have e3':handedOut (.builtin "Exception.__init__")=pure (.builtin "Exception.__init__"):=by kernel_rfl
 show wpAny _ _ (handedOut (.builtin "Exception.__init__")) _ _ _
 exact wpAny_of_eq e3' (hq _ (q1.trans e1) (q2.trans e2) (q3.trans e3))
theorem exc_init_method{pl:Sem Bool}{Q:Value×List Value→Shared→Prop}(hq:∀s',s'.heap=s.heap→s'.gens=s.gens→s'.os=s.os→Q (.builtin "Exception.__init__",[]) s') :
  wpAny (model prog w) A (getMethod (.type "Exception") "__init__" pl) Q E s:=by
 have e0:specialOf (.type "Exception") "__getattribute__"=pure (some (.builtin "type.__getattribute__")):=by kernel_rfl
 unfold getMethod
 refine wpAny_bind (wpAny_of_eq e0 ?_)
 show wpAny _ _ (if(Manifest.canonical "type.__getattribute__" != "object.__getattribute__")=true then _ else _) _ _ _
 rw[if_pos (by decide +kernel)]
 exact wpAny_bind (exc_init_attr λs' a1 a2 a3=>wpAny_pure (hq s' a1 a2 a3))
end
end
section
open Builtin Builtin.ObjectAttr
section
variable{prog:Program}{w:World}{A:Around}{E:Value→Shared→Prop}{h:Heap}{g:Array GenState}{d:Drawn}{t:Nat}{os:OsState}
variable{nm q:Str}{C N L x:Addr}{bs:List Value}{sn:List Str}{sub:List Value}{ab:Bool}{col:Option Bool}{dd:Option Addr}{k0 k1 k2 k3 k5:Option Value}
 {mN mL mA:Str→Option Value} {name:Str} {v:Value} {c0:Value} {dA:Option Addr} {cd:ClassData} {sl:Array (Option Value)}
theorem ex_tl{M:Model}{hdct:Bool}{y:Option Value}{Q:Option Value→Shared→Prop}
  (hC:h.get? C=some (excClassObj nm q C N bs (.ref L::excBm) hdct sn sub ab col dd k0 k1 k2 k3 k5 "Exception.__new__")) (hn:h.Ns N mN) (hni:mN name=none)
  (hL:h.get? L=some { cls:=c0,dict:=dA,data:=.cls cd,slots:=sl }) (hnL:h.Ns cd.ns mL) (hi:mL name=none) (hB:typeLookup (.type "Exception") name=pure y)
  (hq:Q y ⟨h,g,d,t,os⟩):wpAny M A (typeLookup (.ref C) name) Q E ⟨h,g,d,t,os⟩:=by
 have hrest:lookupAlong excBm name=pure y:=by rw[typeLookup_eq,PySem.F.excBase_Exception.mroIs]at hB;exact hB
 rw[typeLookup_eq]
 refine wpAny_bind (wpAny_mroOf_exc hC ?_)
 rw[lookupAlong_cons]
 refine wpAny_bind (wpAny_classOwn_exc hC hn ?_)
 rw[hni]
 show wpAny _ _ (lookupAlong (.ref L::excBm) name) _ _ _
 rw[lookupAlong_cons]
 refine wpAny_bind (wpAny_classOwn_cls hL hnL ?_)
 rw[hi]
 show wpAny _ _ (lookupAlong excBm name) _ _ _
 rw[hrest]
 exact wpAny_pure hq
theorem ex_check_sa{M:Model}{o:Obj}{nameV:Value}{Q:Unit→Shared→Prop}
  (hC:h.get? C=some (excClassObj nm q C N bs (.ref L::excBm) true sn sub ab col dd k0 k1 k2 k3 k5 "Exception.__new__")) (hx:h.get? x=some o) (hc:o.cls=.ref C) (hq:Q () ⟨h,g,d,t,os⟩) :
  wpAny M A (checkBuiltinCall "object.__setattr__" ⟨[.ref x,nameV,v],[]⟩) Q E ⟨h,g,d,t,os⟩:=by
 have SF:=PySem.F.store_Exception
 have hcB:(Value.ref C :: .ref L::excBm).contains (.type "object")=true:=by rw[List.contains_cons,ex_has SF.hasOwner,Bool.or_true]
 have ha:=SF.args (.ref x) nameV v
 simp only[checkBuiltinCall,SF.kind,SF.split]
 refine wpAny_bind ?_
 ·unfold isInstance
  repeat (first|(with_reducible refine wpAny_loadPart_at hx ?_;rw[hc])|(with_reducible refine wpAny_isSubtype_exc hC ?_;rw[hcB])|wp_step)
  exact hq
theorem ex_store_entry{tk:Tok}{Q:Fin→Shared→Prop}{ns:List Str}
  (hC:h.get? C=some (excClassObj nm q C N bs (.ref L::excBm) true sn sub ab col dd k0 k1 k2 k3 k5 "Exception.__new__")) (hn:h.Ns N mN) (hni:mN name=none)
  (hL:h.get? L=some { cls:=c0,dict:=dA,data:=.cls cd,slots:=sl }) (hnL:h.Ns cd.ns mL) (hi:mL name=none)
  (hB:typeLookup (.type "Exception") name=pure none) (hxC:x≠C) (I:h.Inst x C mA)
  (hq:∀h' tk',h'.Inst x C (λy=>if y=name then some v else mA y) →
   (∀b o,b≠x→(∀o₀ dx,h.get? x=some o₀→o₀.dict=some dx→b≠dx)→h.get? b=some o→h'.get? b=some o) →
   (∀o₀,h.get? x=some o₀→∃o₁,h'.get? x=some o₁∧o₁.cls=o₀.cls∧o₁.data=o₀.data∧o₁.slots=o₀.slots∧(∀dx,o₀.dict=some dx→o₁.dict=some dx)∧∀dx,o₁.dict=some dx→o₀.dict=some dx∨h.objs.size≤dx)→Q (.done (.ret .none)) ⟨h',g,d,tk',os⟩) (hw:Within mA ns) (hsz:ns.length≤sizeLine) :
  wpAny (model prog w) A (Builtin.«object.__setattr__» ⟨[.ref x,.str name tk,v],[]⟩) Q E ⟨h,g,d,t,os⟩:=by
 refine x1_4 I λo hx hc hnc hd=>?_;clear I
 have SF:=PySem.F.store_Exception
 have hpass:=SF.passes (.ref x)
 unfold Builtin.«object.__setattr__»
 repeat (first|rw[refuse_eq]|(rw[refuseLoop_ref,refuseLoop_ref,hpass])|(with_reducible refine wpAny_loadPart_at hx ?_;rw[hc])|with_reducible refine wpAny_mroOf_exc hC ?_|with_reducible refine ex_tl hC hn hni hL hnL hi hB ?_|wp_step)
 rcases hd with⟨hdn,hmA⟩|⟨dx,hdx,hne,hns⟩
 ·
  rw[hdn,if_neg (by simp[typeHasDict])]
  split
  ·rename_i hcd
   exact absN hcd
  split
  ·rename_i c hcd
   exact absurd hcd (hnc c)
  ·have hx₁:(h.push { cls:=.type "dict",data:=.dict #[] }).get? x=some o:=Heap.get?_push_of_some _ hx
   have hxs:x≠h.objs.size:=Nat.ne_of_lt (Heap.lt_size hx)
   refine wpAny_bind (wpAny_alloc' ?_)
   refine wpAny_bind (wpAny_update' hx₁ ?_)
   refine wpAny_pure ?_
   have hgd:((h.push { cls:=.type "dict",data:=.dict #[] }).update x λo=>{ cls:=o.cls,dict:=some h.objs.size,data:=o.data,slots:=o.slots }).get? h.objs.size
     = some { cls:=.type "dict",data:=.dict #[] }:=
    (Heap.get?_update_ne _ _ _ _ hxs.symm).trans (Heap.get?_push_at rfl rfl)
   have hnd:((h.push { cls:=.type "dict",data:=.dict #[] }).update x λo=>{ cls:=o.cls,dict:=some h.objs.size,data:=o.data,slots:=o.slots }).Ns h.objs.size (λzz=>none):=
    ⟨_,#[],_,hgd,rfl,λe he=>absurd he (by simp),λzz=>rfl⟩
   show wpAny _ _ (storeInDict h.objs.size (.str name tk) name v) _ _ _
   unfold storeInDict newKeyGuard
   refine wpAny_bind (wpAny_pure (wpAny_bind (wpAny_nsSet1 (Heap.Ns1.of_empty hnd) λh' hn' hs=>?_)))
   refine x3_3 (hn'.count (Within.cons name v Within.nil)) λoD esD epD hoD hdD hcD=>?_
   refine wpAny_bind (wpAny_lookBehind hoD (by rw[hdD];exact pastItsLine_dict (vE hcD (by rw[List.length_cons,List.length_nil,sizeLine_eq];lia))) ?_)
   wp_walk
   have hx':h'.get? x=some { cls:=o.cls,dict:=some h.objs.size,data:=o.data,slots:=o.slots }:=?_
   refine hq h' _ ⟨{ cls:=o.cls,dict:=some h.objs.size,data:=o.data,slots:=o.slots },hx',hc,hnc,.inr ⟨h.objs.size,rfl,hxs.symm,?_⟩⟩ (λb ob hbx zz hb=>?_)
    (λo₀ h₀=>by obtain rfl:o=o₀:=vC (hx.symm.trans h₀);exact⟨_,hx',rfl,rfl,rfl,(λdx e=>by rw[hdn]at e;exact absN e),λdx e=>.inr (by refine someI e ?_;clear e;intro hx;subst hx;exact vD _)⟩)
   ·refine x3_5 hn' λo' es ep e1 e2 e3 eu e4=>?_
    exact⟨o',es,ep,e1,e2,e3,eu,λy=>by rw[e4 y];by_cases hy:y=name <;> simp[hy,hmA]⟩
   ·exact(hs.2 b (Nat.ne_of_lt (Heap.lt_size hb))).trans ((Heap.get?_update_ne _ _ _ _ hbx).trans (Heap.get?_push_of_some _ hb))
   ·refine(hs.2 x hxs).trans (Heap.get?_update_self _ hx₁ ?_)
    have hfr:=(Heap.get?_some_iff.mp hx).2
    obtain⟨oc,od,odt,osl⟩:=o
    cases odt <;> first|rfl|exact hfr
 ·
  rw[hdx]
  refine wpAny_pure ?_
  show wpAny _ _ (storeInDict dx (.str name tk) name v) _ _ _
  unfold storeInDict newKeyGuard
  refine wpAny_bind (wpAny_pure (wpAny_bind (wpAny_nsSet1 hns λh' hn' hs=>?_)))
  refine x3_3 (hn'.count (Within.cons name v hw)) λoD esD epD hoD hdD hcD=>?_
  refine wpAny_bind (wpAny_lookBehind hoD (by rw[hdD];exact pastItsLine_dict (vE hcD (by rw[List.length_cons];lia))) ?_)
  wp_walk
  refine hq h' _ ⟨o,(hs.2 x hne.symm).trans hx,hc,hnc,.inr ⟨dx,hdx,hne,hn'⟩⟩ (λb ob zz hbd hb=>?_)
   (λo₀ h₀=>⟨o₀,(hs.2 x hne.symm).trans h₀,rfl,rfl,rfl,λzz e=>e,λzz e=>.inl e⟩)
  exact(hs.2 b (hbd o dx hx hdx)).trans hb
theorem ex_store_attr{Q:Unit→Shared→Prop}{ns:List Str}
  (hC:h.get? C=some (excClassObj nm q C N bs (.ref L::excBm) true sn sub ab col dd k0 k1 k2 k3 k5 "Exception.__new__")) (hn:h.Ns N mN) (hni:mN name=none) (hns:mN "__setattr__"=none)
  (hL:h.get? L=some { cls:=c0,dict:=dA,data:=.cls cd,slots:=sl }) (hnL:h.Ns cd.ns mL) (hi:mL name=none) (his:mL "__setattr__"=none)
  (hB:typeLookup (.type "Exception") name=pure none) (hxC:x≠C) (I:h.Inst x C mA)
  (hq:∀h' tk',h'.Inst x C (λy=>if y=name then some v else mA y) →
   (∀b o,b≠x→(∀o₀ dx,h.get? x=some o₀→o₀.dict=some dx→b≠dx)→h.get? b=some o→h'.get? b=some o) →
   (∀o₀,h.get? x=some o₀→∃o₁,h'.get? x=some o₁∧o₁.cls=o₀.cls∧o₁.data=o₀.data∧o₁.slots=o₀.slots∧(∀dx,o₀.dict=some dx→o₁.dict=some dx)∧∀dx,o₁.dict=some dx→o₀.dict=some dx∨h.objs.size≤dx)→Q () ⟨h',g,d,tk',os⟩) (hw:Within mA ns) (hsz:ns.length≤sizeLine) :
  wpAny (model prog w) A (setAttr (.ref x) name v) Q E ⟨h,g,d,t,os⟩:=by
 refine x1_3 (id I) λo hx hc zz=>?_
 have SF:=PySem.F.store_Exception
 have f3:=SF.slot.bind (.ref x)
 unfold setAttr callSpecial? specialOf
 repeat (any_goals (first|assumption|(with_reducible refine wpAny_loadPart_at hx ?_;rw[hc])|with_reducible refine ex_tl hC hn hns hL hnL his SF.slot.lookup ?_|wp_step))
 refine codeAny_call_builtin SF.slot.plain SF.entry (ex_check_sa hC hx hc (ex_store_entry hC hn hni hL hnL hi hB hxC I (λh' tk' I' hk hsame=>?_) hw hsz))
 repeat (any_goals (first|assumption|wp_step))
 exact hq h' tk' I' hk hsame
end
end
section
theorem ls3{α:Type}{a b c x y z:α}(h:[a,b,c]=[x,y,z]):a=x∧b=y∧c=z:=by
 injection h with h1 h;injection h with h2 h;injection h with h3 h;exact⟨h1,h2,h3⟩
section
variable{M:Model}{A:Around}{E:Value→Shared→Prop}{s:Shared}
theorem bind_two{fd:FuncData}{u v dv:Value}{Q:List (Str×Value)→Shared→Prop}{t:Addr}{o:Obj}{n:Nat}(hp:plainPar fd.params=true)(ha:fd.params.args.map (·.arg)=([("self":Str),("what":Str),("at":Str)]:List Str))
  (hd:fd.defaults=.ref t) (ho:s.heap.get? t=some o) (hod:o.data=.seq #[dv] n) (h:Q [(("self":Str),u),(("what":Str),v),(("at":Str),dv)] s):wpAny M A (bindArgs fd ⟨[u,v],[]⟩) Q E s:=by
 rw[fdN_eq hp]
 generalize fd.params.args=as at ha
 have hl:=congrArg List.length ha
 rw[List.length_map]at hl
 cases as with
 |nil=>exact nomatch (show 0=3 from hl)
 |cons a as=>cases as with
  |nil=>exact nomatch (show 1=3 from hl)
  |cons b as=>cases as with
   |nil=>exact nomatch (show 2=3 from hl)
   |cons c as=>cases as with
    |cons d as=>exact nomatch (show as.length+4=3 from hl)
    |nil=>
     obtain⟨x,a1,a2⟩:=a;obtain⟨y,b1,b2⟩:=b;obtain⟨z,c1,c2⟩:=c
     refine x0_3 (ls3 ha) λe1 e2 e3=>?_
     dsimp only at e1 e2 e3
     subst e1;subst e2;subst e3
     exact BindsTo.of_defaults (fd:=fdN fd _) hd ho hod rfl rfl M A E Q h
end
end
section
structure ExI(h0:Heap)(e C:Addr)(h:Heap)(mA:Str→Option Value):Prop where
 I:h.Inst e C mA
 size:h0.objs.size≤h.objs.size
 keep:∀b o,b≠e→h0.get? b=some o→h.get? b=some o
 obj:∃o tp,h.get? e=some o∧o.cls=.ref C∧o.data=.fields #[.ref tp,.none,.none,.none,.bool false,.none]∧∀dx,o.dict=some dx→h0.objs.size≤dx
section
variable{prog:Program}{w:World}{A:Around}{E:Value→Shared→Prop}{h0 h:Heap}{g:Array GenState}{d:Drawn}{t:Nat}{os:OsState}
variable{nm q:Str}{C N L e:Addr}{bs:List Value}{sn:List Str}{sub:List Value}{ab:Bool}{col:Option Bool}{dd:Option Addr}{k0 k1 k2 k3 k5:Option Value}
 {mN mL mA:Str→Option Value} {name:Str} {v:Value} {c0:Value} {dA:Option Addr} {cd:ClassData} {sl:Array (Option Value)}
theorem exI_set{Q:Unit→Shared→Prop}{ns:List Str}
  (hC:h0.get? C=some (excClassObj nm q C N bs (.ref L::excBm) true sn sub ab col dd k0 k1 k2 k3 k5 "Exception.__new__")) (hn:h0.Ns N mN) (hni:mN name=none) (hns:mN "__setattr__"=none)
  (hL:h0.get? L=some { cls:=c0,dict:=dA,data:=.cls cd,slots:=sl }) (hnL:h0.Ns cd.ns mL) (hi:mL name=none) (his:mL "__setattr__"=none)
  (hB:typeLookup (.type "Exception") name=pure none) (he0:h0.get? e=some o0) (hf0:∃vs,o0.data=.fields vs) (I:ExI h0 e C h mA)
  (hq:∀h' tk',ExI h0 e C h' (λy=>if y=name then some v else mA y)→Q () ⟨h',g,d,tk',os⟩) (hw:Within mA ns) (hsz:ns.length≤sizeLine) :
  wpAny (model prog w) A (setAttr (.ref e) name v) Q E ⟨h,g,d,t,os⟩:=by
 refine x1_1 hf0 λvs0 hf0=>?_
 have ne:∀b o,h0.get? b=some o→(∀vs,o.data≠.fields vs)→b≠e:=λb o hb hd hbe=>by
  subst hbe;rw[he0]at hb;refine someI hb ?_;clear hb;intro hx;subst hx;exact hd _ hf0
 have hC1:=I.keep _ _ (ne _ _ hC λvs q=>by cases q) hC
 have hL1:=I.keep _ _ (ne _ _ hL λvs q=>by cases q) hL
 have kNs:∀{a m},h0.Ns a m→h.Ns a m:=λ{a m} ⟨o,es,ep,a1,a2,a3⟩=>⟨o,es,ep,I.keep _ _ (ne _ _ a1 λvs q=>by rw[a2]at q;cases q) a1,a2,a3⟩
 have heC:e≠C:=λq=>(ne _ _ hC λvs q=>by cases q) q.symm
 refine wpAny_mono (wpAny_sized (Q:=λu s'=>h.objs.size≤s'.heap.objs.size→Q u s') (E:=E) (ex_store_attr hC1 (kNs hn) hni hns hL1 (kNs hnL) hi his hB heC I.I (λh' tk' I' hk hs hz=>hq h' tk' ⟨I',vE I.size hz,λb ob hb ho=>?_,?_⟩) hw hsz)) (λzz zz z=>z.1 z.2) λzz zz z=>z.1
 ·refine x2_4 I.obj λo vs x1 x2 x3 x6=>?_
  refine hk b ob hb (λo₀ dx hx hdx hbd=>?_) (I.keep b ob hb ho)
  rw[x1]at hx;refine someI hx ?_;clear hx;intro hx;subst hx
  have:=x6 dx hdx
  exact absurd (Heap.lt_size ho) (vL (hbd▸this))
 ·refine x2_4 I.obj λo vs x1 x2 x3 x6=>?_
  refine x1_6 (hs o x1) λo₁ y1 y2 y3 zz zz y4=>?_
  refine⟨o₁,vs,y1,y2.trans x2,y3.trans x3,λdx hdx=>?_⟩
  rcases y4 dx hdx with z|z
  ·exact x6 dx z
  ·exact vE I.size z
end
end
section
section
variable{prog:Program}{w:World}{A:Around}{E:Value→Shared→Prop}{h:Heap}{g:Array GenState}{d:Drawn}{t:Nat}{os:OsState}
variable{nm q:Str}{C N L e tup:Addr}{bs:List Value}{sn:List Str}{sub:List Value}{ab:Bool}{col:Option Bool}{dd:Option Addr}{k0 k1 k2 k3 k5:Option Value}{hdct:Bool}{u:Value}
theorem ex_initcall{Q:Value→Shared→Prop}
  (hC:h.get? C=some (excClassObj nm q C N bs (.ref L::excBm) hdct sn sub ab col dd k0 k1 k2 k3 k5 "Exception.__new__"))
  (he:h.get? e=some { cls:=.ref C,data:=.fields #[.ref tup,.none,.none,.none,.bool false,.none] })
  (hq:∀h',ExI h e C h' (λzz=>none)→Q .none ⟨h',g,d,t,os⟩) :
  wpAny (model prog w) A (call (.builtin "Exception.__init__") [.ref e,u]) Q E ⟨h,g,d,t,os⟩:=by
 have F:=PySem.F.excBase_Exception
 refine wpAny_call (codeAny_call_builtin F.init.plain F.initEntry (ex_checkInit hC he rfl ?_))
 wp_walk
 refine hq _ ?_
 have hlt:=Heap.lt_size he
 have hne:e≠h.objs.size:=Nat.ne_of_lt hlt
 refine⟨⟨_,Heap.get?_update_self _ (Heap.get?_push_of_some _ he) rfl,rfl,(λc q=>by cases q),.inl ⟨rfl,λzz=>rfl⟩⟩,?_,λb o hb ho=>?_,⟨_,_,Heap.get?_update_self _ (Heap.get?_push_of_some _ he) rfl,rfl,rfl,λdx q=>by exact absN q⟩⟩
 ·rw[Heap.size_update,Heap.size_push];exact Nat.le_succ _
 ·refine rwG (Heap.get?_update_other _ _ (Ne.symm hb)) ?_
  exact Heap.get?_push_of_some _ ho
end
end
section
noncomputable def initBody(p1 p2 p3 p4 p5 p6 q1 q2 q3 q4 r1 r2 r3 r4:Pos):List Stmt:=
 [.Expr (.Call (.Attribute (.Name "Exception" p1) "__init__" p2) [.Name "self" p3,.Name "what" p4] [] p5) p6,
  .Assign [.Attribute (.Name "self" q1) "what" q2] (.Name "what" q3) q4,
  .Assign [.Attribute (.Name "self" r1) "at" r2] (.Name "at" r3) r4]
theorem tl_exc_what:typeLookup (.type "Exception") "what"=pure none:=by rw[typeLookup_type,builtinLookup_eq_fast];kernel_rfl
theorem tl_exc_at:typeLookup (.type "Exception") "at"=pure none:=by rw[typeLookup_type,builtinLookup_eq_fast];kernel_rfl
section
variable{prog:Program}{w:World}{A:Around}{E:Value→Shared→Prop}{h:Heap}{g:Array GenState}{d:Drawn}{t:Nat}{os:OsState}{env:Env}
variable{nm q:Str}{C N L e tup:Addr}{bs:List Value}{sn:List Str}{sub:List Value}{ab:Bool}{col:Option Bool}{dd:Option Addr}{k0 k1 k2 k3 k5:Option Value}{u va:Value}
 {mN mL m mg mb:Str→Option Value} {c0:Value} {dA:Option Addr} {cd:ClassData} {sl:Array (Option Value)}
theorem ex_initbody{Q:Flow→Shared→Prop}{p1 p2 p3 p4 p5 p6 q1 q2 q3 q4 r1 r2 r3 r4:Pos}(hline:(p2.endLine==p5.line)=true)
  (hC:h.get? C=some (excClassObj nm q C N bs (.ref L::excBm) true sn sub ab col dd k0 k1 k2 k3 k5 "Exception.__new__")) (hn:h.Ns N mN) (n1:mN "__setattr__"=none) (n2:mN "what"=none) (n3:mN "at"=none)
  (hL:h.get? L=some { cls:=c0,dict:=dA,data:=.cls cd,slots:=sl }) (hnL:h.Ns cd.ns mL) (l1:mL "__setattr__"=none) (l2:mL "what"=none) (l3:mL "at"=none)
  (he:h.get? e=some { cls:=.ref C,data:=.fields #[.ref tup,.none,.none,.none,.bool false,.none] })
  (hk:env.scope.kind=.function) (hs1:env.kindOf "self"=some .local) (hs2:env.kindOf "what"=some .local) (hs3:env.kindOf "at"=some .local) (hs4:env.kindOf "Exception"=some .globalImplicit)
  (hm:h.Ns env.locals m) (m1:m "self"=some (.ref e)) (m2:m "what"=some u) (m3:m "at"=some va)
  (hg:h.Ns env.globals mg) (g1:mg "Exception"=none) (hb:h.Ns env.builtins mb) (b1:mb "Exception"=some (.type "Exception"))
  (hq:∀h' d' tk' mA,ExI h e C h' mA→Q .next ⟨h',g,d',tk',os⟩) :
  wpAny (model prog w) A (PySem.execs (initBody p1 p2 p3 p4 p5 p6 q1 q2 q3 q4 r1 r2 r3 r4) env) Q E ⟨h,g,d,t,os⟩:=by
 have nsE:∀{h':Heap} {mA:Str→Option Value} {a:Addr} {mm:Str→Option Value},ExI h e C h' mA→h.Ns a mm→h'.Ns a mm:=λ{h' mA a mm} I ⟨o,es,ep,a1,a2,a3⟩=>by
  refine⟨o,es,ep,I.keep _ _ (λq=>?_) a1,a2,a3⟩
  subst q;rw[he]at a1;refine someI a1 ?_;clear a1;intro hx;subst hx;cases a2
 have nameL:∀{x:Str} {pos:Pos} {v:Value} {s:Shared} {Q:Value→Shared→Prop} {A:Around} {E:Value→Shared→Prop},(x==("__debug__":Str))=false→env.kindOf x=some .local→s.heap.Ns env.locals m→m x=some v→Q v s→wpAny (model prog w) A (eval (.Name x pos) env) Q E s:=
  λh1 h2 h3 h4 h5=>wpAny_Name (wpAny_loadName_local hk h2 h3 h4 h5) h1
 refine wpAny_execs_cons (wpAny_Expr_any ?_ (by unfold interactive;rw[hk];rfl) rfl)
 rw[arm_eval_Call]
 rw[attributeBase_plain (by rfl)]
 refine wpAny_bind (Name_function_global hk hs4 (loadGlobal_builtin hg g1 hb b1 ?_))
 refine wpAny_bind (wpAny_standAt ?_)
 have hform:methodCallForm ([Expr.Name ("self":Str) p3,Expr.Name ("what":Str) p4].length+([]:List Keyword).length) (backTo p5 (starEach [.Name "self" p3,.Name "what" p4] env)) (backToKw p5 (keywordEach [] env))=true:=rfl
 have hpos:methodCallPos true (.Name "Exception" p1) env p2 p5=pure p5:=by unfold methodCallPos;simp[hline]
 unfold methodCall
 rw[hform]
 refine wpAny_bind (wpAny_holding (exc_init_method λs' a1 a2 a3=>?_))
 obtain⟨h',gn',d',t',os'⟩:=s'
 simp only at a1 a2 a3
 subst a1;subst a2;subst a3
 refine wpAny_bind (wpAny_of_eq hpos ?_)
 refine callWith_builtin rfl (evalArgs_plain (spliced_cons (nameL (by decide) hs1 hm m1 (spliced_cons (nameL (by decide) hs2 hm m2 (spliced_nil ?_))))))
 refine ex_initcall hC he λh₁ I₁=>?_
 show wpAny _ _ _ _ _ _
 refine wpAny_execs_cons (plainObj_wpAny_Assign_Attribute (nameL (by decide) hs2 (nsE I₁ hm) m2 (nameL (by decide) hs1 (nsE I₁ hm) m1 ?_)))
 refine exI_set hC hn n2 n1 hL hnL l2 l1 tl_exc_what he ⟨_,rfl⟩ I₁ (λh₂ tk₂ I₂=>?_) (ns:=[]) Within.nil (Nat.zero_le _)
 show wpAny _ _ _ _ _ _
 refine wpAny_execs_cons (plainObj_wpAny_Assign_Attribute (nameL (by decide) hs3 (nsE I₂ hm) m3 (nameL (by decide) hs1 (nsE I₂ hm) m1 ?_)))
 refine exI_set hC hn n3 n1 hL hnL l3 l1 tl_exc_at he ⟨_,rfl⟩ I₂ (λh₃ tk₃ I₃=>?_) (ns:=["what"]) (Within.cons _ _ Within.nil) (by rw[sizeLine_eq];decide)
 exact wpAny_execs_nil (hq _ _ _ _ I₃)
end
end
section
structure GfD where
 nm:Str
 q:Str
 N:Addr
 L:Addr
 fI:Addr
 td:Addr
 bs:List Value
 sn:List Str
 sub:List Value
 ab:Bool
 col:Option Bool
 dd:Option Addr
 k0:Option Value
 k1:Option Value
 k2:Option Value
 k3:Option Value
 k5:Option Value
 c0:Value
 dA:Option Addr
 cd:ClassData
 sl:Array (Option Value)
 oI:Obj
 fd:FuncData
 dv:Value
 oD:Obj
 n:Nat
 ps:List Pos
structure GfOK(h:Heap)(C:Addr)(G:GfD):Prop where
 C:h.get? C=some (excClassObj G.nm G.q C G.N G.bs (.ref G.L::excBm) true G.sn G.sub G.ab G.col G.dd G.k0 G.k1 G.k2 G.k3 G.k5 "Exception.__new__")
 N:∃mN,h.Ns G.N mN∧mN "__init__"=none∧mN "__setattr__"=none∧mN "what"=none∧mN "at"=none
 L:h.get? G.L=some { cls:=G.c0,dict:=G.dA,data:=.cls G.cd,slots:=G.sl }
 NL:∃mL,h.Ns G.cd.ns mL∧mL "__init__"=some (.ref G.fI)∧mL "__setattr__"=none∧mL "what"=none∧mL "at"=none
 I:h.get? G.fI=some G.oI
 Ic:G.oI.cls=.type "function"
 Id:G.oI.data=.func G.fd
 par:plainPar G.fd.params=true
 args:G.fd.params.args.map (·.arg)=([("self":Str),("what":Str),("at":Str)]:List Str)
 dfl:G.fd.defaults=.ref G.td
 D:h.get? G.td=some G.oD
 Dd:G.oD.data=.seq #[G.dv] G.n
 body:∃p1 p2 p3 p4 p5 p6 q1 q2 q3 q4 r1 r2 r3 r4,G.fd.body=.stmts (initBody p1 p2 p3 p4 p5 p6 q1 q2 q3 q4 r1 r2 r3 r4)∧(p2.endLine==p5.line)=true
 co:G.fd.scope.isCoroutine=false
 ge:G.fd.scope.isGenerator=false
 kind:G.fd.scope.kind=.function
 cells:∀x∈G.fd.scope.names,x.2≠.cell
 s1:G.fd.scope.names.lookup ("self":Str)=some .local
 s2:G.fd.scope.names.lookup ("what":Str)=some .local
 s3:G.fd.scope.names.lookup ("at":Str)=some .local
 s4:G.fd.scope.names.lookup ("Exception":Str)=some .globalImplicit
 clo:G.fd.closure=[]
 code:h.CodeRec G.fd.code G.fd.qualname
 nolim:h.NoLimit
 g1:∃mg,h.Ns G.fd.globals mg∧mg "Exception"=none
 b1:∃mb,h.Ns G.fd.builtins mb∧mb "Exception"=some (.type "Exception")
theorem GfOK.keeps{h h':Heap}{C:Addr}{G:GfD}(x:GfOK h C G)(k:∀b o,h.get? b=some o→h'.get? b=some o):GfOK h' C G where
 C:=k _ _ x.C
 N:=let ⟨m,a,b⟩:=x.N;⟨m,a.keeps k,b⟩
 L:=k _ _ x.L
 NL:=let ⟨m,a,b⟩:=x.NL;⟨m,a.keeps k,b⟩
 I:=k _ _ x.I
 Ic:=x.Ic
 Id:=x.Id
 par:=x.par
 args:=x.args
 dfl:=x.dfl
 D:=k _ _ x.D
 Dd:=x.Dd
 body:=x.body
 co:=x.co
 ge:=x.ge
 kind:=x.kind
 cells:=x.cells
 s1:=x.s1
 s2:=x.s2
 s3:=x.s3
 s4:=x.s4
 clo:=x.clo
 code:=x.code.keeps k
 nolim:=x.nolim.keeps k
 g1:=let ⟨m,a,b⟩:=x.g1;⟨m,a.keeps k,b⟩
 b1:=let ⟨m,a,b⟩:=x.b1;⟨m,a.keeps k,b⟩
section
variable{prog:Program}{w:World}{A:Around}{E:Value→Shared→Prop}{s:Shared}{C e tup:Addr}{G:GfD}{u:Value}
theorem ex_initfun(hG:GfOK s.heap C G)(hroom:A.depth<recursionLimit)(he:s.heap.get? e=some { cls:=.ref C,data:=.fields #[.ref tup,.none,.none,.none,.bool false,.none] }){Q:Value→Shared→Prop}
  (hq:∀s' h₁ mA,(∀b o,s.heap.get? b=some o→h₁.get? b=some o)→s.heap.objs.size≤h₁.objs.size→ExI h₁ e C s'.heap mA→s'.gens=s.gens→s'.os=s.os→Q .none s') :
  wpAny (model prog w) A (call (.ref G.fI) [.ref e,u]) Q E s:=by
 refine x7_1 hG.body λp1 p2 p3 p4 p5 p6 q1 hq7=>?_;refine x7_1 hq7 λq2 q3 q4 r1 r2 r3 r4 hq14=>?_;refine x0_2 hq14 λhb hline=>?_
 refine wpAny_call (codeAny_call_function hroom hG.I hG.Id hG.co hG.ge hb hG.code ?_)
 refine bind_two hG.par hG.args hG.dfl hG.D hG.Dd ?_
 refine rwG hG.clo ?_
 refine wpAny_newFunctionEnv hG.cells (λx hx=>?_) (λh' hns hsb=>?_) hG.kind
 ·rcases vI hx with rfl|hx
  ·exact hG.s1
  rcases vI hx with rfl|hx
  ·exact hG.s2
  rcases vI hx with rfl|hx
  ·exact hG.s3
  ·cases hx
 ·have kp:∀b o,s.heap.get? b=some o→h'.get? b=some o:=λb o hbo=>(hsb.2 b (Nat.ne_of_lt (Heap.lt_size hbo))).trans (Heap.get?_push_of_some _ hbo)
  have hG':=hG.keeps kp
  refine x1_5 hG'.N λmN a1 a2 a3 a4 a5=>?_
  refine x1_5 hG'.NL λmL c1 c2 c3 c4 c5=>?_
  refine x1_2 hG'.g1 λmg d1 d2=>?_
  refine x1_2 hG'.b1 λmb e1 e2=>?_
  obtain⟨hp,gn,dr,tk,os⟩:=s
  refine⟨hG'.nolim,codeAny_func ?_⟩
  refine ex_initbody (u:=u) (va:=G.dv) hline hG'.C a1 a3 a4 a5 hG'.L c1 c3 c4 c5 (kp _ _ he) hG.kind hG.s1 hG.s2 hG.s3 hG.s4 hns ?_ ?_ ?_ d1 d2 e1 e2 λh₂ d' tk' mA I=>?_
  ·rfl
  ·rfl
  ·rfl
  ·exact hq _ h' mA kp (by have h2:=hsb.1;rw[Heap.size_push]at h2;exact vE (Nat.le_succ _) (Nat.le_of_eq h2.symm)) I rfl rfl
end
end
section
section
variable{M:Model}{A:Around}{E:Value→Shared→Prop}{env:Env}{C L N:Addr}
variable{nm q:Str}{bs:List Value}{sn:List Str}{sub:List Value}{ab:Bool}{col:Option Bool}{dd:Option Addr}{k0 k1 k2 k3 k5:Option Value}{hdct:Bool}
theorem ex_raiseStmt{s:Shared}{x:Sem Value}{Q:Flow→Shared→Prop}(hh:A.handled=none)
  (h:wpAny M A x (λv s₁=>∃e oe tp,v=.ref e∧s₁.heap.get? C=some (excClassObj nm q C N bs (.ref L::excBm) hdct sn sub ab col dd k0 k1 k2 k3 k5 "Exception.__new__") ∧
   s₁.heap.get? e=some oe∧oe.cls=.ref C∧oe.data=.fields #[.ref tp,.none,.none,.none,.bool false,.none]∧E (.ref e) s₁) E s) :
  wpAny M A (raiseStmt env (some x) none) Q E s:=by
 have hcB:(Value.ref C :: .ref L::excBm).contains (.type "BaseException")=true:=by rw[List.contains_cons,ex_has (b:=true) rfl,Bool.or_true]
 refine wpAny_bind (wpAny_mono h (λv s₁ h₁=>?_) λzz zz x=>x)
 refine x3_6 h₁ λe oe tp he3=>?_;refine rwG he3 ?_;clear he3;intro hC he hcl hdt hE;clear h₁
 obtain⟨hp,g,d,tk,os⟩:=s₁
 obtain⟨c1,d1,dt1,sl1⟩:=oe
 simp only at hcl hdt
 subst hcl
 subst hdt
 repeat (first|with_reducible refine wpAny_loadPart_at he ?_|with_reducible refine wpAny_loadPart_at hC ?_|(with_reducible refine wpAny_isSubtype_exc hC ?_;refine rwG hcB ?_)|wp_step)
 exact wpAny_raiseNew_none hh hE
end
end
section
theorem raise_ok{X:Fix}(O:FixOK X){G:GfD}(hG:GfOK X.B X.gf G)(d:Nat):RaiseOK X d:=by
 intro L H cx hT hgf A fe outer F c ρ g σ s am w f a p pos pos' kx Q hn hs hisgf h
 have hp:(backTo pos (starEach [a] c)).any (·.1)=false:=(starEach_plain (c:=c) (pos:=pos) (es:=[a]) (by simp[hs])).1
 have main:wpAny (model X.prog X.w) A (eval (.Call (.Name f p) [a] [] pos) c) (λv s₁=>∃e oe tp,v=.ref e∧s₁.heap.get? X.gf=some (excClassObj G.nm G.q X.gf G.N G.bs (.ref G.L::excBm) true G.sn G.sub G.ab G.col G.dd G.k0 G.k1 G.k2 G.k3 G.k5 "Exception.__new__") ∧
   s₁.heap.get? e=some oe∧oe.cls=.ref X.gf∧oe.data=.fields #[.ref tp,.none,.none,.none,.bool false,.none]∧PX X noS (fe::outer) F g s kx (.ref e) s₁) (PX X noS (fe::outer) F g s kx) s:=by
  refine wpAny_Call_ofName ?_
  refine x0_2 (nameOk_ok hn) λhd hcl=>?_
  refine x0_2 (isGf_eq hisgf) λe hv=>?_
  rw[hgf]at hv
  have hkd:c.kindOf f=some .globalImplicit:=by
   rcases w.fr.names _ _ e with hkd|⟨hkd,zz⟩
   ·exact hkd
   ·cases hkd
  refine x2_3 (glob_ns O w.R) λes ep h1 h2 h3=>?_
  rw[hT,nsK_find O h1 h3]at hv
  refine Name_function_global w.fr.kind hkd (loadGlobal_global (w.fr.glob▸h2) hv ?_) hd
  refine wpAny_bind (wpAny_holding (wpAny_mono (Q:=λ(a:Args) s₂=>∃u g₁ σ₁,a=⟨[u],[]⟩∧To X noS (fe::outer) g s g₁ s₂∧HR X g₁ σ₁ s₂.heap∧kx σ₁=true) (evalArgs_all hp ?_) (λa s₂ h₂=>wpAny_bind (wpAny_standAt ?_)) λzz zz x=>x))
  ·refine rwG (starEach_cons hs) ?_
   refine spliced_cons (vgoV (H.ev am w a _ kx h) λv g₁ σ₁ s₁ t R₁ p rp hk=>spliced_nil ?_)
   refine⟨v,g₁,σ₁,rfl,t,R₁,?_⟩
   refine pstrE hk fT λzz hk=>hk
  ·refine x3_4 h₂ λu g₁ σ₁ he3=>?_;refine rwG he3 ?_;clear he3;intro t R₁ hk;clear h₂
   have kB:∀b o,X.B.get? b=some o→s₂.heap.get? b=some o:=λb o e=>R₁.frz _ _ (R₁.base _ _ e)
   have hG₁:=hG.keeps kB
   have fs₁:=w.fs.step t.st λzz zz zz zz z=>z
   obtain⟨hh,gn,dr,tk,os⟩:=s₂
   simp only[hp]
   refine x1_5 hG₁.N λmN a1 a2 a3 a4 a5=>?_
   refine x1_5 hG₁.NL λmL c1 c2 c3 c4 c5=>?_
   refine wpAny_bind (wpAny_keeperOf_exc hG₁.C ?_)
   refine wpAny_bind (ex_call hG₁.C a1 a2 hG₁.L c1 c2 hG₁.I hG₁.Ic (λh' e hle hm=>?_) (by refine rwG sizeLine_eq ?_;simp))
   refine x1_3 hm.there λtp he zz zz=>?_
   refine ex_initfun (s:=⟨h',gn,dr,tk,os⟩) (hG₁.keeps hm.keeps) ?_ he λs' h₁ mA k₁ z₁ I e1 e2=>⟨rfl,wpAny_bind (wpAny_holding (wpAny_point (wpAny_pure ?_)))⟩
   ·have:=am.depth
    show A.depth+(Code.builtin "type.__call__" ⟨.ref X.gf::[u],[]⟩).weight<1000
    have hwt:(Code.builtin "type.__call__" ⟨.ref X.gf::[u],[]⟩).weight≤1:=by first|(show(0:Nat)≤1;decide)|(show(1:Nat)≤1;decide)|(unfold Code.weight;split <;> simp)
    lia
   ·have hne:∀b o,hh.get? b=some o→b≠e:=λb o hb q=>by subst q;exact absurd (Heap.lt_size hb) (vL hle)
    have kk:∀b o,hh.get? b=some o→s'.heap.get? b=some o:=λb o hb=>I.keep b o (hne b o hb) (k₁ b o (hm.keeps b o hb))
    refine x2_4 I.obj λoe tp' x1 x2 x3 zz=>?_
    refine⟨e,oe,tp',rfl,kk _ _ hG₁.C,x1,x2,x3,none,.inl rfl,?_⟩
    have hsz:hh.objs.size≤s'.heap.objs.size:=by
     refine vE ?_ I.size
     refine vE ?_ z₁
     exact vE hle (Nat.le_of_lt (Heap.lt_size he))
    have T₂:To X noS (fe::outer) g₁ ⟨hh,gn,dr,tk,os⟩ g₁ s':=⟨Stp.heap hsz λb o hb zz zz zz=>kk b o hb,e1,e2⟩
    have R₂:HR X g₁ σ₁ s'.heap:=R₁.heap λb o hb zz=>kk b o hb
    refine⟨⟨g₁,σ₁,e,rfl,(t.trans T₂).st,R₂,⟨vE t.st.size hle,R₁.fresh hle,oe,_,x1,x2,x3,by simp,rfl⟩,fs₁.step T₂.st λzz zz zz zz z=>z,hk⟩,(t.trans T₂).gens,(t.trans T₂).os⟩
 rw[arm_exec_Raise]
 first
  |exact wpAny_bind (wpAny_standAt (ex_raiseStmt am.hd (wpAny_bind (wpAny_mono main (λv s₃ h₃=>wpAny_bind (wpAny_standAt (wpAny_pure h₃))) λzz zz x=>x))))
  |(simp only[evalOpt,Option.map];exact wpAny_bind (wpAny_standAt (ex_raiseStmt am.hd (wpAny_bind (wpAny_mono main (λv s₃ h₃=>wpAny_bind (wpAny_standAt (wpAny_pure h₃))) λzz zz x=>x)))))
end
section
theorem bind_dflt{fd:FuncData}{v dv:Value}{x1 x2:Str}{t:Addr}{o:Obj}{n:Nat}(hp:plainPar fd.params=true)(ha:fd.params.args.map (·.arg)=[x1,x2])(hne:x1≠x2)
  (hd:fd.defaults=.ref t) {M:Model} {A:Around} {E:Value→Shared→Prop} {s:Shared} {Q:List (Str×Value)→Shared→Prop} (ho:s.heap.get? t=some o) (hod:o.data=.seq #[dv] n) (h:Q [(x1,v),(x2,dv)] s):wpAny M A (bindArgs fd ⟨[v],[]⟩) Q E s:=by
 have e1:(x2==x1)=false:=beq_eq_false_iff_ne.mpr (Ne.symm hne)
 rw[fdN_eq hp]
 generalize fd.params.args=as at ha
 have hl:=congrArg List.length ha
 rw[List.length_map]at hl
 cases as with
 |nil=>exact nomatch (show 0=2 from hl)
 |cons a as=>cases as with
  |nil=>exact nomatch (show 1=2 from hl)
  |cons b as=>cases as with
   |cons d as=>exact nomatch (show as.length+3=2 from hl)
   |nil=>
    have h1:a.arg=x1:=(List.cons.inj ha).1
    have h2:b.arg=x2:=(List.cons.inj (List.cons.inj ha).2).1
    subst h1;subst h2
    refine BindsTo.of_defaults (fd:=fdN fd _) hd ho hod rfl ?_ M A E Q h
    have l1:List.lookup a.arg [(a.arg,v)]=some v:=by rw[List.lookup_cons,beq_self_eq_true]
    have m:List.filter (λn=>(List.lookup n [(a.arg,v)]).isNone) [a.arg]=[]:=by
     show(match(List.lookup a.arg [(a.arg,v)]).isNone with|true=>[a.arg]|false=>[])=[]
     rw[l1];rfl
    refine(if_neg λq=>absF q).trans ((if_neg λq=>absF ((congrArg (λl:List Str=>!l.isEmpty) m).symm.trans q)).trans ?_)
    have l2:(List.lookup b.arg [(a.arg,v)]).isNone=true:=by rw[List.lookup_cons,e1];rfl
    have L:forIn (m:=Sem) [(b.arg,dv)] [(a.arg,v)] (λ(x:Str×Value) s=>if(List.lookup x.1 s).isNone=true then pure (ForInStep.yield (s++[(x.1,x.2)]))else pure (ForInStep.yield s))=pure [(a.arg,v),(b.arg,dv)]:=by
     rw[List.forIn_cons,if_pos l2];rfl
    refine bind_of (x:=[(a.arg,v),(b.arg,dv)]) ?_ ?_
    ·exact L
    ·have k1:List.lookup a.arg [(a.arg,v),(b.arg,dv)]=some v:=by rw[List.lookup_cons,beq_self_eq_true]
     have k2:List.lookup b.arg [(a.arg,v),(b.arg,dv)]=some dv:=by rw[List.lookup_cons,e1,List.lookup_cons,beq_self_eq_true]
     have F:List.filterMap (λn=>Option.map (λx=>(n,x)) (List.lookup n [(a.arg,v),(b.arg,dv)])) [a.arg,b.arg]=[(a.arg,v),(b.arg,dv)]:=by
      rw[List.filterMap_cons_some (by rw[k1];rfl),List.filterMap_cons_some (by rw[k2];rfl)];rfl
     exact congrArg (pure (f:=Sem)) F
end
section
noncomputable def Fix.sw(X:Fix)(θ:Nat→List Nat)(η:Nat→(Addr→Option Obj)→Value→Prop):Fix:={ X with θ:=θ,η:=η }
noncomputable def GW.still(g:GW)(h:Heap):GW:=⟨λb=>if b∈g.la then h.get? b else g.Γ b,[]⟩
noncomputable def GW.back(g g':GW):GW:=⟨λb=>if b∈g.la then none else g'.Γ b,g.la⟩
section
variable{X:Fix}{θ:Nat→List Nat}{η:Nat→(Addr→Option Obj)→Value→Prop}{g g':GW}{σ σ':Sto}{h h':Heap}{FS:List Addr}
theorem still_old{a:Addr}{o:Obj}(R:HR X g σ h)(e:g.Γ a=some o):(g.still h).Γ a=some o∧a∉g.la:=by
 have n:a∉g.la:=λhm=>by have:=(R.laF a hm).1;rw[e]at this;exact absS this
 exact⟨(if_neg n).trans e,n⟩
theorem HR.still(R:HR X g σ h):HR (X.sw θ η) (g.still h) [] h:=by
 refine⟨λa o e=>?_,λa o e=>(still_old R (R.base a o e)).1,rfl,λi a xs e=>(absN e),List.nodup_nil,λa ha=>((List.not_mem_nil ha).elim),?_,?_⟩
 ·have e':(if a∈g.la then h.get? a else g.Γ a)=some o:=e
  refine iteS e' ?_ ?_ <;> clear e' <;> intro _ e'
  ·exact e'
  ·exact R.frz a o e'
 ·refine x1_3 R.tab.tab λps h1 h2 h3=>?_
  refine⟨ps,h1,h2,λpos c' e=>?_⟩
  refine x4_3 (h3 pos c' e) λcd o vs t a1 a2 a3=>?_
  exact⟨cd,o,vs,t,a1,(still_old R a2).1,a3⟩
 ·show(if X.P∈g.la then h.get? X.P else g.Γ X.P)=none
  refine rwG (if_neg λhm=>(R.laF _ hm).2 rfl) ?_;exact R.noP
theorem back_ext(R:HR X g σ h)(t:Stp (X.sw θ η) noS FS (g.still h) h g' h'):GExt g (g.back g'):=
 ⟨λa o e=>by
  refine x0_2 (still_old R e) λe1 n=>?_
  exact(if_neg n).trans (t.ext a o e1),[],(vO _).symm⟩
theorem list_still(R:HR X g σ h)(t:Stp (X.sw θ η) noS FS (g.still h) h g' h'){a:Addr}(ha:a∈g.la):∃o vs n,h.get? a=some o∧g'.Γ a=some o∧o.data=.seq vs n:=by
 refine x1_1 (List.getElem_of_mem ha) λi hq1=>?_;refine x1_1 hq1 λhi e=>?_
 have hi2:i<σ.length:=R.len▸hi
 refine x1_2 (R.lst i a σ[i] (by exact rwG (List.getElem?_eq_getElem hi) (rwG e rfl)) (List.getElem?_eq_getElem hi2)) λvs ho1 zz=>?_;obtain⟨n,hp⟩:=ho1
 have e1:(g.still h).Γ a=_:=(if_pos ha).trans hp
 exact⟨_,vs,n,hp,t.ext a _ e1,rfl⟩
theorem HR.back(R:HR X g σ h)(t:Stp (X.sw θ η) noS FS (g.still h) h g' h')(R':HR (X.sw θ η) g' σ' h'):HR X (g.back g') σ h':=by
 have ge:=back_ext R t
 refine⟨λa o e=>?_,λa o e=>ge.1 a o (R.base a o e),R.len,λi a xs e1 e2=>?_,R.nod,λa ha=>⟨if_pos ha,(R.laF a ha).2⟩,?_,?_⟩
 ·have e':(if a∈g.la then none else g'.Γ a)=some o:=e
  refine iteS e' ?_ ?_ <;> clear e' <;> intro _ e'
  ·exact absN e'
  ·exact R'.frz a o e'
 ·refine x1_2 (R.lst i a xs e1 e2) λvs ho1 hr=>?_;refine x1_1 ho1 λn hp=>?_;clear ho1
  have ha:a∈g.la:=vN e1
  have e3:(g.still h).Γ a=_:=(if_pos ha).trans hp
  exact⟨vs,⟨n,R'.frz a _ (t.ext a _ e3)⟩,repL_mono ge hr⟩
 ·refine x1_3 R'.tab.tab λps h1 h2 h3=>?_
  refine⟨ps,h1,h2,λpos c' e=>?_⟩
  refine x4_4 (h3 pos c' e) λcd o vs tk a1 a2 a3 a4=>?_
  refine⟨cd,o,vs,tk,a1,?_,a3,a4⟩
  show(if cd∈g.la then none else g'.Γ cd)=some o
  rw[if_neg,a2]
  intro hm
  refine x3_3 (list_still R t hm) λo2 vs2 n2 zz b1 b2=>?_
  rw[a2]at b1;refine someI b1 ?_;clear b1;intro hx;subst hx;rw[a3]at b2;cases b2
 ·show(if X.P∈g.la then none else g'.Γ X.P)=none
  split
  ·rfl
  ·exact R'.noP
set_option tactic.hygienic true in
theorem Stp.back(R:HR X g σ h)(t:Stp (X.sw θ η) noS FS (g.still h) h g' h')(R':HR (X.sw θ η) g' σ' h'):Stp X noS FS g h (g.back g') h':=by
 refine⟨t.size,(back_ext R t).1,λa o e=>?_,⟨[],(vO _).symm,λzz hm=>(List.not_mem_nil hm).elim⟩,λb o e n1 n2 n3=>t.keep b o e n1 (λhm=>(List.not_mem_nil hm).elim) n3⟩
 have e':(if a∈g.la then none else g'.Γ a)=some o:=e
 refine iteS e' ?_ ?_ <;> clear e' <;> intro _ e'
 ·exact absN e'
 ·rename_i n
  rcases t.new a o e' with q|q
  ·exact .inl ((if_neg n).symm.trans q)
  ·exact .inr q
end
end
section
section
variable{X:Fix}{θ:Nat→List Nat}{η:Nat→(Addr→Option Obj)→Value→Prop}{g g':GW}{σ σ':Sto}{h h':Heap}{l:List Env}{F:Addr}{kx kx':KX}{s s':Shared}
theorem FramesOK.still(x:FramesOK X g h l):FramesOK (X.sw θ η) (g.still h) h l:=by
 intro env he
 refine x0_2 (x env he) λhk hq1=>?_;refine x2_5 hq1 λL o hf h1 h2 h3 h4=>?_
 exact⟨hk,L,o,hf,(if_neg h2).trans h1,λhm=>((List.not_mem_nil hm).elim),h3,h4⟩
theorem To.back(R:HR X g σ s.heap)(t:To (X.sw θ η) noS l (g.still s.heap) s g' s')(R':HR (X.sw θ η) g' σ' s'.heap):To X noS l g s (g.back g') s':=⟨Stp.back R t.st R',t.gens,t.os⟩
theorem PX.back{e:Value}(R:HR X g σ s.heap)(fs:FramesOK X g s.heap l)(hk:kx σ=true)(x:PX (X.sw θ η) noS l F (g.still s.heap) s kx' e s'):PX X noS l F g s kx e s':=by
 refine x1_2 x λT hT ho1=>?_;clear x;obtain⟨ho2,e1,e2⟩:=ho1;refine x3_6 ho2 λg' σ' ea he hst R' ho3 hF zz=>?_;clear ho2;obtain⟨hle,hok,oe,vs,a1,a2,a3,a4,a5⟩:=ho3
 have nla:∀{b:Addr},s.heap.objs.size≤b→b∉g.la:=λhb hm=>absurd (R.laLt hm) (vL hb)
 have bk:∀{b:Addr},b∉g.la→g'.Γ b=none→(g.back g').Γ b=none:=λn e=>(if_neg n).trans e
 refine⟨T,hT,⟨⟨g.back g',σ,ea,he,Stp.back R hst R',HR.back R hst R',⟨hle,⟨bk (nla hle) hok.1,nla hle,hok.2.2⟩,oe,vs,a1,a2,a3,a4,?_⟩,fs.step (Stp.back R hst R') λzz zz zz zz z=>z,hk⟩,e1,e2⟩⟩
 cases T with
 |none=>exact a5
 |some q=>
  refine x0_5 a5 λb1 b2 b3 ho4 b7=>?_;clear a5;refine x0_3 ho4 λb4 zz b6=>?_;clear ho4
  exact⟨b1,b2,b3,⟨bk (nla b3) b4,nla b3,b6⟩,b7⟩
end
end
section
structure Ins where
 th:Nat→List Nat
 ho:Nat→PV
 u:Nat
noncomputable def clo(p:PV):Bool:=@PV.rec (λ_=>Bool) (λ_=>Bool) true (λb=>true) (λi=>true) (λr=>litR r) (λ_ ih=>ih) (λ_=>false) (λa=>false) (λ_ _ _ _=>false) (λ_ _ _ _ _ _=>false) (λi=>Nat.ble 1000 i&&Nat.blt i 1128) true (λ_ _ ihp ihr=>ihp&&ihr) p
noncomputable def cloL(l:List PV):Bool:=@PV.rec_1 (λ_=>Bool) (λ_=>Bool) true (λb=>true) (λi=>true) (λr=>litR r) (λ_ ih=>ih) (λ_=>false) (λa=>false) (λ_ _ _ _=>false) (λ_ _ _ _ _ _=>false) (λi=>Nat.ble 1000 i&&Nat.blt i 1128) true (λ_ _ ihp ihr=>ihp&&ihr) l
noncomputable def opn(p:PV):Bool:=@PV.rec (λ_=>Bool) (λ_=>Bool) true (λb=>true) (λi=>true) (λr=>true) (λ_ ih=>ih) (λ_=>false) (λa=>true) (λ_ _ _ _=>false) (λ_ _ _ _ _ _=>false) (λi=>Nat.blt i 2000) true (λ_ _ ihp ihr=>ihp&&ihr) p
noncomputable def opnL(l:List PV):Bool:=@PV.rec_1 (λ_=>Bool) (λ_=>Bool) true (λb=>true) (λi=>true) (λr=>true) (λ_ ih=>ih) (λ_=>false) (λa=>true) (λ_ _ _ _=>false) (λ_ _ _ _ _ _=>false) (λi=>Nat.blt i 2000) true (λ_ _ ihp ihr=>ihp&&ihr) l
mutual
noncomputable def sub(I:Ins):PV→PV
 |.tup xs=>.tup (subL I xs)
 |.hole i=>if Nat.blt i 500 then I.ho i else .hole i
 |.str r=>.str (den I.th r)
 |p=>p
noncomputable def subL(I:Ins):List PV→List PV
 | []=>[]
 |p::r=>sub I p::subL I r
end
theorem sub_h{I:Ins}{i:Nat}:sub I (.hole i)=if Nat.blt i 500 then I.ho i else .hole i:=rfl
theorem subL_c{I:Ins}{p:PV}{r:List PV}:subL I (p::r)=sub I p::subL I r:=rfl
structure InsOK(I:Ins):Prop where
 th:∀i,I.th i≠[]∧(I.th i).length≤4096∧litR (I.th i)=true
 ho:∀i,clo (I.ho i)=true
 ky:KyOK I.th
theorem KyOK.of{θ θ':Nat→List Nat}(h:KyOK θ)(e:∀i,64≤i→θ' i=θ i):KyOK θ':=λi hi=>by refine rwG (e (64+i) (Nat.le_add_right ..)) (rwG (e (164+i) (by lia)) ?_);exact h i hi
theorem ky97a:([97]:List Nat)=cut5 [97]∧[97]≠whenL:=by decide +kernel
theorem ky97b:∀i,i<24→∀w∈kyCl i,([97]:List Nat)≠w:=by decide +kernel
theorem ky97:KyOK λ_=>[97]:=λi hi=>⟨ky97b i hi,ky97a⟩
noncomputable def penη(u i:Nat)(v:Value):Prop:=if i=2000 then ∃a tk,v=.int a tk else if i=2001 then ∃c tk,v=.int c tk∧0≤c∧c<999979 else ∃b tk,v=.int b tk∧0≤b∧b≤((i-2002+u:Nat):Int)
noncomputable def Fix.ins(X:Fix)(I:Ins):Fix:=X.sw I.th λi Γ v=>if i<500 then RepV X ⟨Γ,[]⟩ v (I.ho i)else if i<2000 then X.η i Γ v else penη I.u i v
theorem den_litR{θ:Nat→List Nat}(h:∀i,litR (θ i)=true):∀r,litR (den θ r)=true
 | []=>rfl
 |c::r=>by
  show litR ((if isLit c then[c]else θ (c-symB))++den θ r)=true
  unfold litR at *
  rw[List.all_append,Bool.and_eq_true]
  refine⟨?_,den_litR h r⟩
  split
  ·rename_i q;simpa using q
  ·exact h _
section
variable{X:Fix}
theorem rep_ext{g g':GW}(x:∀a o,g.Γ a=some o→g'.Γ a=some o){v:Value}{p:PV}(r:RepV X g v p):opn p=true→RepV X g' v p:=by
 refine@RepV.rec X g (λv p _=>opn p=true→RepV X g' v p) (λv p _=>opnL p=true→RepL X g' v p) ?_ ?_ ?_ ?_ ?_ ?_ ?_ ?_ ?_ ?_ ?_ ?_ ?_ v p r
 ·intro _;exact .none
 ·intro b _;exact .bool b
 ·intro i t _;exact .int i t
 ·intro r s t e _;exact .str t e
 ·intro a vs n ps e _ ih hn;exact .tup (x _ _ e) (ih hn)
 ·intro a i e hn;exact absF hn
 ·intro a o e _;exact .old e
 ·intro a o kvs ks vs e h1 h2 h3 h4 _ ih hn;exact absF hn
 ·intro a o kvs ks vs e h1 h2 h3 _ ih hn;exact absF hn
 ·intro a oc od fd osl c co v ag body sc y p e h1 h2 h3 h4 h5 h6 h7 h8 h9 h10 h11 _ ih hn;exact absF hn
 ·intro v Γ₀ i e k _;exact .hole i e λa o q=>x _ _ (k a o q)
 ·intro _;exact .nil
 ·intro v vs p ps _ _ i1 i2 hn
  refine x0_2 (vJ (show(opn p&&opnL ps)=true from hn)) λh1 h2=>?_
  exact .cons (i1 h1) (i2 h2)
mutual
theorem clo_opn:∀{p:PV},clo p=true→opn p=true
 |.tup xs,h=>cloL_opn (xs:=xs) h
 |.none,_=>rfl
 |.bool _,_=>rfl
 |.int _,_=>rfl
 |.str _,_=>rfl
 |.lst _,h=>by exact absF h
 |.old _,h=>by exact absF h
 |.dct _ _,h=>by exact absF h
 |.clos ..,h=>by exact absF h
 |.hole i,h=>band2 h λ_ h=>(show Nat.ble (i+1) 2000=true from Nat.ble_eq_true_of_le (vE (vA h) (vA rfl)))
theorem cloL_opn:∀{xs:List PV},cloL xs=true→opnL xs=true
 | [],_=>rfl
 |p::r,h=>band2 h λh1 h2=>Bool.and_eq_true_iff.mpr ⟨clo_opn h1,cloL_opn h2⟩
end
variable{I:Ins}(hI:InsOK I)
include hI in
theorem rep_to{g g':GW}(x:∀a o,g.Γ a=some o→g'.Γ a=some o){v:Value}{p:PV}(r:RepV (X.ins I) g v p):opn p=true→RepV X g' v (sub I p):=by
 refine@RepV.rec (X.ins I) g (λv p _=>opn p=true→RepV X g' v (sub I p)) (λv p _=>opnL p=true→RepL X g' v (subL I p)) ?_ ?_ ?_ ?_ ?_ ?_ ?_ ?_ ?_ ?_ ?_ ?_ ?_ v p r
 ·intro _;exact .none
 ·intro b _;exact .bool b
 ·intro i t _;exact .int i t
 ·intro r s t e _;exact .str t (by refine rwG e (rwG (den_lit (den_litR (λi=>(hI.th i).2.2) r)) ?_);rfl)
 ·intro a vs n ps e _ ih hn;exact .tup (x _ _ e) (ih hn)
 ·intro a i e hn;exact absF hn
 ·intro a o e _;exact .old e
 ·intro a o kvs ks vs e h1 h2 h3 h4 _ ih hn;exact absF hn
 ·intro a o kvs ks vs e h1 h2 h3 _ ih hn;exact absF hn
 ·intro a oc od fd osl c co v ag body sc y p e h1 h2 h3 h4 h5 h6 h7 h8 h9 h10 h11 _ ih hn;exact absF hn
 ·intro v Γ₀ i e k hn
  have e':if i<500 then RepV X ⟨Γ₀,[]⟩ v (I.ho i)else if i<2000 then X.η i Γ₀ v else penη I.u i v:=e
  rw[sub_h]
  by_cases q:i<500
  ·rw[if_pos q]at e'
   rw[if_pos (show Nat.blt i 500=true from Nat.ble_eq_true_of_le q)]
   exact rep_ext (λa o e=>x _ _ (k a o e)) e' (clo_opn (hI.ho i))
  ·rw[if_neg q,if_pos (show i<2000 from vA hn)]at e'
   rw[if_neg (show¬Nat.blt i 500=true fromλz=>q (vA z))]
   exact .hole i e' λa o q=>x _ _ (k a o q)
 ·intro _;exact .nil
 ·intro v vs p ps _ _ i1 i2 hn
  refine x0_2 (vJ (show(opn p&&opnL ps)=true from hn)) λh1 h2=>?_
  exact .cons (i1 h1) (i2 h2)
include hI
mutual
theorem rep_of{g g':GW}(x:∀a o,g.Γ a=some o→g'.Γ a=some o):∀{p:PV} {v:Value},opn p=true→RepV X g v (sub I p)→RepV (X.ins I) g' v p
 |.tup xs,v,h,r=>by
  refine x3_3 (RepV.iT (ps:=subL I xs) r) λa vs n he3=>?_;refine rwG he3 ?_;clear he3;intro e q
  exact .tup (x _ _ e) (repL_of x (xs:=xs) h q)
 |.none,v,_,r=>by refine rwG (RepV.iN r) ?_;exact .none
 |.bool b,v,_,r=>by refine rwG (RepV.iB (b:=b) r) ?_;exact .bool b
 |.int i,v,_,r=>by refine x1_1 (RepV.iI (i:=i) r) λt he1=>?_;refine rwG he1 ?_;clear he1;exact .int i t
 |.str r0,v,_,r=>by
  refine x1_1 (RepV.iS (c:=den I.th r0) r) λt he1=>?_;refine rwG he1 ?_;clear he1
  exact .str t (by refine rwG (den_lit (den_litR (λi=>(hI.th i).2.2) r0)) ?_;rfl)
 |.lst _,_,h,_=>by exact absF h
 |.old a,v,_,r=>by refine x1_2 (RepV.iO (a:=a) r) λo he1=>?_;refine rwG he1 ?_;clear he1;intro e;exact .old e
 |.dct _ _,_,h,_=>by exact absF h
 |.clos ..,_,h,_=>by exact absF h
 |.hole i,v,h,r=>by
  rw[sub_h]at r
  by_cases q:i<500
  ·rw[if_pos (show Nat.blt i 500=true from Nat.ble_eq_true_of_le q)]at r
   exact .hole (Γ₀:=g.Γ) i (show if i<500 then RepV X ⟨g.Γ,[]⟩ v (I.ho i)else _ by refine rwG (if_pos q) ?_;exact rep_ext (g:=g) (g':=⟨g.Γ,[]⟩) (λ_ _ e=>e) r (clo_opn (hI.ho i))) x
  ·rw[if_neg (show¬Nat.blt i 500=true fromλz=>q (vA z))]at r
   refine x1_2 r.iH λΓ₀ e k=>?_
   exact .hole (Γ₀:=Γ₀) i (show if i<500 then _ else if i<2000 then X.η i Γ₀ v else _ by refine rwG (if_neg q) (rwG (if_pos (show i<2000 from vA h)) ?_);exact e) λa o q=>x _ _ (k a o q)
theorem repL_of{g g':GW}(x:∀a o,g.Γ a=some o→g'.Γ a=some o):∀{xs:List PV} {vs:List Value},opnL xs=true→RepL X g vs (subL I xs)→RepL (X.ins I) g' vs xs
 | [],vs,_,r=>by refine rwG (RepL.i0 r) ?_;exact .nil
 |p::xs,vs,h,r=>by
  refine x2_3 (RepL.i1 (p:=sub I p) (ps:=subL I xs) r) λv us he2=>?_;refine rwG he2 ?_;clear he2;intro a b
  refine x0_2 (vJ (show(opn p&&opnL xs)=true from h)) λh1 h2=>?_
  exact .cons (rep_of x h1 a) (repL_of x h2 b)
end
end
theorem rep_clo{X X':Fix}{g g':GW}(hb:BytEta X.η)(hb':BytEta X'.η)(x:∀a vs n,g.Γ a=some { cls:=.type "tuple",data:=.seq vs n }→g'.Γ a=some { cls:=.type "tuple",data:=.seq vs n }){v:Value}{p:PV}(r:RepV X g v p):clo p=true→RepV X' g' v p:=by
 refine@RepV.rec X g (λv p _=>clo p=true→RepV X' g' v p) (λv p _=>cloL p=true→RepL X' g' v p) ?_ ?_ ?_ ?_ ?_ ?_ ?_ ?_ ?_ ?_ ?_ ?_ ?_ v p r
 ·intro _;exact .none
 ·intro b _;exact .bool b
 ·intro i t _;exact .int i t
 ·intro r s t e hn;exact .str t (by exact rwG e (rwG (den_lit hn) (rwG (den_lit hn) rfl)))
 ·intro a vs n ps e _ ih hn;exact .tup (x _ _ _ e) (ih hn)
 ·intro a i e hn;exact absF hn
 ·intro a o e hn;exact absF hn
 ·intro a o kvs ks vs e h1 h2 h3 h4 _ ih hn;exact absF hn
 ·intro a o kvs ks vs e h1 h2 h3 _ ih hn;exact absF hn
 ·intro a oc od fd osl c co v ag body sc y p e h1 h2 h3 h4 h5 h6 h7 h8 h9 h10 h11 _ ih hn;exact absF hn
 ·intro v Γ₀ i e k hn
  refine x0_2 (vJ (show(Nat.ble 1000 i&&Nat.blt i 1128)=true from hn)) λh1 h2=>?_
  refine x1_1 (Nat.exists_eq_add_of_le (vA h1)) λc he1=>?_;subst he1
  have h3:c<128:=by have:1000+c<1128:=vA h2;lia
  exact .hole (Γ₀:=λ_=>none) _ ((hb' c _ v h3).mpr ((hb c _ v h3).mp e)) λ_ _ e=>absN e
 ·intro _;exact .nil
 ·intro v vs p ps _ _ i1 i2 hn
  refine x0_2 (vJ (show(clo p&&cloL ps)=true from hn)) λh1 h2=>?_
  exact .cons (i1 h1) (i2 h2)
end
section
noncomputable def isFnK(K:Frag)(p:PV)(sh:Addr):Bool:=poldK false p λa=>Nat.beq a sh&&fnP K (.old a)
noncomputable def isFrK(sc:Scope)(x:Str):Bool:=ifS false (lk x sc.names) isFreeK
theorem isFrK_eq{sc:Scope}{x:Str}(h:isFrK sc x=true):lk x sc.names=some .free:=by
 unfold isFrK at h
 refine ifE h fT λk h=>?_
 cases k with
 |free=>rfl
 |_=>exact absF h
noncomputable def lamBody(K:Frag)(sh:Addr)(ag:Arguments)(body:Expr)(sc:Scope)(x:Str):Bool:=
 call0K false body λg as ks _=>nilK false ks (nameK false g λf _=>twoK false as λe1 e2=>nameK false e1 λo _=>binK false e2 λl op r _=>nameK false l λdd _=>intK false r λi _ _=>
  oneK false (ag.args.map (·.arg)) λa=>ifS false (globP K f) λpf=>
  eqS o a&&eqS dd x&&nameOk f&&nameOk o&&nameOk dd&&isGl sc f&&isFnK K pf sh&&isLc sc o&&isFrK sc dd&&isAdd op&&(i==1))
noncomputable def lamGood(ag:Arguments)(sc:Scope):Bool:=plainPar ag&&distinctS (ag.args.map (·.arg))&&isFun sc && !sc.isCoroutine && !sc.isGenerator&&noCells sc&&(ag.args.map (·.arg)).all (parKind sc)
theorem eqS_self(x:Str):eqS x x=true:=by refine rwG eqS_iff ?_;simp
theorem eqS_eq{x y:Str}(h:eqS x y=true):x=y:=by rw[eqS_iff]at h;simpa using h
theorem lam_eval{K:Frag}{sh:Addr}{ag:Arguments}{body:Expr}{sc:Scope}{x:Str}(h:lamBody K sh ag body sc x=true){cx:Cx}(hK:cx.T.K=K){p:PV}{D:Int}{σ:Sto}{k:KV}{kx:KX} :
  ∃bs,bindP (ag.args.map (·.arg)) [p]=some bs∧∀n,(lvl cx (n+3)).ev body { scope:=sc,vars:=bs,up:=[(x,.int D)],lam:=true,q:=false } σ k kx=cx.orc (.old sh) [p,.int (D+1)] σ k kx:=by
 unfold lamBody at h
 refine call0E h fT λg as ks p6 h=>nilE h fT λh=>?_
 refine nameE h fT λf p1 h=>twoE h fT λe1 e2 h=>nameE h fT λo p2 h=>?_
 refine binE h fT λl op r p5 h=>nameE h fT λdd p3 h=>intE h fT λi u p4 h=>?_
 refine oneE h fT λa h=>ifE' h fT λpf e7 h=>?_
 refine band11 h λh1 h2 h3 h4 h5 h6 h7 h8 h9 h10 h11=>?_
 clear h
 refine rwS (eqS_eq h1) ?_
 refine rwS (eqS_eq h2) ?_
 refine rwG (isAdd_eq h10) ?_
 refine rwG (eq_of_beq h11) ?_
 have e6:=isGl_eq h6
 have e8:=isLc_eq h8
 have e9:=isFrK_eq h9
 refine⟨[(o,p)],rfl,λn=>?_⟩
 revert e7
 refine poldE h7 fT λa' h7 e7=>?_
 refine band2 h7 λh7 h12=>?_
 refine rwS (vB h7) ?_
 generalize hρ:({ scope:=sc,vars:=[(o,p)],up:=[(dd,.int D)],lam:=true,q:=false }:Fr)=ρ
 have n1:nameP cx f ρ=some (.old a'):=by refine rwS hρ ?_;clear hρ;refine rwG (nameP_gl h3 e6) (rwG hK ?_);exact e7
 have n2:nameP cx o ρ=some p:=by refine rwS hρ ?_;clear hρ;rw[nameP_loc h4 e8,lk_c,if_pos (eqS_self o)]
 have n3:nameP cx dd ρ=some (.int D):=by refine rwS hρ ?_;clear hρ;rw[nameP_free h5 e9,lk_c,if_pos (eqS_self dd)]
 clear hρ
 have hf:fnP cx.T.K (.old a')=true:=by refine rwG hK ?_;exact h12
 have f1:∀m k,(lvl cx (m+1)).ev (.Name o p2) ρ σ k kx=k p σ:=λm k=>by
  show ifS false (nameP cx o _) (λp=>k p σ)=_
  refine rwG n2 ?_;rfl
 have f2:∀m k,(lvl cx (m+1)).ev (.Name dd p3) ρ σ k kx=k (.int D) σ:=λm k=>by
  show ifS false (nameP cx dd _) (λp=>k p σ)=_
  refine rwG n3 ?_;rfl
 have f3:∀m k,(lvl cx (m+2)).ev (.BinOp (.Name dd p3) .Add (.Constant (.int 1) u p4) p5) ρ σ k kx=k (.int (D+1)) σ:=λm k=>by
  show(lvl cx (m+1)).ev (.Name dd p3) _ σ (λa σ=>(lvl cx (m+1)).ev (.Constant (.int 1) u p4) _ σ (λb σ=>binP .Add a b σ k) kx) kx=_
  rw[f2];rfl
 have nl:lrArg cx ρ f [Expr.Name o p2,Expr.BinOp (.Name dd p3) .Add (.Constant (.int 1) u p4) p5]=none:=by
  refine if_neg λq=>band3 q λzz zz q=>?_
  have e7':=e7
  rw[←hK]at e7'
  refine ifE' e7' nS λv e zz=>?_
  rw[e]at q;exact absF q
 show evNL cx (lvl cx (n+2)) f [Expr.Name o p2,Expr.BinOp (.Name dd p3) .Add (.Constant (.int 1) u p4) p5] ρ σ k kx=_
 unfold evNL
 refine rwG nl ?_
 refine Eq.trans (if_pos (by rfl)) ?_
 refine rwG n1 ?_
 dsimp only
 refine rwG (if_pos hf) ?_
 have ec:∀{L:Lvl} {e:Expr} {r:List Expr} {k:List PV→Sto→Bool},noStar e=true→evs L (e::r) ρ σ k kx=L.ev e ρ σ (λp σ=>evs L r ρ σ (λps σ=>k (p::ps) σ) kx) kx:=λh=>if_pos h
 refine(ec (by rfl)).trans ?_
 rw[f1 (n+1)]
 refine(ec (by rfl)).trans ?_
 rw[f3 n]
 rfl
end
section
noncomputable def pvB(p:PV):PV→Bool:=@PV.rec (λ_=>PV→Bool) (λ_=>List PV→Bool) (λq=>nilP false q true) (λb=>λq=>pboolK false q λc=>b==c) (λi=>λq=>pintK false q λj=>i==j) (λr=>λq=>pstrK false q λy=>eqL r y) (λ_ ih=>λq=>ptupK false q ih) (λ_=>λ_=>false) (λa=>λq=>poldK false q λb=>Nat.beq a b) (λ_ _ _ _=>λ_=>false) (λ_ _ _ _ _ _=>λ_=>false) (λi=>λq=>pholeK false q λj=>Nat.beq i j) (λys=>nilK false ys true) (λ_ _ ihp ihr=>λys=>consK false ys λy ys=>ihp y&&ihr ys) p
noncomputable def pvsB(l:List PV):List PV→Bool:=@PV.rec_1 (λ_=>PV→Bool) (λ_=>List PV→Bool) (λq=>nilP false q true) (λb=>λq=>pboolK false q λc=>b==c) (λi=>λq=>pintK false q λj=>i==j) (λr=>λq=>pstrK false q λy=>eqL r y) (λ_ ih=>λq=>ptupK false q ih) (λ_=>λ_=>false) (λa=>λq=>poldK false q λb=>Nat.beq a b) (λ_ _ _ _=>λ_=>false) (λ_ _ _ _ _ _=>λ_=>false) (λi=>λq=>pholeK false q λj=>Nat.beq i j) (λys=>nilK false ys true) (λ_ _ ihp ihr=>λys=>consK false ys λy ys=>ihp y&&ihr ys) l
mutual
theorem pvB_eq:∀{p q:PV},pvB p q=true→p=q
 |.none,q,h=>nilPE (P:=λq=>PV.none=q) h fT λ_=>rfl
 |.bool b,q,h=>pboolE (P:=λq=>PV.bool b=q) h fT λc h=>by exact rwG (eq_of_beq h) rfl
 |.int i,q,h=>pintE (P:=λq=>PV.int i=q) h fT λc h=>by exact rwG (eq_of_beq h) rfl
 |.str r,q,h=>pstrE (P:=λq=>PV.str r=q) h fT λc h=>by exact rwG (eqL_eq h) rfl
 |.tup xs,q,h=>ptupE (P:=λq=>PV.tup xs=q) h fT λc h=>by exact rwG (pvsB_eq h) rfl
 |.old a,q,h=>poldE (P:=λq=>PV.old a=q) h fT λc h=>by exact rwG (vB h) rfl
 |.hole i,q,h=>pholeE (P:=λq=>PV.hole i=q) h fT λc h=>by exact rwG (vB h) rfl
 |.lst _,_,h=>absF h
 |.dct _ _,_,h=>absF h
 |.clos ..,_,h=>absF h
theorem pvsB_eq:∀{xs ys:List PV},pvsB xs ys=true→xs=ys
 | [],ys,h=>nilE (P:=λys=>[]=ys) h fT λ_=>rfl
 |x::xs,ys,h=>consE (P:=λys=>x::xs=ys) h fT λy ys h=>band2 h λh1 h2=>by exact rwG (pvB_eq h1) (rwG (pvsB_eq h2) rfl)
end
noncomputable def isShow(K:Frag)(sh:Addr)(p:PV):Bool:=match p with
 |.hole h=>Nat.beq h 998
 |.clos ag body sc x q=>pintK false q λi=>i==0&&lamGood ag sc&&lamBody K sh ag body sc x
 |_=>false
noncomputable def ShowV(X:Fix)(Γ:Addr→Option Obj)(v:Value):Prop:=∃ag body sc x,RepV (X.sw (λ_=>[]) (λ_ _ _=>False)) ⟨Γ,[]⟩ v (.clos ag body sc x (.int 0))∧lamGood ag sc=true∧lamBody X.T.K X.T.sh ag body sc x=true
structure BaseOK(X:Fix):Prop where
 O:FixOK X
 sh:∀Γ v,X.η 998 Γ v↔ShowV X Γ v
theorem clos_sw{X:Fix}{θ θ':Nat→List Nat}{η η':Nat→(Addr→Option Obj)→Value→Prop}{g g':GW}(x:∀a o,g.Γ a=some o→g'.Γ a=some o){v:Value}{ag:Arguments}{body:Expr}{sc:Scope}{y:Str}{i:Int}(r:RepV (X.sw θ η) g v (.clos ag body sc y (.int i))):RepV (X.sw θ' η') g' v (.clos ag body sc y (.int i)):=by
 refine x7_1 r.iC λa oc od fd osl c co hq7=>?_;refine x1_2 hq7 λu he8=>?_;refine rwG he8 ?_;clear he8;intro e
 refine x1_1 e.e13.iI λt he1=>?_;subst he1
 refine x4_3 e.e10 λcd o vs t' i1 i2 i3=>?_
 exact .clos (x _ _ e.e1) e.e2 e.e3 e.e4 e.e5 e.e6 e.e7 e.e8 e.e9 ⟨cd,o,vs,t',i1,x _ _ i2,i3⟩ (x _ _ e.e11) e.e12 (.int _ _)
theorem FixOK.sw{X:Fix}(O:FixOK X){θ:Nat→List Nat}{η:Nat→(Addr→Option Obj)→Value→Prop}(hθ:∀i,θ i≠[]∧(θ i).length≤4096)(hk:KyOK θ)(hb:BytEta η)(hc:∀Γ v,η 998 Γ v→∃a o fd,v=.ref a∧Γ a=some o∧o.data=.func fd):FixOK (X.sw θ η) where
 byt:=hb
 cl:=hc
 th:=hθ
 ky:=hk
 inK:=O.inK
 noP:=O.noP
 glob:=O.glob
 blt:=O.blt
 nolimit:=O.nolimit
 nodigits:=O.nodigits
 dicts:=O.dicts
 code:=O.code
 bmain:=O.bmain
 gP:=O.gP
 sh:=O.sh
theorem Amb.sw{X X':Fix}{d:Nat}{A fe outer F c}(am:Amb X d A fe outer F c):Amb X' d A fe outer F c:=⟨am.fr,am.hd,am.fe,am.fc,am.units,am.depth⟩
section
variable{X:Fix}{I:Ins}(B:BaseOK X)(hI:InsOK I)
theorem ins_eta{i:Nat}(h:500≤i)(h2:i<2000){Γ:Addr→Option Obj}{v:Value}:(X.ins I).η i Γ v↔X.η i Γ v:=by
 show(if i<500 then _ else _)↔_
 rw[if_neg (vL h),if_pos h2]
include B hI
theorem BaseOK.ins:BaseOK (X.ins I) where
 O:=FixOK.sw B.O (λi=>⟨(hI.th i).1,(hI.th i).2.1⟩) hI.ky (λc Γ v hc=>Iff.trans (ins_eta (X:=X) (I:=I) (vE (by decide) (Nat.le_add_right 1000 c)) (by lia)) (B.O.byt c Γ v hc)) λΓ v h=>B.O.cl Γ v ((ins_eta (X:=X) (I:=I) (by decide) (by decide)).mp h)
 sh:=λΓ v=>Iff.trans (ins_eta (X:=X) (I:=I) (by decide) (by decide)) (B.sh Γ v)
end
structure Gives(X:Fix)(n:Nat)(f:Addr)(args:List PV)(res:Option (List Nat)):Prop where
 go:∀{A:Around} {fe:Env} {outer:List Env} {F:Addr} {g:GW} {s:Shared} {v:Value} {vs:List Value} {kx:KX},Amb X n A fe outer F fe→HR X g [] s.heap→FramesOK X g s.heap (fe::outer)→RepV X g v (.old f)→RepL X g vs args→(res=none→kx []=true) →
 wpAny (model X.prog X.w) A (call v vs) (VG X noS (fe::outer) g s λu _ _ _=>∃r t,res=some r∧u=.str (mkS r) t) (PX X noS (fe::outer) F g s kx) s
structure Ent where
 f:Addr
 args:List PV
 res:Option (List Nat)
noncomputable def pmL(K:Frag)(sh:Addr):List PV→List PV→Bool
 | [],ys=>nilK false ys true
 |x::xs,ys=>consK false ys λy ys=>(match x with|.hole h=>if Nat.beq h 998 then isShow K sh y else pvB x y|_=>pvB x y)&&pmL K sh xs ys
noncomputable def entT(e:Ent):Sto→KV→KX→Bool:=λσ k kx=>match e.res with|some r=>k (.str r) σ|none=>kx σ
noncomputable def look(K:Frag)(sh:Addr)(tab:List Ent)(a:Addr)(args:List PV):Option (Sto→KV→KX→Bool):=ifS none (tab.find? λe=>Nat.beq e.f a&&pmL K sh e.args args) λe=>some (entT e)
noncomputable def tabSp(K:Frag)(sh:Addr)(tab:List Ent):PV→List PV→Option (Sto→KV→KX→Bool):=λc args=>
 if isShow K sh c then oneK none args λp=>look K sh tab sh [p,.int 1]else poldK none c λa=>look K sh tab a args
noncomputable def Ent.ok(X:Fix)(n:Nat)(I:Ins)(e:Ent):Prop:=Gives X n e.f (subL I e.args) (e.res.map (den I.th))∧opnL e.args=true
section
variable{X:Fix}{I:Ins}(B:BaseOK X)(hI:InsOK I)
include B in
theorem show_hole{g:GW}{v:Value}{p:PV}(r:RepV X g v p)(h:isShow X.T.K X.T.sh p=true):RepV X g v (.hole 998):=by
 cases p with
 |hole i=>refine rwS (vB h) ?_;exact r
 |clos ag body sc x q=>
  revert r
  refine pintE h fT λi h r=>band3 h λh1 h2 h3=>?_
  obtain rfl:=eq_of_beq h1
  exact .hole (Γ₀:=g.Γ) 998 ((B.sh _ _).mpr ⟨ag,body,sc,x,clos_sw (X:=X) (θ:=X.θ) (η:=X.η) (g:=g) (g':=⟨g.Γ,[]⟩) (λ_ _ e=>e) r,h2,h3⟩) λ_ _ e=>e
 |_=>exact absF h
include B in
theorem pmL_ok{g:GW}:∀{xs ys:List PV} {vs:List Value},pmL X.T.K X.T.sh xs ys=true→RepL X g vs ys→RepL X g vs xs
 | [],ys,vs,h,r=>by
  revert r
  refine nilE h fT λ_ r=>?_
  exact r
 |x::xs,ys,vs,h,r=>by
  revert r
  refine consE h fT λy ys h r=>band2 h λh1 h2=>?_
  refine x2_3 r.i1 λv us he2=>?_;refine rwG he2 ?_;clear he2;intro a b
  refine .cons ?_ (pmL_ok h2 b)
  cases x with
  |hole i=>
   refine iteS h1 (λq hs=>?_) (λ_ hs=>by refine rwG (pvB_eq hs) ?_;exact a)
   refine rwG (vB q) ?_
   exact show_hole B a hs
  |_=>refine rwG (pvB_eq h1) ?_;exact a
include B hI in
theorem look_ok{n:Nat}{tab:List Ent}(ht:∀e∈tab,Ent.ok X n I e){A:Around}{fe:Env}{outer:List Env}{F:Addr}{g:GW}{σ:Sto}{s:Shared}{a:Addr}{v:Value}{vs:List Value}{ps:List PV}{k:KV}{kx:KX}{t:Sto→KV→KX→Bool}(am:Amb (X.ins I) n A fe outer F fe)(R:HR (X.ins I) g σ s.heap)(fs:FramesOK (X.ins I) g s.heap (fe::outer))(r:RepV (X.ins I) g v (.old a))(q:RepL (X.ins I) g vs ps)(hs:look X.T.K X.T.sh tab a ps=some t)(hk:t σ k kx=true) :
  wpAny (model X.prog X.w) A (call v vs) (VG (X.ins I) noS (fe::outer) g s (RV (X.ins I) k)) (PX (X.ins I) noS (fe::outer) F g s kx) s:=by
 refine ifE' hs nS λe he hs=>?_
 obtain rfl:=vC hs
 have hm:(Nat.beq e.f a&&pmL X.T.K X.T.sh e.args ps)=true:=List.find?_some (p:=λe:Ent=>Nat.beq e.f a&&pmL X.T.K X.T.sh e.args ps) he
 refine band2 hm λh1 h2=>?_
 refine x0_2 (ht e (List.mem_of_find?_eq_some he)) λh3 h4=>?_
 obtain rfl:=vB h1
 have q':=pmL_ok (X:=X.ins I) (B.ins hI) h2 q
 have ext:∀a o,g.Γ a=some o→(g.still s.heap).Γ a=some o:=λa o e=>(still_old R e).1
 have R':HR X (g.still s.heap) [] s.heap:=HR.still (X:=X.ins I) (θ:=X.θ) (η:=X.η) R
 have fs':FramesOK X (g.still s.heap) s.heap (fe::outer):=FramesOK.still (X:=X.ins I) (θ:=X.θ) (η:=X.η) fs
 refine x1_2 r.iO λo he1=>?_;refine rwG he1 ?_;clear he1;intro eo
 have q2:RepL X (g.still s.heap) vs (subL I e.args):=by
  clear h2 h3 q he ht hk
  generalize e.args=xs at q' h4
  induction xs generalizing vs with
  |nil=>refine rwG q'.i0 ?_;exact .nil
  |cons p xs ih=>
   refine x2_3 q'.i1 λv us he2=>?_;refine rwG he2 ?_;clear he2;intro a b
   refine x0_2 (vJ (show(opn p&&opnL xs)=true from h4)) λk1 k2=>?_
   exact .cons (rep_to hI ext a k1) (ih b k2)
 have hk':(match e.res with|some r=>k (.str r) σ|none=>kx σ)=true:=hk
 refine wpAny_mono (h3.go (am.sw (X':=X)) R' fs' (.old eo) q2 (kx:=λ_=>e.res.isNone) λhz=>by cases hr:e.res with|none=>rfl|some r=>rw[hr]at hz;exact absS hz) (λu s' hz1=>?_) λx s' px=>?_
 ·refine VG.el hz1 λg₂ σ₂ t₂ R₂ hq4=>?_;refine x2_2 hq4 λr tk e1 e2=>?_;clear hz1
  refine rwG e2 ?_;clear e2
  cases hr:e.res with
  |none=>rw[hr]at e1;exact absN e1
  |some r0=>
   rw[hr]at e1 hk'
   refine rwS (vC e1) ?_
   exact⟨g.back g₂,σ,To.back (X:=X.ins I) (θ:=X.θ) (η:=X.η) R t₂ R₂,HR.back (X:=X.ins I) (θ:=X.θ) (η:=X.η) R t₂.st R₂,.str r0,.str tk rfl,hk'⟩
 ·cases hr:e.res with
  |some r0=>
   rw[hr]at px
   refine x1_1 (PX.kxs px) λ_ hq=>?_
   exact absF hq
  |none=>
   rw[hr]at hk'
   exact PX.back (X:=X.ins I) (θ:=X.θ) (η:=X.η) R fs hk' px
noncomputable def orcL(K:Frag)(sh:Addr)(tab:List Ent):Orc:=λc args σ k kx=>poldK false c λa=>ifS false (look K sh tab a args) λt=>t σ k kx
include B hI in
theorem tabSp_ok{n:Nat}{tab:List Ent}(ht:∀e∈tab,Ent.ok X n I e):SpOK (X.ins I) (n+1) (tabSp X.T.K X.T.sh tab):=by
 intro A fe outer F g σ s v c vs ps k kx t am R fs r q hs hk
 have shw:isShow X.T.K X.T.sh c=true→(oneK none ps λp=>look X.T.K X.T.sh tab X.T.sh [p,.int 1])=some t→wpAny (model X.prog X.w) A (call v vs) (VG (X.ins I) noS (fe::outer) g s (RV (X.ins I) k)) (PX (X.ins I) noS (fe::outer) F g s kx) s:=λhc hs=>by
  refine x1_2 ((show_hole (X:=X.ins I) (B.ins hI) r hc).iH) λΓ₀ e x=>?_
  refine x4_3 (((B.ins hI).sh _ _).mp e) λag body sc y rc h2 h3=>?_
  have rc':RepV (X.ins I) g v (.clos ag body sc y (.int 0)):=clos_sw (X:=X) (g:=⟨Γ₀,[]⟩) (g':=g) x rc
  revert q
  refine oneE hs nS λp hs q=>?_
  have oo:OrcOK (X.ins I) n (orcL X.T.K X.T.sh tab):=by
   intro A fe outer F g σ s v c vs ps k kx am R fs r q h
   revert r
   refine poldE h fT λa h r=>ifE' h fT λt ht' h=>?_
   exact look_ok B hI ht am R fs r q ht' h
  refine x1_2 (lam_eval (D:=0) (p:=p) h3 (cx:=⟨X.T,X.gf,orcL X.T.K X.T.sh tab⟩) rfl (σ:=σ) (k:=k) (kx:=kx)) λbs b1 b2=>?_
  refine callClos_ok (X:=X.ins I) (B.ins hI).O oo am R fs rc' h2 b1 q ((b2 57).trans ?_)
  show ifS false (look X.T.K X.T.sh tab X.T.sh [p,.int 1]) (λt=>t σ k kx)=true
  refine rwG hs ?_;exact hk
 refine iteS hs (λhc hs=>shw hc hs) λ_ hs=>?_
 revert r
 refine poldE hs nS λa hs r=>?_
 exact look_ok B hI ht (am.le (Nat.le_succ _)) R fs r q hs hk
noncomputable def kG(res:Option (List Nat)):KV:=λp _=>ifS false res λr=>pstrK false p λy=>eqL y r
noncomputable def kxG(res:Option (List Nat)):KX:=λ_=>res.isNone
include B hI in
theorem gives_run{G:GfD}(hG:GfOK X.B X.gf G){n:Nat}{tab:List Ent}(ht:∀e∈tab,Ent.ok X n I e){f:Addr}{args:List PV}{res:Option (List Nat)}(ho:opnL args=true)
  (hr:tower X.T X.gf (tabSp X.T.K X.T.sh tab) 30 (.old f) args [] (kG res) (kxG res)=true):Gives X (n+1+30) f (subL I args) (res.map (den I.th)):=by
 refine⟨?_⟩
 intro A fe outer F g s v vs kx am R fs r q hk
 have ext:∀a o,g.Γ a=some o→(g.still s.heap).Γ a=some o:=λa o e=>(still_old R e).1
 have O':=(B.ins hI).O
 have R':HR (X.ins I) (g.still s.heap) [] s.heap:=HR.still (X:=X) R
 have fs':FramesOK (X.ins I) (g.still s.heap) s.heap (fe::outer):=FramesOK.still (X:=X) fs
 refine x1_2 r.iO λo he1=>?_;refine rwG he1 ?_;clear he1;intro eo
 refine wpAny_mono (tower_ok O' (λd=>raise_ok O' (G:=G) hG d) (tabSp_ok B hI ht) 30 (am.sw (X':=X.ins I)) R' fs' (.old eo) (repL_of hI ext ho q) hr) (λu s' hz2=>?_) λx s' px=>?_
 ·refine VG.el hz2 λg₂ σ₂ t₂ R₂ hq4=>?_;refine RV.el hq4 λp rp hp=>?_;clear hz2
  refine ifE' hp fT λr0 e hp=>?_
  revert rp
  refine pstrE hp fT λy hp rp=>?_
  obtain rfl:=eqL_eq hp
  refine x1_1 rp.iS λt he1=>?_;refine rwG he1 ?_;clear he1
  exact⟨g.back g₂,[],To.back (X:=X) R t₂ R₂,HR.back (X:=X) R t₂.st R₂,_,t,by refine rwG e ?_;rfl,rfl⟩
 ·refine PX.back (X:=X) R fs (hk ?_) px
  refine x1_1 (PX.kxs px) λ_ hq=>?_
  have hq:res.isNone=true:=hq
  refine rwG (Option.isNone_iff_eq_none.mp hq) ?_;rfl
end
end
section
noncomputable abbrev Spc:=PV→List PV→Option (Sto→KV→KX→Bool)
structure ShP where
 o:Obj
 fd:FuncData
 body:List Stmt
noncomputable def argsOf(fd:FuncData):List Str:=fd.params.args.map (·.arg)
noncomputable def isInt0(e:Value):Bool:=@Value.casesOn (λ_=>Bool) e false false false (λa0=>false) (λi t=>i==0) (λa0 a1=>false) (λa0 a1=>false) (λa0 a1=>false) (λa0=>false) (λa0=>false) (λa0=>false)
theorem isInt0_eq{v:Value}(h:isInt0 v=true):∃t,v=.int 0 t:=by
 cases v with
 |int i t=>exact⟨t,by exact rwG (eq_of_beq (show(i==0)=true from h)) rfl⟩
 |_=>exact absF h
noncomputable def dfl0(K:Frag)(fd:FuncData):Bool:=ifS false (refV fd.defaults) λt=>ifS false (K.lookup t) λo=>ifS false (seqV o) λvs=>oneK false vs.1.toList isInt0
noncomputable def args2(fd:FuncData):Bool:=twoK false (argsOf fd) λx y=>!eqS x y
structure ShIs(K:Frag)(sh:Addr)(S:ShP):Prop where
 lk:K.lookup sh=some S.o
 fd:S.o.data=.func S.fd
 good:(fnOk K S.fd&&dfl0 K S.fd&&args2 S.fd)=true
 body:S.fd.body=.stmts S.body
theorem dfl0_ok{K:Frag}{fd:FuncData}(h:dfl0 K fd=true):∃t o n tk,fd.defaults=.ref t∧K.lookup t=some o∧o.data=.seq #[.int 0 tk] n:=by
 refine ifE' h fT λt et h=>ifE' h fT λo ho h=>ifE' h fT λvs hv h=>?_
 obtain⟨us,n⟩:=vs
 obtain⟨l⟩:=us
 have e:o.data=.seq ⟨l⟩ n:=seqV_eq hv
 revert e
 refine oneE (l:=l) h fT λv h e=>?_
 refine x1_1 (isInt0_eq h) λtk he1=>?_;subst he1
 exact⟨t,o,n,tk,refV_eq et,ho,e⟩
theorem bindP_len:∀{xs:List Str} {ps:List PV} {bs:List (Str×PV)},bindP xs ps=some bs→xs.length=ps.length
 | [],[],_,_=>rfl
 |x::xs,p::ps,bs,h=>by
  dsimp only[bindP]at h
  cases hr:bindP xs ps with
  |none=>rw[hr]at h;exact absN h
  |some r=>exact rwG List.length_cons (rwG List.length_cons (rwG (bindP_len hr) rfl))
 | [],_::_,_,h=>by exact absN h
 |_::_,[],_,h=>by exact absN h
noncomputable def kGF(res:Option (List Nat)):KF:=λfl _ σ=>match fl with
 |.ret p=>kG res p σ
 |.next=>false
noncomputable def bodyRunS(T:Top)(gf:Addr)(sp:Spc)(S:ShP)(told:PV)(res:Option (List Nat)):Bool:=ifS false (bindP (argsOf S.fd) [told,.int 0]) λbs=>
 execs (lvl ⟨T,gf,tower T gf sp 30⟩ lvlMax) S.body { scope:=S.fd.scope,vars:=bs,up:=[],lam:=lamOf S.fd.scope (argsOf S.fd),q:=Nat.beq T.sh T.sh } [] (kGF res) (kxG res)
section
variable{X:Fix}{I:Ins}(B:BaseOK X)(hI:InsOK I)
include B hI in
theorem givesS_sp{G:GfD}(hG:GfOK X.B X.gf G){S:ShP}(hS:ShIs X.T.K X.T.sh S){n:Nat}{sp:Spc}(hsp:SpOK (X.ins I) n sp){told:PV}{res:Option (List Nat)}(ho:opn told=true)
  (hr:bodyRunS X.T X.gf sp S told res=true):Gives X (n+30+1) X.T.sh [sub I told] (res.map (den I.th)):=by
 refine⟨?_⟩
 intro A fe outer F g s v vs kx am R fs r q hk
 have ext:∀a o,g.Γ a=some o→(g.still s.heap).Γ a=some o:=λa o e=>(still_old R e).1
 have O':=(B.ins hI).O
 have R':HR (X.ins I) (g.still s.heap) [] s.heap:=HR.still (X:=X) R
 have fs':FramesOK (X.ins I) (g.still s.heap) s.heap (fe::outer):=FramesOK.still (X:=X) fs
 refine x1_2 r.iO λo he1=>?_;refine rwG he1 ?_;clear he1;intro eo
 refine x1_2 q.one λv he1=>?_;refine rwG he1 ?_;clear he1;intro rv
 refine band3 hS.good λhf hd h2=>?_
 refine x4_3 (dfl0_ok hd) λt od m tk e1 e2 e3=>?_
 refine ifE' hr fT λbs hbs hr=>?_
 have hl:=bindP_len hbs
 obtain⟨x1,x2,hx,hne⟩:∃x1 x2,argsOf S.fd=[x1,x2]∧x1≠x2:=by
  unfold args2 at h2
  refine twoE h2 fT λx y h=>⟨x,y,rfl,λq=>?_⟩
  subst q
  rw[eqS_self]at h;exact absF h
 have orc:OrcOK (X.ins I) (n+30) (tower X.T X.gf sp 30):=tower_ok O' (λd=>raise_ok O' (G:=G) hG d) hsp 30
 have HX:ExOK (X.ins I) (n+30) (lvl ⟨X.T,X.gf,tower X.T X.gf sp 30⟩ lvlMax):=lvlX_ok O' (λ{_}=>raise_ok O' (G:=G) hG _) rfl rfl orc lvlMax
 have q2:RepL (X.ins I) (g.still s.heap) [v,.int 0 tk] [told,.int 0]:=.cons (rep_of hI ext ho rv) (.cons (.int _ _) .nil)
 refine wpAny_mono (callDef_genB (k:=kG res) (kx:=kxG res) O' (am.sw (X':=X.ins I)) R' fs' (a:=X.T.sh) (vs:=[v,.int 0 tk]) hS.lk hS.fd hf hS.body (by refine rwG (show S.fd.params.args.map (·.arg)=[x1,x2]from hx) ?_;rfl) (λh=>by
   rw[show S.fd.params.args.map (·.arg)=[x1,x2]from hx]at h
   exact bind_dflt (by unfold fnOk at hf;simp only[Bool.and_eq_true]at hf;exact hf.1.1.1.1.1.1.1.1.1.1) hx hne e1 (R'.frz _ _ (R'.base _ _ (O'.inK _ _ e2))) e3 h) ?_) (λu s' hz1=>?_) λx s' px=>?_
 ·intro A₁ env F₁ g₁ s₁ am₁ t₁ mk
  refine wpAny_mono (execs_ok HX am₁ S.body (mk _ bs hbs q2) hr) (λf s₄ hz2=>?_) λe s₄ q=>q
  refine EPost.el hz2 λg₄ σ₄ ρ₄ fp t₄ R₄ _ _ hfl hk=>?_;clear hz2
  cases fp with
  |next=>exact absF hk
  |ret p=>
   cases f with
   |ret v=>exact⟨g₄,σ₄,t₄,R₄,p,hfl,hk,rfl⟩
   |_=>exact hfl.elim
 ·refine VG.el hz1 λg₂ σ₂ t₂ R₂ hq4=>?_;refine RV.el hq4 λp rp hp=>?_;clear hz1
  refine ifE' hp fT λr0 e hp=>?_
  revert rp
  refine pstrE hp fT λy hp rp=>?_
  obtain rfl:=eqL_eq hp
  refine x1_1 rp.iS λt he1=>?_;refine rwG he1 ?_;clear he1
  exact⟨g.back g₂,[],To.back (X:=X) R t₂ R₂,HR.back (X:=X) R t₂.st R₂,_,t,by refine rwG e ?_;rfl,rfl⟩
 ·refine PX.back (X:=X) R fs (hk ?_) px
  refine x1_1 (PX.kxs px) λ_ hq=>?_
  have hq:res.isNone=true:=hq
  refine rwG (Option.isNone_iff_eq_none.mp hq) ?_;rfl
end
end
section
noncomputable def txtP:Option (List Nat)→PV
 |none=>.none
 |some r=>.str r
noncomputable def bigN:Nat:=300
noncomputable def RightV(X:Fix)(Γ:Addr→Option Obj)(v:Value):Prop:=∃(told:PV) (txt:Option (List Nat)),clo told=true∧(∀r,txt=some r→r≠[]∧r.length≤4096∧litR r=true)∧RepV X ⟨Γ,[]⟩ v (.tup [told,txtP txt])∧∃n,n≤bigN∧Gives X n X.T.sh [told] txt
structure RiP where
 o:Obj
 fd:FuncData
 e1:Expr
 gn:Str
 pn:Str
 u1:Nat
 u2:Nat
 q1:Pos
 q2:Pos
 q3:Pos
 q4:Pos
 q5:Pos
 q6:Pos
 q7:Pos
 q8:Pos
 q9:Pos
 q10:Pos
noncomputable def isCls(K:Frag)(x:Str)(gf:Addr):Bool:=ifS false (nsK K x) λv=>ifS false (refV v) λa=>Nat.beq a gf
theorem isCls_eq{K:Frag}{x:Str}{gf:Addr}(h:isCls K x gf=true):nsK K x=some (.ref gf):=ifE' h fT λv e h=>ifE' h fT λa ea h=>by exact rwG e (rwG (refV_eq ea) (rwG (vB h) rfl))
noncomputable def riGood(K:Frag)(gf:Addr)(S:RiP):Bool:=fnOk K S.fd&&nameOk S.gn&&nameOk S.pn&&isGl S.fd.scope S.gn&&isLc S.fd.scope S.pn&&isCls K S.gn gf
noncomputable def RiP.tr(S:RiP):Stmt:=.Try [.Return (some S.e1) S.q1] [.ExceptHandler (some (.Name S.gn S.q2)) none [.Return (some (.Compare (.Subscript (.Name S.pn S.q3) (.Constant (.int 1) S.u1 S.q4) S.q5) [.Is] [.Constant .none S.u2 S.q6] S.q7)) S.q8] S.q9] [] [] S.q10
noncomputable def orc0:Orc:=λ_ _ _ _ _=>false
structure RiIs(K:Frag)(gf ir:Addr)(S:RiP):Prop where
 lk:K.lookup ir=some S.o
 fd:S.o.data=.func S.fd
 good:riGood K gf S=true
 arg:argsOf S.fd=[S.pn]
 body:S.fd.body=.stmts [S.tr]
noncomputable def riRun(T:Top)(gf:Addr)(S:RiP)(ok:Bool):Bool:=
 (lvl ⟨T,gf,tower T gf (tabSp T.K T.sh [⟨T.sh,[.hole 0],if ok then some [symB]else none⟩]) 3⟩ lvlMax).ev S.e1 { scope:=S.fd.scope,vars:=[(S.pn,.tup [.hole 0,if ok then .str [symB]else .none])],up:=[],lam:=lamOf S.fd.scope (argsOf S.fd),q:=Nat.beq 0 1 } [] (λp _=>ok&&ptrueK false p true) (λ_=>!ok)
section
variable{X:Fix}(O:FixOK X){G:GfD}(hG:GfOK X.B X.gf G){d:Nat}{S:RiP}{A:Around}{env fe:Env}{outer:List Env}{F:Addr}{ρ:Fr}{g:GW}{s:Shared}{E:Value→Shared→Prop}
include O
theorem ret_none{a:PV}{σ:Sto}(w:Wh X ρ env (fe::outer) g σ s)(hv:nameP ⟨X.T,X.gf,orc0⟩ S.pn ρ=some (.tup [a,.none])){Q:Flow→Shared→Prop}(hQ:∀v g₂ σ₂ s₂,To X noS (fe::outer) g s g₂ s₂→HR X g₂ σ₂ s₂.heap→v=.bool true→Q (.ret v) s₂) :
  wpAny (model X.prog X.w) A (PySem.execs [.Return (some (.Compare (.Subscript (.Name S.pn S.q3) (.Constant (.int 1) S.u1 S.q4) S.q5) [.Is] [.Constant .none S.u2 S.q6] S.q7)) S.q8] env) Q E s:=by
 rw[arm_execs_cons,arm_exec_Return]
 refine wpAny_bind (wpAny_bind (wpAny_standAt ?_))
 rw[arm_evalOpt_some]
 refine x1_2 (name_val O (A:=A) (pos:=S.q3) rfl w hv) λv1 r1 ev1=>?_
 refine wpAny_bind (wpAny_Compare1 (Subscript_ (ev1 _ _ ?_)))
 refine wpAny_mkInt ?_
 refine x0_2 (item_ok (i:=.int 1) (k:=λp _=>nilP false p true) O (A:=A) (E:=λ_ _=>False) (l:=fe::outer) (S:=noS) (s:={ s with toks:=s.toks+1 }) w.R (v:=v1) (u:=.int 1 s.toks) (o:=.tup [a,.none]) rfl rfl r1 (.int _ _)) λho1 hw=>?_;refine x2_2 ho1 λT id hty hlk=>?_;clear ho1
 refine x1_1 (subscripted_ops (.Constant (.int 1) S.u1 S.q4) v1 (.int 1 s.toks)) λops hops=>?_
 refine tail_any hty hlk (wpAny_mono hw (λy s₆ hy=>?_) λ_ _ q=>q.elim) hops
 refine VG.el hy λg₆ σ₆ t₆ R₇ hq4=>?_;refine RV.el hq4 λp rp hp=>?_;clear hy
 revert rp
 refine nilPE hp fT λ_ rp=>?_
 refine rwG rp.iN ?_
 exact PyProof.Rows.Constant_none (wpAny_is_plain rfl (wpAny_pure (wpAny_pure (hQ _ _ _ _ (To.refl.toks _ |>.trans t₆) R₇ rfl))))
include hG
theorem try_run(am:Amb X d A env (fe::outer) F env)(w:Wh X ρ env (env::fe::outer) g [] s)(g1:nameOk S.gn=true)(g3:isGl ρ.scope S.gn=true)(hcg:nsK X.T.K S.gn=some (.ref X.gf)){a:PV}{ok:Bool}(hv:ok=false→nameP ⟨X.T,X.gf,orc0⟩ S.pn ρ=some (.tup [a,.none]))(e0:wpAny (model X.prog X.w) A (eval S.e1 env) (VG X noS (env::fe::outer) g s (RV X λp _=>ok&&ptrueK false p true)) (PX X noS (env::fe::outer) F g s λ_=>!ok) s)
  {Q:Flow→Shared→Prop} (hQ:∀v g₂ σ₂ s₂,To X noS (env::fe::outer) g s g₂ s₂→HR X g₂ σ₂ s₂.heap→v=.bool true→Q (.ret v) s₂):wpAny (model X.prog X.w) A (PySem.execs [S.tr] env) Q E s:=by
 rw[arm_execs_cons]
 refine wpAny_bind (wpAny_Try_except ?_)
 rw[arm_execs_cons,arm_exec_Return]
 refine wpAny_bind (wpAny_bind (wpAny_standAt ?_))
 rw[arm_evalOpt_some]
 refine wpAny_bind (wpAny_mono e0 (λv s₂ hv=>?_) λe s₂ px=>?_)
 ·refine VG.el hv λg₂ σ₂ t₂ R₂ hq4=>?_;refine RV.el hq4 λp rp hp=>?_;clear hv
  refine band2 hp λ_ hp=>?_
  revert rp
  refine ptrueE hp fT λ_ rp=>?_
  exact wpAny_pure (wpAny_pure (wpAny_pure (hQ _ _ _ _ t₂ R₂ rp.iB)))
 ·refine noteFrame_rel am.fr am.fe am.fc px λtb s₃ x₃=>?_
  refine setFlight_rel (fr:=none) x₃ λs₄ x₄=>?_
  refine XR.el x₄ λg₄ σ₄ ea he0 hst R₄ hxx hF hkx hgn hos=>?_;subst he0
  refine ExcR.el hxx λhle hok' oe ve he hcls hdt hsz hT=>?_;clear hxx
  refine wpAny_handleBy_cons (codeAny_handlers_test ?_) (by intro q;cases q)
  refine x2_3 (glob_ns O R₄) λes ep h1 h2 h3=>?_
  rw[nsK_find O h1 h3]at hcg
  refine Name_function_global w.fr.kind (kind_of w.fr (isGl_eq g3) nofun) (loadGlobal_global (w.fr.glob▸h2) hcg ?_) (nameOk_ok g1).1
  obtain⟨hh,gn,dr,tk,os⟩:=s₄
  refine wpAny_excMatches_sub_self (hG.keeps λb o e=>R₄.frz _ _ (R₄.base _ _ e)).C he hcls (ex_has (b:=true) rfl) ?_
  refine codeAny_handlers_suite (setFlight_rel (fr:=none) x₄ λs₅ x₅=>?_)
  refine XR.el x₅ λg₅ σ₅ ea' e5 hst5 R₅ _ hF5 hkx5 hgn5 hos5=>?_;clear x₅
  have t₅:To X noS (env::fe::outer) g s g₅ s₅:=⟨hst5,hgn5,hos5⟩
  have hf':ok=false:=by
   have hkx5':(!ok)=true:=hkx5
   cases ok with
   |false=>rfl
   |true=>exact absF hkx5'
  exact ret_none O (w.step t₅ R₅) (hv hf') λv g₂ σ₂ s₂ t R e=>wpAny_pure (hQ v g₂ σ₂ s₂ (t₅.trans t) R e)
end
section
variable{X:Fix}(B:BaseOK X)
include B in
theorem right_ok{G:GfD}(hG:GfOK X.B X.gf G){ir:Addr}{S:RiP}(hS:RiIs X.T.K X.gf ir S)(hsh:Nat.beq ir X.T.sh=false)(hr:∀ok,riRun X.T X.gf S ok=true){A:Around}{fe:Env}{outer:List Env}{F:Addr}{g:GW}{s:Shared}{u:Value}{kx:KX}(am:Amb X (bigN+5) A fe outer F fe)(R:HR X g [] s.heap)(fs:FramesOK X g s.heap (fe::outer))(hu:RightV X g.Γ u) :
  wpAny (model X.prog X.w) A (call (.ref ir) [u]) (VG X noS (fe::outer) g s λy _ _ _=>y=.bool true) (PX X noS (fe::outer) F g s kx) s:=by
 refine x2_4 hu λtold txt hc htx ru hq5=>?_;refine x1_2 hq5 λn hn hgv=>?_;clear hu
 obtain⟨ok,hok⟩:∃ok:Bool,(ok=true↔txt.isSome=true)∧ok=txt.isSome:=⟨_,Iff.rfl,rfl⟩
 let I:Ins:=⟨λi=>if i=0 then txt.getD [97]else[97],λ_=>told,0⟩
 have hI:InsOK I:=⟨λi=>by
  by_cases hi:i=0
  rotate_left
  ·show(if i=0 then txt.getD [97]else[97])≠[]∧(if i=0 then txt.getD [97]else[97]).length≤4096∧litR (if i=0 then txt.getD [97]else[97])=true
   refine rwG (if_neg hi) ?_;exact⟨by decide,by decide,by decide⟩
  refine rwG hi ?_;clear hi
  show txt.getD [97]≠[]∧(txt.getD [97]).length≤4096∧litR (txt.getD [97])=true
  cases ht:txt with
  |none=>exact⟨by decide,by decide,by decide⟩
  |some r=>exact htx r ht,λ_=>hc,ky97.of λi hi=>if_neg (by lia)⟩
 have BI:=B.ins hI
 have O:=BI.O
 have ext:∀a o,g.Γ a=some o→(g.still s.heap).Γ a=some o:=λa o e=>(still_old R e).1
 have R':HR (X.ins I) (g.still s.heap) [] s.heap:=HR.still (X:=X) R
 have fs':FramesOK (X.ins I) (g.still s.heap) s.heap (fe::outer):=FramesOK.still (X:=X) fs
 have hden:∀r,txt=some r→den I.th [symB]=r:=λr e=>by
  show(if isLit symB then[symB]else txt.getD [97])++[]=r
  rw[vO,if_neg (by decide),e];rfl
 have ht:∀e∈[(⟨X.T.sh,[.hole 0],if ok then some [symB]else none⟩:Ent)],Ent.ok X n I e:=λe he=>by
  refine rwG (vM he) ?_
  refine⟨?_,rfl⟩
  have e2:Option.map (den I.th) (if ok=true then some [symB]else none)=txt:=by
   refine rwG hok.2 ?_
   cases ht:txt with
   |none=>rfl
   |some r=>exact congrArg some (hden r ht)
  refine rwG e2 ?_;exact hgv
 have orc:OrcOK (X.ins I) (n+1+3) (tower X.T X.gf (tabSp X.T.K X.T.sh [⟨X.T.sh,[.hole 0],if ok then some [symB]else none⟩]) 3):=tower_ok O (λd=>raise_ok O (G:=G) hG d) (tabSp_ok B hI ht) 3
 have H0:LvOK (X.ins I) (n+1+3) (lvl ⟨X.T,X.gf,tower X.T X.gf (tabSp X.T.K X.T.sh [⟨X.T.sh,[.hole 0],if ok then some [symB]else none⟩]) 3⟩ lvlMax):=lvl_ok O rfl orc lvlMax
 have hgood:=hS.good
 unfold riGood at hgood
 refine band6 hgood λhf g1 g2 g3 g4 g5=>?_;clear hgood
 have hx:S.fd.params.args.map (·.arg)=[S.pn]:=hS.arg
 have q2:RepL (X.ins I) (g.still s.heap) [u] [.tup [.hole 0,if ok then .str [symB]else .none]]:=by
  refine .cons (rep_of hI (g:=⟨g.Γ,[]⟩) ext (p:=.tup [.hole 0,if ok then .str [symB]else .none]) (by refine rwG hok.2 ?_;cases txt <;> rfl) ?_) .nil
  have e3:subL I [.hole 0,if ok then .str [symB]else .none]=[told,txtP txt]:=by
   refine rwG hok.2 ?_
   cases ht:txt with
   |none=>rfl
   |some r=>exact congrArg (λz=>[told,PV.str z]) (hden r ht)
  show RepV X ⟨g.Γ,[]⟩ u (.tup (subL I [.hole 0,if ok then .str [symB]else .none]))
  refine rwG e3 ?_;exact ru
 have am0:Amb (X.ins I) (n+1+3+1) A fe outer F fe:=(am.le (by unfold bigN at *;lia)).sw
 refine wpAny_mono (callDef_genB (k:=λp _=>ptrueK false p true) (kx:=λ_=>false) O am0 R' fs' (a:=ir) (vs:=[u]) hS.lk hS.fd hf hS.body (by refine rwG hx ?_;rfl) (λh=>bind_given O R' hf (by refine rwG hx ?_;rfl) h) ?_) (λy s' q=>?_) λx s' px=>?_
 ·intro A₁ env F₁ g₁ s₁ am₁ t₁ mk
  have w:=mk _ [(S.pn,.tup [.hole 0,if ok then .str [symB]else .none])] (by refine rwG hx ?_;rfl) q2
  refine try_run O hG am₁ w g1 g3 (isCls_eq g5) (ok:=ok) (a:=.hole 0) (λhf'=>(nameP_loc g2 (isLc_eq g4)).trans ?_) (H0.ev am₁ w S.e1 (λp _=>ok&&ptrueK false p true) (λ_=>!ok) ?_) λv g₂ σ₂ s₂ t R₂ e=>⟨g₂,σ₂,t.noW,R₂,.bool true,e▸.bool true,rfl,rfl⟩
  ·refine lk_c.trans ((if_pos (eqS_self _)).trans ?_)
   refine rwG hf' ?_;rfl
  ·have h:=hr ok
   unfold riRun at h
   rw[show Nat.beq 0 1=Nat.beq ir X.T.sh from hsh.symm]at h
   exact h
 ·refine VG.el q λg₂ σ₂ t₂ R₂ hq4=>?_;refine RV.el hq4 λp rp hp=>?_
  revert rp
  refine ptrueE hp fT λ_ rp=>?_
  exact⟨g.back g₂,[],To.back (X:=X) R t₂ R₂,HR.back (X:=X) R t₂.st R₂,rp.iB⟩
 ·refine x1_1 (PX.kxs px) λ_ hq=>?_
  exact absF hq
end
end
section
theorem HR.view{X:Fix}{g:GW}{σ:Sto}{h:Heap}(R:HR X g σ h){i:Nat}{a:Addr}{vs:Array Value}{xs:List PV}(hi:g.la[i]?=some a)(hl:h.PlainList a vs)(hr:RepL X g vs.toList xs):HR X g (σ.set i xs) h:=
 R.setList hi ⟨rfl,λ_ _=>rfl⟩ hl hr
noncomputable def pdec(P:Prop):Bool:=@decide P (Classical.propDecidable P)
theorem pdec_iff{P:Prop}:pdec P=true↔P:=by exact@decide_eq_true_iff P (Classical.propDecidable P)
noncomputable def penP(t:Nat):List PV:=[.hole 2000,.hole (2002+t),.hole 2001]
noncomputable def penAt(xs:List PV):Option Nat:=threeK none xs λp1 p2 p3=>pholeK none p1 λa=>pholeK none p2 λh=>pholeK none p3 λc=>if Nat.beq a 2000&&Nat.beq c 2001&&Nat.ble 2002 h then some (h-2002)else none
theorem penAt_eq{xs:List PV}{t:Nat}(h:penAt xs=some t):xs=penP t:=by
 refine threeE (P:=λxs=>xs=penP t) h nS λp1 p2 p3 h=>?_
 refine pholeE (P:=λp1=>[p1,p2,p3]=penP t) h nS λa h=>pholeE (P:=λp2=>[.hole a,p2,p3]=penP t) h nS λb h=>pholeE (P:=λp3=>[.hole a,.hole b,p3]=penP t) h nS λc h=>ifB h nS λhc h=>band3 hc λh1 h2 h3=>?_
 refine rwS (vC h) ?_
 have h3:=vA h3
 refine rwG (vB h1) (rwG (vB h2) ?_)
 unfold penP
 exact rwG (show 2002+(b-2002)=b by lia) rfl
noncomputable def PenVals(n:Nat)(vs:List Value):Prop:=∃a b c ta tb tc,vs=[.int a ta,.int b tb,.int c tc]∧0≤b∧b≤(n:Int)∧0≤c∧c<999979
theorem PenVals.mono{n m:Nat}{vs:List Value}(h:PenVals n vs)(hm:n≤m):PenVals m vs:=by
 refine x3_1 h λa b c hq3=>?_;refine x3_4 hq3 λta tb tc e h1 h2 h3=>?_;clear h
 exact⟨a,b,c,ta,tb,tc,e,h1,by lia,h3⟩
noncomputable def DrawRun(T:Top)(gf dr:Addr):Prop:=∀(orc:Orc) (a b c m:Int) (τ:Sto) (k:KV) (kx:KX),0≤b→b≤900000→0≤c→c<999979→1≤m→m≤16 →
 (∀a' b' d,0≤d→d<m→b≤b'→b'≤b+1→k (.int d) ([.int a',.int b',.int c]::τ)=true)→callP T gf orc (.old dr) [.lst 0,.int m] ([.int a,.int b,.int c]::τ) k kx=true
noncomputable def drawT(m:Int):Sto→KV→KX→Bool:=λσ k _=>consK false σ λxs τ=>ifS false (penAt xs) λt=>Nat.ble t 400&&(List.range m.toNat).all λd=>k (.int (d:Int)) (penP (t+1)::τ)
noncomputable def spD(dr:Nat):PV→List PV→Option (Sto→KV→KX→Bool):=λc args=>poldK none c λa=>twoK none args λp q=>plstK none p λi=>pintK none q λm=>if Nat.beq a dr&&Nat.beq i 0&&decide (1≤m)&&decide (m≤16)then some (drawT m)else none
section
variable{X:Fix}{I:Ins}
theorem pen_to{g:GW}{vs:List Value}{t:Nat}(r:RepL (X.ins I) g vs (penP t)):PenVals (t+I.u) vs:=by
 refine x3_4 r.three λv1 v2 v3 he3=>?_;refine rwG he3 ?_;clear he3;intro ra rb rc
 refine x1_2 ra.iH λ_ ea _=>?_
 refine x1_2 rb.iH λ_ eb _=>?_
 refine x1_2 rc.iH λ_ ec _=>?_
 have pe:∀{i:Nat} {Γ:Addr→Option Obj} {v:Value},2000≤i→(X.ins I).η i Γ v→penη I.u i v:=λ{i Γ v} hi h=>by
  have h':if i<500 then RepV X ⟨Γ,[]⟩ v (I.ho i)else if i<2000 then X.η i Γ v else penη I.u i v:=h
  rwa [if_neg (by lia),if_neg (by lia)]at h'
 have ea:=pe (vD _) ea
 have eb:=pe (by lia) eb
 have ec:=pe (vA rfl) ec
 unfold penη at ea eb ec
 rw[if_pos rfl]at ea
 rw[if_neg (by lia),if_neg (by lia)]at eb
 rw[if_neg (by lia),if_pos rfl]at ec
 refine x2_1 ea λa ta he2=>?_;refine rwG he2 ?_;clear he2;clear ea
 refine x2_3 eb λb tb he2=>?_;refine rwG he2 ?_;clear he2;intro h1 h2;clear eb
 refine x2_3 ec λc tc he2=>?_;refine rwG he2 ?_;clear he2;intro h3 h4;clear ec
 exact⟨a,b,c,ta,tb,tc,rfl,h1,by lia,h3,h4⟩
theorem pen_of{g:GW}{vs:List Value}{t:Nat}(h:PenVals (t+I.u) vs):RepL (X.ins I) g vs (penP t):=by
 refine x3_1 h λa b c hq3=>?_;refine x3_5 hq3 λta tb tc he6=>?_;refine rwG he6 ?_;clear he6;intro h1 h2 h3 h4
 have pe:∀{i:Nat} {v:Value},2000≤i→penη I.u i v→RepV (X.ins I) g v (.hole i):=λ{i v} hi h=>.hole (Γ₀:=λ_=>none) i (show if i<500 then _ else if i<2000 then _ else penη I.u i v by refine rwG (if_neg (by lia)) (rwG (if_neg (by lia)) ?_);exact h) λ_ _ e=>absN e
 refine .cons (pe (vD _) ?_) (.cons (pe (by lia) ?_) (.cons (pe (vA rfl) ?_) .nil))
 ·unfold penη;refine rwG (if_pos rfl) ?_;exact⟨a,ta,rfl⟩
 ·unfold penη;refine rwG (if_neg (by lia)) (rwG (if_neg (by lia)) ?_);exact⟨b,tb,rfl,h1,by lia⟩
 ·unfold penη;refine rwG (if_neg (by lia)) (rwG (if_pos rfl) ?_);exact⟨c,tc,rfl,h3,h4⟩
theorem spD_ok(O:FixOK (X.ins I)){G:GfD}(hG:GfOK X.B X.gf G){dr:Addr}(hr:DrawRun X.T X.gf dr)(hu:I.u≤800000){d:Nat}:SpOK (X.ins I) (d+1) (spD dr):=by
 intro A fe outer F g σ s v c vs ps k kx tt am R fs r q hs h
 revert r
 refine poldE hs nS λa hs r=>?_
 revert q
 refine twoE hs nS λp1 p2 hs=>plstE hs nS λi hs=>pintE hs nS λm hs q=>ifB hs nS λhc hx=>band4 hc λc1 c2 c3 c4=>?_
 obtain rfl:=vB c1
 obtain rfl:=vB c2
 obtain rfl:=vC hx
 have h1:=of_decide_eq_true c3
 have h16:=of_decide_eq_true c4
 clear hs hx hc
 revert R
 refine consE h fT λxs τ h=>ifE' h fT λt e h R=>band2 h λe6 hA=>?_
 obtain rfl:=penAt_eq e
 have e6:=vA e6
 refine x2_3 (rep2 q) λv1 v2 he2=>?_;clear he2;intro r1 r2
 refine x2_5 (RepV.isList R r1 (show(penP t::τ)[0]?=some _ from rfl)) λpen its he2=>?_;clear he2;intro hi _ ql hpl
 refine x3_1 (pen_to ql) λa0 b c0 hq3=>?_;refine x3_5 hq3 λta tb tc hits hb1 hb2 hc1 hc2=>?_
 have R₁:HR (X.ins I) g ([.int a0,.int b,.int c0]::τ) s.heap:=R.view (i:=0) hi hpl (by refine rwG hits ?_;exact .cons (.int _ _) (.cons (.int _ _) (.cons (.int _ _) .nil)))
 have O0:OrcOK (X.ins I) d (λ_ _ _ _ _=>false):=λ{_ _ _ _ _ _ _ _ _ _ _ _ _} _ _ _ _ _ h=>by exact absF h
 refine wpAny_mono (callP_ok O (λ{_}=>raise_ok O (G:=G) hG d) O0 am R₁ fs r q (k:=λp σ'=>pdec (∃a' b' dg,p=.int dg∧0≤dg∧dg<m∧b≤b'∧b'≤b+1∧σ'=[.int a',.int b',.int c0]::τ)) (kx:=kx)
  (hr _ a0 b c0 m τ _ _ hb1 (by lia) hc1 hc2 h1 h16 λa' b' dg x1 x2 x3 x4=>pdec_iff.mpr ⟨a',b',dg,rfl,x1,x2,x3,x4,rfl⟩)) (λuu s' hu2=>?_) λ_ _ q=>q
 refine VG.el hu2 λg₂ σ₂ t₂ R₂ hq4=>?_;refine RV.el hq4 λp rp hp=>?_;clear hu2
 refine x3_6 (pdec_iff.mp hp) λa' b' dg he3=>?_;subst he3;intro x1 x2 x3 x4 he8;subst he8
 have hi₂:=t₂.st.gext.idx hi
 refine x1_2 (R₂.lst 0 pen _ hi₂ rfl) λits₂ hpl₂ ql₂=>?_
 refine⟨g₂,penP (t+1)::τ,t₂,R₂.view (i:=0) hi₂ hpl₂ (pen_of ?_),.int dg,rp,?_⟩
 ·generalize its₂.toList=l at ql₂
  refine x3_4 ql₂.three λ_ _ _ he3=>?_;refine rwG he3 ?_;clear he3;intro a b c
  refine x1_1 a.iI λ_ he1=>?_;refine rwG he1 ?_;clear he1
  refine x1_1 b.iI λ_ he1=>?_;refine rwG he1 ?_;clear he1
  refine x1_1 c.iI λ_ he1=>?_;refine rwG he1 ?_;clear he1
  exact⟨_,_,_,_,_,_,rfl,by lia,by lia,hc1,hc2⟩
 ·have:=(vF hA) dg.toNat (List.mem_range.mpr (by lia))
  rwa [Int.toNat_of_nonneg x1]at this
end
end
section
noncomputable def ConvV(I:Ins)(n:Nat)(p:PV)(I':Ins)(p':PV):Prop:=(∃i,i<n∧p'=.lst i∧p=.lst i)∨(opn p'=true∧opn p=true∧sub I' p'=sub I p)
structure Conv(I:Ins)(vars:List (Str×PV))(τ:Sto)(I':Ins)(vars':List (Str×PV))(τ':Sto):Prop where
 va:∀x p',lk x vars'=some p'→∃p,lk x vars=some p∧ConvV I (τ'.length+1) p I' p'
 len:τ'.length≤τ.length
 ls:∀(i:Nat) (xs':List PV),τ'[i]?=some xs'→∃xs,τ[i]?=some xs∧opnL xs'=true∧opnL xs=true∧subL I' xs'=subL I xs
noncomputable def GW.only(g:GW)(h:Heap)(n:Nat):GW:=⟨λb=>if b∈g.la.drop n then h.get? b else g.Γ b,g.la.take n⟩
theorem take_drop_no{l:List Addr}(h:l.Nodup){n:Nat}{a:Addr}(h1:a∈l.take n):a∉l.drop n:=λh2=>by
 rw[←List.take_append_drop n l]at h
 exact(List.nodup_append.mp h).2.2 a h1 a h2 rfl
section
variable{X:Fix}{I I':Ins}{g g₁:GW}{s s₁:Shared}{l:List Env}{S:Addr→Prop}{t n:Nat}{τ τ':Sto}
theorem only_ext{Y:Fix}{σ:Sto}{h:Heap}(R:HR Y g₁ σ h):∀a o,g₁.Γ a=some o→(g₁.only h n).Γ a=some o:=λa o e=>by
 show(if a∈g₁.la.drop n then h.get? a else g₁.Γ a)=some o
 refine rwG (if_neg (λq=>by have:=(R.laF a (List.mem_of_mem_drop q)).1;rw[e]at this;exact absS this)) ?_;exact e
set_option tactic.hygienic true in
theorem only_to{Y:Fix}{σ:Sto}(h:To Y S l g s g₁ s₁)(R:HR Y g₁ σ s₁.heap)(hn:g.la.length≤n):To Y S l g s (g₁.only s₁.heap n) s₁:=by
 refine x1_2 h.st.la λtt e1 e2=>?_
 refine⟨⟨h.st.size,λa o e=>only_ext R a o (h.st.ext a o e),λa o e=>?_,⟨tt.take (n-g.la.length),?_,λa q=>e2 a (List.mem_of_mem_take q)⟩,h.st.keep⟩,h.gens,h.os⟩
 ·have e':(if a∈g₁.la.drop n then s₁.heap.get? a else g₁.Γ a)=some o:=e
  refine iteS e' ?_ ?_ <;> clear e' <;> intro _ e'
  ·rename_i q
   rw[e1,List.drop_append,List.drop_of_length_le hn,List.nil_append]at q
   exact .inr (e2 a (List.mem_of_mem_drop q))
  ·exact h.st.new a o e'
 ·show g₁.la.take n=_
  exact rwG e1 (rwG List.take_append (rwG (List.take_of_length_le hn) rfl))
theorem To.re{S':Addr→Prop}(h:To (X.ins I) S l g s g₁ s₁)(hS:∀b,S b→S' b):To X S' l g s g₁ s₁:=
 ⟨⟨h.st.size,h.st.ext,h.st.new,h.st.la,λb o e n1 n2 n3=>h.st.keep b o e (λq=>n1 (hS b q)) n2 n3⟩,h.gens,h.os⟩
theorem only_own{h:Heap}{b:Addr}(h1:g₁.Γ b=none)(h2:b∉g₁.la):(g₁.only h n).Γ b=none∧b∉(g₁.only h n).la:=
 ⟨(if_neg (λq=>h2 (List.mem_of_mem_drop q))).trans h1,λhm=>h2 (List.mem_of_mem_take hm)⟩
theorem conv_rep(hI:InsOK I)(hI':InsOK I'){Y:Heap}(R:HR (X.ins I) g₁ (penP t::τ) Y){p p':PV}{v:Value}(hp:ConvV I n p I' p')(r:RepV (X.ins I) g₁ v p):RepV (X.ins I') (g₁.only Y n) v p':=by
 rcases hp with⟨i,hi,rfl,rfl⟩|⟨k1,k2,k3⟩
 ·refine x1_2 r.iL λb he1=>?_;refine rwG he1 ?_;clear he1;intro e
  exact .lst (show(g₁.la.take n)[i]?=some b by refine rwG (List.getElem?_take) (rwG (if_pos hi) ?_);exact e)
 ·exact rep_of hI' (g:=g₁) (only_ext R) k1 (k3▸rep_to hI (λ_ _ e=>e) r k2)
theorem conv_repL(hI:InsOK I)(hI':InsOK I'){Y:Heap}(R:HR (X.ins I) g₁ (penP t::τ) Y):∀{ps ps':List PV} {vs:List Value},opnL ps=true→opnL ps'=true→subL I' ps'=subL I ps→RepL (X.ins I) g₁ vs ps→RepL (X.ins I') (g₁.only Y n) vs ps'
 | [],[],vs,_,_,_,r=>by refine rwG r.i0 ?_;exact .nil
 | [],_::_,_,_,_,h,_=>nomatch h
 |_::_,[],_,_,_,h,_=>nomatch h
 |p::ps,p'::ps',vs,h1,h2,h,r=>by
  refine x2_3 r.i1 λv us he2=>?_;refine rwG he2 ?_;clear he2;intro a b
  refine x0_2 (vJ (show(opn p&&opnL ps)=true from h1)) λa1 a2=>?_
  refine x0_2 (vJ (show(opn p'&&opnL ps')=true from h2)) λb1 b2=>?_
  refine x0_2 (List.cons.inj (show sub I' p'::subL I' ps'=sub I p::subL I ps from h)) λe1 e2=>?_
  exact .cons (conv_rep hI hI' R (.inr ⟨b1,a1,e1⟩) a) (conv_repL hI hI' R a2 b2 e2 b)
theorem only_hr(hI:InsOK I)(hI':InsOK I'){Y:Heap}(R:HR (X.ins I) g₁ (penP t::τ) Y)(hu:t+I.u≤n+I'.u)(hl:τ'.length≤τ.length)(hτ:∀(i:Nat) (xs':List PV),τ'[i]?=some xs'→∃xs,τ[i]?=some xs∧opnL xs'=true∧opnL xs=true∧subL I' xs'=subL I xs) :
  HR (X.ins I') (g₁.only Y (τ'.length+1)) (penP n::τ') Y:=by
 refine⟨λa o e=>?_,λa o e=>only_ext R a o (R.base a o e),?_,λi a xs h1 h2=>?_,R.nod.sublist (List.take_sublist _ _),λa ha=>?_,?_,?_⟩
 ·have e':(if a∈g₁.la.drop (τ'.length+1)then Y.get? a else g₁.Γ a)=some o:=e
  refine iteS e' ?_ ?_ <;> clear e' <;> intro _ e'
  ·exact e'
  ·exact R.frz a o e'
 ·have:=R.len
  refine rwG List.length_take (rwG this (rwG List.length_cons (rwG List.length_cons ?_)))
  lia
 ·have h1':(g₁.la.take (τ'.length+1))[i]?=some a:=h1
  rw[List.getElem?_take]at h1'
  refine iteS h1' ?_ ?_ <;> clear h1' <;> intro _ h1'
  ·cases i with
   |zero=>
    have h2':some (penP n)=some xs:=h2
    refine someI h2' ?_;clear h2';intro hx;refine rwS hx ?_;clear hx
    refine x1_2 (R.lst 0 a _ h1' rfl) λits hpl q=>?_
    exact⟨its,hpl,pen_of ((pen_to q).mono hu)⟩
   |succ i=>
    refine x1_4 (hτ i xs h2) λys e1 k1 k2 k3=>?_
    refine x1_2 (R.lst (i+1) a ys h1' e1) λits hpl q=>?_
    exact⟨its,hpl,conv_repL hI hI' R k2 k1 k3 q⟩
  ·exact absN h1'
 ·have ha':a∈g₁.la.take (τ'.length+1):=ha
  have hm:=List.mem_of_mem_take ha'
  exact⟨(if_neg (take_drop_no R.nod ha')).trans (R.laF a hm).1,(R.laF a hm).2⟩
 ·refine x1_3 R.tab.tab λps t1 t2 t3=>?_
  exact⟨ps,t1,t2,λpos c' e=>let ⟨cd,oc,vs,t,i1,i2,i3⟩:=t3 pos c' e;⟨cd,oc,vs,t,i1,only_ext R _ _ i2,i3⟩⟩
 ·exact(if_neg (λq=>(R.laF _ (List.mem_of_mem_drop q)).2 rfl)).trans R.noP
theorem only_fs{h:Heap}{l:List Env}(x:FramesOK (X.ins I) g₁ h l):FramesOK (X.ins I') (g₁.only h n) h l:=λe he=>
 let ⟨hk,Lc,o,hf,h1,h2,h3,h4⟩:=x e he
 let ⟨z1,z2⟩:=only_own h1 h2
 ⟨hk,Lc,o,hf,z1,z2,h3,h4⟩
theorem only_wh(hI:InsOK I)(hI':InsOK I'){fd:FuncData}{a:Addr}{ρ:Fr}{env:Env}(w:Wh (X.ins I) ρ env l g₁ (penP t::τ) s₁)(hu:t+I.u≤I'.u){vars':List (Str×PV)}(hρ:SameFr (frOf X fd a []) ρ)(hc:Conv I ρ.vars τ I' vars' τ') :
  Wh (X.ins I') (frOf X fd a vars') env l (g₁.only s₁.heap (τ'.length+1)) (penP 0::τ') s₁:=by
 have R:=w.R
 have ext:=only_ext (n:=τ'.length+1) R
 have cv:∀{p p':PV} {v:Value},ConvV I (τ'.length+1) p I' p'→RepV (X.ins I) g₁ v p→RepV (X.ins I') (g₁.only s₁.heap (τ'.length+1)) v p':=λhp r=>conv_rep hI hI' R hp r
 have fr:=w.fr
 have hs0:ρ.scope=fd.scope:=hρ.scope
 refine⟨only_hr hI hI' R (by lia) hc.len hc.ls,only_fs w.fs,?_⟩
 refine x1_2 fr.loc λm hns hm=>?_
 refine x0_2 (only_own (n:=τ'.length+1) (h:=s₁.heap) fr.locOk.1 fr.locOk.2.1) λz1 z2=>?_
 refine⟨fr.kind,fr.glob,fr.blt,λx k e=>fr.names x k (by refine rwG hs0 ?_;exact e),⟨m,hns,λx p' e1 e2=>?_⟩,⟨z1,z2,fr.locOk.2.2⟩,λx p' e=>?_,λx e=>?_,fr.inj,λz b e=>?_,λhq=>fr.shw (by refine rwG hρ.q ?_;exact hq)⟩
 ·refine x1_2 (hc.va x p' e2) λp h1 h2=>?_
  refine x1_2 (hm x p (by refine rwG hs0 ?_;exact e1) h1) λv hv rv=>?_
  exact⟨v,hv,cv h2 rv⟩
 ·rcases e with⟨e1,e2⟩|⟨_,e2⟩
  ·refine x1_2 (hc.va x p' e2) λp h1 h2=>?_
   refine x2_7 (fr.cell x p (.inl ⟨by refine rwG hs0 ?_;exact e1,h1⟩)) λb v c1 c2 c3 c4 c5 c6 c7=>?_
   exact⟨b,v,c1,c2,cv h2 c3,λhm=>c4 (List.mem_of_mem_take hm),c5,λhl=>let ⟨o,ho⟩:=c6 (hρ.lam.trans hl);⟨o,ext _ _ ho⟩,λhl=>(if_neg (λq=>c4 (List.mem_of_mem_drop q))).trans (c7 (hρ.lam.trans hl))⟩
  ·exact absN e2
 ·refine x2_5 (fr.own x (by refine rwG hs0 ?_;exact e)) λb v c1 c2 c4 c5 c7=>?_
  exact⟨b,v,c1,c2,λhm=>c4 (List.mem_of_mem_take hm),c5,λhl=>(if_neg (λq=>c4 (List.mem_of_mem_drop q))).trans (c7 (hρ.lam.trans hl))⟩
 ·refine x0_3 (fr.all z b e) λc2 c4 c5=>?_
  exact⟨c2,λhm=>c4 (List.mem_of_mem_take hm),c5⟩
end
section
variable{X:Fix}{d:Nat}{L:Lvl}(HX:ExOK X d L){A:Around}{fe:Env}{outer:List Env}{F:Addr}{c:Env}{kx:KX}
include HX
theorem execs_app(am:Amb X d A fe outer F c){k:KF}{rest:List Stmt}{Q:Flow→Shared→Prop}{E:Value→Shared→Prop}:∀(ss:List Stmt) {ρ:Fr} {g σ s} (_:Wh X ρ c (fe::outer) g σ s),Internal.execs L ss ρ σ k kx=true →
   (∀f s',EPost X ρ c (fe::outer) g s k f s'→match f with|.next=>wpAny (model X.prog X.w) A (PySem.execs rest c) Q E s'|f=>Q f s')→(∀e s',PX X (WS ρ c) (fe::outer) F g s kx e s'→E e s') →
   wpAny (model X.prog X.w) A (PySem.execs (ss++rest) c) Q E s
 | [],ρ,g,σ,s,w,h,hQ,hE=>hQ .next s ⟨g,σ,ρ,.next,To.refl,w.R,w.fr,.refl,trivial,h⟩
 |st::r,ρ,g,σ,s,w,h,hQ,hE=>by
  rw[List.cons_append,arm_execs_cons]
  refine wpAny_bind (wpAny_mono (HX.ex am w st _ kx h) (λf s₁ q=>?_) hE)
  refine EPost.el q λg₁ σ₁ ρ₁ fp t R₁ fr₁ e₁ hf hk=>?_
  have w₁:=w.writes t R₁ fr₁
  cases f with
  |next=>
   cases fp with
   |next=>exact execs_app am r w₁ hk (λf s' q=>hQ f s' (q.base t e₁)) λe s' q=>hE e s' (q.baseW t e₁)
   |ret=>exact hf.elim
  |ret v=>
   cases fp with
   |next=>exact hf.elim
   |ret p=>exact wpAny_pure (hQ (.ret v) s₁ ⟨g₁,σ₁,ρ₁,.ret p,t,R₁,fr₁,e₁,hf,hk⟩)
  |brk=>exact hf.elim
  |cont=>exact hf.elim
end
noncomputable abbrev Sta:=Ins→List (Str×PV)→Sto→Prop
noncomputable abbrev RetP:=(Addr→Option Obj)→Value→Prop
theorem To.ins{X:Fix}{I:Ins}{S:Addr→Prop}{l:List Env}{g g':GW}{s s':Shared}(t:To X S l g s g' s'):To (X.ins I) S l g s g' s':=⟨⟨t.st.size,t.st.ext,t.st.new,t.st.la,t.st.keep⟩,t.gens,t.os⟩
structure Tr(X:Fix)(fd:FuncData)(a:Addr)(d:Nat)(R:RetP)(n0 m m':Nat)(P Q:Sta)(ss:List Stmt):Prop where
 go:∀{A:Around} {env fe:Env} {outer:List Env} {F:Addr} {g0:GW} {s0:Shared} {g:GW} {s:Shared} {I:Ins} {vars:List (Str×PV)} {τ:Sto} {E:Value→Shared→Prop} {rest:List Stmt} {Post:Flow→Shared→Prop},Amb X d A env (fe::outer) F env→InsOK I→I.u≤m→P I vars τ→To X (WS (frOf X fd a []) env) (env::fe::outer) g0 s0 g s→g0.la.length≤n0+1→Wh (X.ins I) (frOf X fd a vars) env (env::fe::outer) g (penP 0::τ) s →
  (∀I' vars' τ' g' s',To X (WS (frOf X fd a []) env) (env::fe::outer) g0 s0 g' s'→InsOK I'→I'.u≤m'→Q I' vars' τ'→Wh (X.ins I') (frOf X fd a vars') env (env::fe::outer) g' (penP 0::τ') s'→wpAny (model X.prog X.w) A (PySem.execs rest env) Post E s') →
  (∀v I' t τ' g' s',To X (WS (frOf X fd a []) env) (env::fe::outer) g0 s0 g' s'→InsOK I'→t+I'.u≤m'→HR (X.ins I') g' (penP t::τ') s'.heap→R g'.Γ v→Post (.ret v) s') →
  wpAny (model X.prog X.w) A (PySem.execs (ss++rest) env) Post E s
section
variable{X:Fix}{fd:FuncData}{a:Addr}{d:Nat}{R:RetP}{n0 m m₁ m':Nat}{P Q Q':Sta}
theorem Tr.seq{ss ss':List Stmt}(h1:Tr X fd a d R n0 m m₁ P Q ss)(h2:Tr X fd a d R n0 m₁ m' Q Q' ss')(hm:m₁≤m'):Tr X fd a d R n0 m m' P Q' (ss++ss'):=by
 refine⟨?_⟩
 intro A env fe outer F g0 s0 g s I vars τ E rest Post am hI hu hP t0 hg0 st hn hr
 rw[List.append_assoc]
 refine h1.go am hI hu hP t0 hg0 st (λI' vars' τ' g' s' t hI' hu' hQ st'=>?_) λv I' t τ' g' s' to hI' hu' hR hv=>hr v I' t τ' g' s' to hI' (vE hu' hm) hR hv
 exact h2.go am hI' hu' hQ t hg0 st' (λI₂ vars₂ τ₂ g₂ s₂ t₂ hI₂ hu₂ hQ₂ st₂=>hn I₂ vars₂ τ₂ g₂ s₂ t₂ hI₂ hu₂ hQ₂ st₂) λv I₂ t τ₂ g₂ s₂ t₂ hI₂ hu₂ hR hv=>hr v I₂ t τ₂ g₂ s₂ t₂ hI₂ hu₂ hR hv
theorem Tr.pre{P':Sta}{ss:List Stmt}(h:Tr X fd a d R n0 m m' P Q ss)(hp:∀I vars τ,P' I vars τ→P I vars τ):Tr X fd a d R n0 m m' P' Q ss:=
 ⟨by intro A env fe outer F g0 s0 g s I vars τ E rest Post am hI hu hP t0 hg0 st hn hr;exact h.go am hI hu (hp _ _ _ hP) t0 hg0 st hn hr⟩
theorem Tr.post{Q₂:Sta}{ss:List Stmt}(h:Tr X fd a d R n0 m m' P Q ss)(hp:∀I vars τ,Q I vars τ→Q₂ I vars τ):Tr X fd a d R n0 m m' P Q₂ ss:=
 ⟨by intro A env fe outer F g0 s0 g s I vars τ E rest Post am hI hu hP t0 hg0 st hn hr;exact h.go am hI hu hP t0 hg0 st (λI' v' t' g' s' t hI' hu' hQ st'=>hn I' v' t' g' s' t hI' hu' (hp _ _ _ hQ) st') hr⟩
noncomputable def EndOK(X:Fix)(R:RetP)(n:Nat)(Q:Sta)(I:Ins)(n0:Nat)(k:KF):Prop:=∀fl ρ σ,k fl ρ σ=true→∃t τ₁,σ=penP t::τ₁∧t≤n∧(match fl with
 |.next=>∃I' vars' τ',InsOK I'∧t+I.u=I'.u∧Q I' vars' τ'∧Conv I ρ.vars τ₁ I' vars' τ'∧n0≤τ'.length
 |.ret p=>∀g v,RepV (X.ins I) g v p→R g.Γ v)
theorem Tr.run{L:Lvl}{ss:List Stmt}{n:Nat}(hX:∀I,InsOK I→I.u≤m→ExOK (X.ins I) d L)(hm:m+n≤m')
  (h:∀I vars τ,InsOK I→P I vars τ→∃k:KF,EndOK X R n Q I n0 k∧Internal.execs L ss (frOf X fd a vars) (penP 0::τ) k (λ_=>false)=true):Tr X fd a d R n0 m m' P Q ss:=by
 refine⟨?_⟩
 intro A env fe outer F g0 s0 g s I vars τ E rest Post am hI hu hP t0 hg0 st hn hr
 refine x1_2 (h I vars τ hI hP) λk hk hrun=>?_
 refine execs_app (HX:=hX I hI hu) (A:=A) (F:=F) (am.sw (X':=X.ins I)) ss st hrun (λf s' q=>?_) λe s' q=>?_
 ·refine EPost.el q λg₁ σ₁ ρ₁ fp t₁ R₁ fr₁ e₁ hf hk₁=>?_
  refine x2_3 (hk _ _ _ hk₁) λt τ₁ he2=>?_;subst he2;intro ht hend
  have w₁:=st.writes t₁ R₁ fr₁
  have sm:SameFr (frOf X fd a []) ρ₁:=⟨e₁.scope,e₁.up,e₁.lam,e₁.q⟩
  cases f with
  |next=>
   cases fp with
   |ret=>exact hf.elim
   |next=>
    refine x3_5 hend λI' vars' τ' hI' hu' hQ hc hle=>?_
    have hla:g0.la.length≤τ'.length+1:=by lia
    exact hn I' vars' τ' _ s' ((only_to (Y:=X.ins I) (t0.ins.trans t₁) R₁ hla).re λ_ q=>q) hI' (by lia) hQ (only_wh hI hI' w₁ (by lia) sm hc)
  |ret v=>
   cases fp with
   |next=>exact hf.elim
   |ret p=>exact hr v I t τ₁ g₁ s' (t0.trans (To.re t₁ λ_ q=>q)) hI (by lia) R₁ (hend g₁ v hf)
  |brk=>exact hf.elim
  |cont=>exact hf.elim
 ·refine x1_1 (PX.kxs q) λ_ hq=>?_
  exact absF hq
end
end
section
noncomputable def Keep(X:Fix)(g:GW)(s:Shared)(g':GW)(s':Shared):Prop:=∀b o,s.heap.get? b=some o→(∀es n,o.data≠.dict es n)→(∀v,o.data≠.cell v)→Own X g b→s'.heap.get? b=some o∧Own X g' b
theorem keep_of{X:Fix}{S:Addr→Prop}{l:List Env}{g g':GW}{s s':Shared}(t:To X S l g s g' s')(fs:FramesOK X g s.heap l)(hS:∀b,S b→∀o,s.heap.get? b=some o→(∃es n,o.data=.dict es n)∨∃v,o.data=.cell v):Keep X g s g' s':=by
 intro b o e h1 h2 h3
 have nS:¬S b:=λq=>by
  rcases hS b q o e with⟨es,n,q⟩|⟨v,q⟩
  ·exact h1 _ _ q
  ·exact h2 _ q
 refine⟨t.kept h3 nS (λq=>?_) o e,h3.step t.st e⟩
 refine x0_4 (fs.mem q) λ_ _ _ hq3=>?_;refine x1_2 hq3 λo' e' hq5=>?_;refine x2_1 hq5 λes n q'=>?_
 rw[e]at e';refine someI e' ?_;clear e';intro hx;subst hx
 exact h1 _ _ q'
theorem ws_data{X:Fix}{ρ:Fr}{c:Env}{g:GW}{h:Heap}(fr:FrR X g ρ c h):∀b,WS ρ c b→∀o,h.get? b=some o→(∃es n,o.data=.dict es n)∨∃v,o.data=.cell v:=by
 rintro b (rfl|⟨_,z,hz,hc⟩) o e
 ·refine x1_2 fr.loc λm ho1 _=>?_;refine x3_3 ho1 λo' es ep e1 e2 _=>?_;clear ho1
  rw[e]at e1;refine someI e1 ?_;clear e1;intro hx;refine rwG hx ?_;clear hx
  exact .inl ⟨es,ep,e2⟩
 ·refine x0_2 (fr.all z b hc) λho2 _=>?_;refine x2_2 ho2 λv oc e2 e3=>?_;clear ho2
  rw[e]at e2;refine someI e2 ?_;clear e2;intro hx;refine rwG hx ?_;clear hx
  exact .inr ⟨v,e3⟩
theorem keep_ws{X:Fix}{ρ:Fr}{c:Env}{l:List Env}{g g':GW}{σ:Sto}{s s':Shared}(w:Wh X ρ c l g σ s)(t:To X (WS ρ c) l g s g' s'):Keep X g s g' s':=keep_of t w.fs (ws_data w.fr)
theorem Wh.iter{X:Fix}{ρ:Fr}{c:Env}{l:List Env}{g g':GW}{σ σ':Sto}{s s':Shared}{J:Addr}{o:Obj}(w:Wh X ρ c l g σ s)(t:To X (·∈[J]) l g s g' s')(R:HR X g' σ' s'.heap)(ho:s.heap.get? J=some o)(hd:∀es n,o.data≠.dict es n)(hc:∀v,o.data≠.cell v):Wh X ρ c l g' σ' s':=
 w.stepS t R (λq=>by
  have:c.locals=J:=vM q
  refine x1_2 w.fr.loc λm ho3 _=>?_;refine x3_3 ho3 λo' es ep e1 e2 _=>?_;clear ho3
  rw[this,ho]at e1;refine someI e1 ?_;clear e1;intro hx;subst hx;exact hd _ _ e2) (λz a e q=>by
  have:a=J:=vM q
  refine x0_2 (w.fr.all z a e) λho4 _=>?_;refine x2_2 ho4 λv oc e2 e3=>?_;clear ho4
  rw[this,ho]at e2;refine someI e2 ?_;clear e2;intro hx;subst hx;exact hc _ e3) λLf hL q=>by
  have:Lf=J:=vM q
  refine x0_4 (w.fs.mem hL) λ_ _ _ hq3=>?_;refine x1_2 hq3 λo' e' hq5=>?_;refine x2_1 hq5 λes _ q'=>?_
  rw[this,ho]at e';refine someI e' ?_;clear e';intro hx;subst hx;exact hd _ _ q'
theorem To.fresh{X:Fix}{S S':Addr→Prop}{l:List Env}{g g':GW}{s s':Shared}{J:Addr}(t:To X S l g s g' s')(hJ:s.heap.objs.size≤J)(hS:∀b,S b→S' b∨b=J):To X S' l g s g' s':=
 ⟨⟨t.st.size,t.st.ext,t.st.new,t.st.la,λb o e n1 n2 n3=>t.st.keep b o e (λq=>by
  rcases hS b q with q|rfl
  ·exact n1 q
  ·exact absurd (Heap.lt_size e) (vL hJ)) n2 n3⟩,t.gens,t.os⟩
section
variable{X:Fix}{fd:FuncData}{a:Addr}{d:Nat}{R:RetP}
noncomputable def insU(I:Ins)(u:Nat):Ins:=⟨I.th,I.ho,u⟩
theorem insU_ok{I:Ins}{u:Nat}(h:InsOK I):InsOK (insU I u):=⟨h.th,h.ho,h.ky⟩
mutual
theorem sub_insU{I:Ins}{u:Nat}:∀p,sub (insU I u) p=sub I p
 |.tup xs=>congrArg PV.tup (subL_insU xs)
 |.hole i=>rfl
 |.str r=>rfl
 |.none=>rfl
 |.bool _=>rfl
 |.int _=>rfl
 |.lst _=>rfl
 |.old _=>rfl
 |.dct _ _=>rfl
 |.clos .. => rfl
theorem subL_insU{I:Ins}{u:Nat}:∀ps,subL (insU I u) ps=subL I ps
 | []=>rfl
 |p::r=>by rw[subL_c,subL_c,sub_insU p,subL_insU r]
end
noncomputable def opV(n:Nat)(p:PV):Bool:=match p with
 |.lst i=>Nat.blt i n
 |_=>opn p
noncomputable def stOp(vars:List (Str×PV))(τ:Sto):Bool:=vars.all (λx=>opV (τ.length+1) x.2)&&τ.all opnL
theorem lk_mem2{α:Type}{x:Str}{p:α}:∀{vars:List (Str×α)},lk x vars=some p→∃y,(y,p)∈vars
 |(y,q)::r,h=>by
  rw[lk_c]at h
  refine iteS h ?_ ?_ <;> clear h <;> intro _ h
  ·refine someI h ?_;clear h;intro hx;subst hx;exact⟨y,.head _⟩
  ·refine x1_1 (lk_mem2 h) λz hz=>?_;exact⟨z,.tail _ hz⟩
theorem Conv.same{I:Ins}{vars:List (Str×PV)}{τ:Sto}(h:stOp vars τ=true)(u:Nat):Conv I vars τ (insU I u) vars τ:=by
 refine x0_2 (vJ h) λh1 h2=>?_
 refine⟨λx p' e=>⟨p',e,?_⟩,vD _,λi xs e=>⟨xs,e,?_,?_,subL_insU xs⟩⟩
 ·refine x1_1 (lk_mem2 e) λy hy=>?_
  have h3:=(vF h1) _ hy
  cases p' with
  |lst i=>exact .inl ⟨i,vA h3,rfl,rfl⟩
  |_=>exact .inr ⟨h3,h3,sub_insU _⟩
 ·exact(vF h2) _ (vN e)
 ·exact(vF h2) _ (vN e)
noncomputable def SrcEnd(N c0 n0:Nat)(Inv:Sta)(I:Ins)(vars:List (Str×PV))(k:Src→Sto→Bool):Prop:=∀src σ,k src σ=true→∃n t τ₁ I' vars' τ',src=.rng 0 n∧n≤N∧σ=penP t::τ₁∧t≤c0∧InsOK I'∧t+I.u=I'.u∧Inv I' vars' τ'∧Conv I vars τ₁ I' vars' τ'∧n0≤τ'.length
theorem rng_turns{m c0 c N nb:Nat}{Inv:Nat→Sta}{x:Str}{pD:Pos}{body:List Stmt}(hO:∀I,InsOK I→FixOK (X.ins I))(hx:lk x fd.scope.names=some .local)
  (hlen:∀i I vs τ,Inv i I vs τ→τ.length≤nb) (hb:∀i,i<N→Tr X fd a d R nb (m+c0+i*c) (m+c0+(i+1)*c) (λI vars τ=>∃vs,Inv i I vs τ∧vars=put x (.int i) vs) (Inv (i+1)) body)
  {A:Around} {env fe:Env} {outer:List Env} {F:Addr} (am:Amb X d A env (fe::outer) F env) {e:Nat} (he:e≤N) {J:Addr} {RR:Result→Shared→Prop} {g0:GW} {s0:Shared}
  (hret:∀v I' t τ' g' s',To X (λb=>WS (frOf X fd a []) env b∨b=J) (env::fe::outer) g0 s0 g' s'→InsOK I'→t+I'.u≤m+c0+N*c→HR (X.ins I') g' (penP t::τ') s'.heap→R g'.Γ v→RR (.ok (.ret v)) s')
  (hend:∀I' vars' τ' g' s',To X (λb=>WS (frOf X fd a []) env b∨b=J) (env::fe::outer) g0 s0 g' s'→InsOK I'→I'.u≤m+c0+N*c→Inv e I' vars' τ'→Wh (X.ins I') (frOf X fd a vars') env (env::fe::outer) g' (penP 0::τ') s'→RR (.ok .next) s') :
  ∀k i,i+k=e→∀I vars τ g s,To X (λb=>WS (frOf X fd a []) env b∨b=J) (env::fe::outer) g0 s0 g s→InsOK I→I.u≤m+c0+i*c→Inv i I vars τ→Wh (X.ins I) (frOf X fd a vars) env (env::fe::outer) g (penP 0::τ) s→Own X g J→IsRangeIter s.heap J (i:Int) k 1 →
   codeAny (model X.prog X.w) A (.forLoop (.Name x pD) (.ref J) body [] env) RR s:=by
 intro k
 induction k with
 |zero=>
  intro i hi I vars τ g s t0 hI hu hv w own it
  have hie:i=e:=by lia
  subst hie
  have own':∀b∈[J],Own (X.ins I) g b:=λb hb=>by
   have:b=J:=vM hb
   refine rwG this ?_;clear this;exact⟨own.nf,own.nl,own.nP⟩
  refine for_turn (wpAny_mono (next_ok (X:=X.ins I) (hO I hI) (l:=env::fe::outer) (target:=.Name x pD) (src:=.rng (i:Int) 0) (r:=none) am.hd w.R (ws:=[J]) ⟨rfl,it⟩ own' rfl rfl (E:=λ_ _=>False)) (λr s₂ hr=>?_) λ_ _ q=>q.elim)
  refine x0_3 hr λhe0=>?_;refine rwG he0 ?_;clear he0;intro t' R'
  have w':=w.iter t' R' it (by intro es n q;cases q) (by intro v q;cases q)
  refine hend I vars τ g s₂ (t0.trans (To.re t' λb q=>.inr (vM q))) hI (vE hu (Nat.add_le_add_left (Nat.mul_le_mul_right _ he) _)) hv w'
 |succ k ih=>
  intro i hi I vars τ g s t0 hI hu hv w own it
  have own':∀b∈[J],Own (X.ins I) g b:=λb hb=>by
   have:b=J:=vM hb
   refine rwG this ?_;clear this;exact⟨own.nf,own.nl,own.nP⟩
  refine for_turn (wpAny_mono (next_ok (X:=X.ins I) (hO I hI) (l:=env::fe::outer) (target:=.Name x pD) (src:=.rng (i:Int) (k+1)) (r:=some (.int (i:Int),.rng ((i:Int)+1) k)) am.hd w.R (ws:=[J]) ⟨rfl,it⟩ own' rfl rfl (E:=λ_ _=>False)) (λr s₂ hr=>?_) λ_ _ q=>q.elim)
  refine x1_2 hr λv he1=>?_;refine rwG he1 ?_;clear he1;intro hv2;clear hr
  refine wpAny_mono hv2 (λ_ s₃ h3=>?_) λ_ _ q=>q.elim
  refine x1_5 h3 λg₃ t₃ R₃ rv _ it₃=>?_;clear h3
  have w₃:=w.iter t₃ R₃ it (by intro es n q;cases q) (by intro v q;cases q)
  have own₃:Own (X.ins I) g₃ J:=(own' J (.head _)).step t₃.st it
  have hass:assN 3 (.Name x pD) (.int (i:Int)) (frOf X fd a vars)=some (frOf X fd a (put x (.int (i:Int)) vars)):=by
   show(match lk x fd.scope.names with|some .local=>_|some .cell=>_|_=>_)=_
   refine rwG hx ?_;rfl
  refine wpAny_mono (assN_ok (X:=X.ins I) (l:=env::fe::outer) (k:=λρ=>pdec (ρ=frOf X fd a (put x (.int (i:Int)) vars))) (E:=λ_ _=>False) am.hd 3 w₃.fr R₃ hass rv (pdec_iff.mpr rfl)) (λ_ s₄ h4=>?_) λ_ _ q=>q.elim
  refine AssPost.el h4 λρ₄ t₄ R₄ fr₄ same₄ hk=>?_;clear h4
  have hρ:=pdec_iff.mp hk
  subst hρ
  have w₄:=w₃.writes t₄ R₄ fr₄
  have k₄:=keep_ws w₃ t₄
  refine x0_2 (k₄ J _ it₃ (by intro es n q;cases q) (by intro v q;cases q) ⟨own₃.nf,own₃.nl,own₃.nP⟩) λit₄ own₄=>?_
  have t4:To X (λb=>WS (frOf X fd a []) env b∨b=J) (env::fe::outer) g0 s0 g₃ s₄:=(t0.trans (To.re t₃ λb q=>.inr (vM q))).trans (To.re t₄ λb q=>.inl q)
  have hb':=(hb i (by lia)).go (A:=A) (env:=env) (fe:=fe) (outer:=outer) (F:=F) (rest:=[]) (E:=notedBy (model X.prog X.w) A env λe s'=>RR (.error e) s') (Post:=λf s₃=>match f with
     |.next|.cont=>codeAny (model X.prog X.w) A (.forLoop (.Name x pD) (.ref J) body [] env) RR s₃
     |.brk=>RR (.ok .next) s₃
     |.ret v=>RR (.ok (.ret v)) s₃) am hI hu ⟨vars,hv,rfl⟩ To.refl (by refine rwG w₄.R.len (rwG List.length_cons ?_);exact Nat.succ_le_succ (hlen i I vars τ hv)) w₄
  rw[vO]at hb'
  refine hb' (λI' vars' τ' g' s' t' hI' hu' hQ w'=>wpAny_pure ?_) λv I' t τ' g' s' t' hI' hu' hR hv=>?_
  ·refine x0_2 ((keep_of (S:=WS (frOf X fd a []) env) t' (λe he=>w₄.fs e he) λb q=>ws_data (ρ:=frOf X fd a (put x (.int (i:Int)) vars)) w₄.fr b q) J _ it₄ (by intro es n q;cases q) (by intro v q;cases q) ⟨own₄.nf,own₄.nl,own₄.nP⟩) λit₅ own₅=>?_
   refine ih (i+1) (by lia) I' vars' τ' g' s' (t4.trans (t'.mono λb q=>.inl q)) hI' hu' hQ w' own₅ ?_
   have e1:(((i+1:Nat):Int))=(i:Int)+1:=by lia
   refine rwG e1 ?_;exact it₅
  ·refine hret v I' t τ' g' s' (t4.trans (t'.mono λb q=>.inl q)) hI' (vE hu' (Nat.add_le_add_left (Nat.mul_le_mul_right _ (by lia)) _)) hR hv
theorem Tr.forRng{L:Lvl}{cx:Cx}{m c0 c N n0 nb:Nat}{P:Sta}{Inv:Nat→Sta}{x:Str}{pD pos:Pos}{iter:Expr}{body:List Stmt}(hO:∀I,InsOK I→FixOK (X.ins I))(hT:cx.T=X.T)(hL:∀I,InsOK I→I.u≤m→∀{k:Src→Sto→Bool} {ρ:Fr} {σ:Sto} {c:Env} {fe:Env} {outer:List Env} {A:Around} {F:Addr} {g:GW} {s:Shared},Amb (X.ins I) d A fe outer F c→Wh (X.ins I) ρ c (fe::outer) g σ s→evSrc cx L iter ρ σ k (λ_=>false)=true→wpAny (model X.prog X.w) A (eval iter c) (λv s₁=>wpAny (model X.prog X.w) A (pyIter v) (SrcPost (X.ins I) (fe::outer) g s k) (PX (X.ins I) noS (fe::outer) F g s λ_=>false) s₁) (PX (X.ins I) noS (fe::outer) F g s λ_=>false) s)
  (hi:notSet iter=true) (hx:lk x fd.scope.names=some .local)
  (hs:∀I vars τ,InsOK I→P I vars τ→∃k,SrcEnd N c0 n0 (Inv 0) I vars k∧evSrc cx L iter (frOf X fd a vars) (penP 0::τ) k (λ_=>false)=true)
  (hlen:∀i I vs τ,Inv i I vs τ→τ.length≤nb) (hb:∀i,i<N→Tr X fd a d R nb (m+c0+i*c) (m+c0+(i+1)*c) (λI vars τ=>∃vs,Inv i I vs τ∧vars=put x (.int i) vs) (Inv (i+1)) body) :
  Tr X fd a d R n0 m (m+c0+N*c) P (λI vars τ=>∃n,n≤N∧Inv n I vars τ) [.For (.Name x pD) iter body [] pos]:=by
 refine⟨?_⟩
 intro A env fe outer F g0 s0 g s I vars τ E rest Post am hI hu hP t0 hg0 w hn hr
 refine x1_2 (hs I vars τ hI hP) λk hk hrun=>?_
 have hno:∀e s',PX (X.ins I) noS (env::fe::outer) F g s (λ_=>false) e s'→False:=λe s' q=>by
  refine x1_1 (PX.kxs q) λ_ hq=>?_
  exact absF hq
 show wpAny _ A (PySem.execs (.For (.Name x pD) iter body [] pos::rest) env) Post E s
 rw[arm_execs_cons]
 refine wpAny_bind (wpAny_For (wpAny_mono (hL I hI hu (am.sw (X':=X.ins I)) w hrun) (λv s₁ h₁=>wpAny_mono h₁ (λit s₂ h₂=>?_) λe s' q=>(hno e s' q).elim) λe s' q=>(hno e s' q).elim) (λx=>by cases iter <;> first|rfl|(exact absF hi;done)))
 refine SrcPost.el h₂ λJ ws src g₂ σ₂ he5=>?_;refine rwG he5 ?_;clear he5;intro t₂ R₂ it₂ own₂ hk₂;clear h₂
 refine x3_1 (hk _ _ hk₂) λn t τ₁ hq3=>?_;refine x3_6 hq3 λI' vars' τ' he6=>?_;subst he6;intro hn1 he8;subst he8;intro ht hI' hq11;refine x0_4 hq11 λhu' hv hc hle=>?_
 refine x0_2 it₂ λhe0=>?_;subst he0;intro it;clear it₂
 refine x0_2 (own₂ J (.head _)) λownJ geJ=>?_
 have w₂:=w.step t₂ R₂
 have hla:g0.la.length≤τ'.length+1:=by lia
 have w₃:=only_wh hI hI' w₂ (by lia) (⟨rfl,rfl,rfl,rfl⟩:SameFr (frOf X fd a []) (frOf X fd a vars)) hc
 have t₃:To X (λb=>WS (frOf X fd a []) env b∨b=J) (env::fe::outer) g0 s0 (g₂.only s₂.heap (τ'.length+1)) s₂:=(only_to (Y:=X.ins I) ((To.mono t0.ins λb q=>Or.inl q).trans (To.mono t₂ λ_ q=>q.elim)) R₂ hla).re λ_ q=>q
 have own₃:Own X (g₂.only s₂.heap (τ'.length+1)) J:=let ⟨a,b⟩:=only_own (h:=s₂.heap) ownJ.nf ownJ.nl;⟨a,b,ownJ.nP⟩
 have fr:∀{g' s'},To X (λb=>WS (frOf X fd a []) env b∨b=J) (env::fe::outer) g0 s0 g' s'→To X (WS (frOf X fd a []) env) (env::fe::outer) g0 s0 g' s':=λt=>t.fresh (vE t0.st.size geJ) λb q=>q
 have hcc:c0+0*c=c0:=by lia
 refine rng_turns (m:=m) (c0:=c0) (c:=c) (N:=N) hO hx hlen hb am hn1 (g0:=g0) (s0:=s0) (λv I' t τ' g' s' to hI' hu' hR hv=>?_) (λI' vars' τ' g' s' to hI' hu' hQ w'=>?_) n 0 (by lia) I' vars' τ' _ s₂ t₃ hI' (by lia) hv w₃ own₃ it
 ·exact wpAny_pure (hr v I' t τ' g' s' (fr to) hI' hu' hR hv)
 ·exact hn I' vars' τ' g' s' (fr to) hI' hu' ⟨n,hn1,hQ⟩ w'
end
end
section
noncomputable def Out(X:Fix)(out:PV→Prop)(Γ:Addr→Option Obj)(v:Value):Prop:=∃p,out p∧clo p=true∧RepV X ⟨Γ,[]⟩ v p
structure Draws(X:Fix)(n:Nat)(f:Addr)(args:List PV)(c M:Nat)(out:PV→Prop):Prop where
 go:∀{A:Around} {fe:Env} {outer:List Env} {F:Addr} {g:GW} {s:Shared} {v:Value} {vs:List Value} {I:Ins},Amb X n A fe outer F fe→InsOK I→I.u≤M→HR (X.ins I) g [penP 0] s.heap→FramesOK (X.ins I) g s.heap (fe::outer)→RepV (X.ins I) g v (.old f)→RepL (X.ins I) g vs (.lst 0::args) →
 wpAny (model X.prog X.w) A (call v vs) (λu s'=>∃g',To X noS (fe::outer) g s g' s'∧HR (X.ins I) g' [penP c] s'.heap∧Out X out g'.Γ u) (λ_ _=>False) s
section
variable{X:Fix}
theorem Draws.of(hO0:BytEta X.η)(hO:∀I,InsOK I→FixOK (X.ins I)){a:Addr}{o:Obj}{fd:FuncData}{body:List Stmt}(hK:X.T.K.lookup a=some o)(ho:o.data=.func fd)(hf:fnOk X.T.K fd=true)(hb:fd.body=.stmts body){args:List PV}{bs:List (Str×PV)}(hbs:bindP (argsOf fd) (.lst 0::args)=some bs){out:PV→Prop}{c d M:Nat}
  (ht:∀m,m≤M→Tr X fd a d (Out X out) 0 m (m+c) (λI vars τ=>vars=bs∧τ=[]) (λ_ _ _=>False) body):Draws X (d+1) a args c M out:=by
 refine⟨?_⟩
 intro A fe outer F g s v vs I am hI hu R fs r q
 refine x1_2 r.iO λo' he1=>?_;refine rwG he1 ?_;clear he1;intro _
 have O:=hO I hI
 have hl:=(bindP_ok hbs q).1
 refine wpAny_mono (callDef_genV (X:=X.ins I) (kx:=λ_=>false) (RR:=λv g σ=>σ=[penP c]∧Out X out g.Γ v) O (am.sw (X':=X.ins I)) R fs hK ho hf hb hl (λh=>bind_given O R hf hl h) ?_) (λu s' hz1=>?_) λx s' px=>?_
 ·intro A₁ env F₁ g₁ s₁ am₁ t₁ mk
  have w:=mk _ bs hbs q
  have h:=(ht I.u hu).go (A:=A₁) (env:=env) (fe:=fe) (outer:=outer) (F:=F₁) (rest:=[]) (E:=PX (X.ins I) (WS (frOf (X.ins I) fd a []) env) (env::fe::outer) F₁ g₁ s₁ λ_=>false)
   (Post:=λf s₂=>∃g₂ σ₂,To (X.ins I) (WS (frOf (X.ins I) fd a []) env) (env::fe::outer) g₁ s₁ g₂ s₂∧HR (X.ins I) g₂ σ₂ s₂.heap∧(σ₂=[penP c]∧Out X out g₂.Γ (retOf f))∧isRet f=true) (am₁.sw (X':=X)) hI (vD _) ⟨rfl,rfl⟩ To.refl (by refine rwG w.R.len ?_;exact vD _) w
  rw[vO]at h
  refine h (λ_ _ _ _ _ _ _ _ hQ _=>hQ.elim) λv I' t τ' g' s' to hI' hu' hR hv=>?_
  have hla:g₁.la.length≤([]:Sto).length+1:=by refine rwG w.R.len ?_;exact vD _
  have to':To (X.ins I) (WS (frOf (X.ins I) fd a []) env) (env::fe::outer) g₁ s₁ (g'.only s'.heap (([]:Sto).length+1)) s':=((only_to (Y:=X.ins I') to.ins hR hla).re (X:=X) λ_ q=>q).ins
  refine⟨_,[penP c],to',only_hr hI' hI hR (by lia) (Nat.zero_le _) (λi xs e=>absN e),⟨rfl,?_⟩,rfl⟩
  refine x1_3 hv λp h1 h2 h3=>?_;clear hv
  exact⟨p,h1,h2,rep_clo (g:=⟨g'.Γ,[]⟩) (g':=⟨(g'.only s'.heap (([]:Sto).length+1)).Γ,[]⟩) hO0 hO0 (λa vs n e=>only_ext hR a _ e) h3 h2⟩
 ·refine VG.el hz1 λg₂ σ₂ t₂ R₂ hq4=>?_;refine x0_2 hq4 λe h=>?_;clear hz1
  refine rwS e ?_;clear e
  exact⟨g₂,To.re t₂ λ_ q=>q,R₂,h⟩
 ·refine x1_1 (PX.kxs px) λ_ hq=>?_
  exact absF hq
theorem pen_hr{θ₀:Nat→List Nat}{η₀:Nat→(Addr→Option Obj)→Value→Prop}{I J:Ins}{g:GW}{t:Nat}{τ:Sto}{h:Heap}(R:HR ((X.sw θ₀ η₀).ins I) g (penP t::τ) h)(hu:t+I.u≤J.u):HR (X.ins J) (g.only h 1) [penP 0] h:=by
 refine⟨λa o e=>?_,λa o e=>only_ext R a o (R.base a o e),?_,λi a xs h1 h2=>?_,R.nod.sublist (List.take_sublist _ _),λa ha=>?_,?_,?_⟩
 ·have e':(if a∈g.la.drop 1 then h.get? a else g.Γ a)=some o:=e
  refine iteS e' ?_ ?_ <;> clear e' <;> intro _ e'
  ·exact e'
  ·exact R.frz a o e'
 ·refine rwG List.length_take (rwG R.len ?_);show min 1 (τ.length+1)=1;lia
 ·have h1':(g.la.take 1)[i]?=some a:=h1
  rw[List.getElem?_take]at h1'
  split at h1'
  ·obtain rfl:i=0:=by lia
   have h2':some (penP 0)=some xs:=h2
   refine someI h2' ?_;clear h2';intro hx;refine rwS hx ?_;clear hx
   refine x1_2 (R.lst 0 a _ h1' rfl) λits hpl q=>?_
   exact⟨its,hpl,pen_of ((pen_to q).mono (by lia))⟩
  ·exact absN h1'
 ·have ha':a∈g.la.take 1:=ha
  exact⟨(if_neg (take_drop_no R.nod ha')).trans (R.laF a (List.mem_of_mem_take ha')).1,(R.laF a (List.mem_of_mem_take ha')).2⟩
 ·refine x1_3 R.tab.tab λps t1 t2 t3=>?_
  exact⟨ps,t1,t2,λpos c' e=>let ⟨cd,oc,vs,t,i1,i2,i3⟩:=t3 pos c' e;⟨cd,oc,vs,t,i1,only_ext R _ _ i2,i3⟩⟩
 ·exact(if_neg (λq=>(R.laF _ (List.mem_of_mem_drop q)).2 rfl)).trans R.noP
set_option tactic.hygienic true in
theorem draws_call{θ₀:Nat→List Nat}{η₀:Nat→(Addr→Option Obj)→Value→Prop}(hb0:BytEta X.η){n:Nat}{f:Addr}{args:List PV}{c M:Nat}{out:PV→Prop}(D:Draws X n f args c M out)(hc:cloL args=true){I:Ins}(hI:InsOK I)(hbI:BytEta ((X.sw θ₀ η₀).ins I).η)(hbJ:∀J,InsOK J→BytEta (X.ins J).η){A:Around}{fe:Env}{outer:List Env}{F:Addr}{g:GW}{s:Shared}{v:Value}{vs:List Value}{t:Nat}{τ:Sto}
  (am:Amb ((X.sw θ₀ η₀).ins I) n A fe outer F fe) (hu:t+I.u≤M) (R:HR ((X.sw θ₀ η₀).ins I) g (penP t::τ) s.heap) (fs:FramesOK ((X.sw θ₀ η₀).ins I) g s.heap (fe::outer)) (r:RepV ((X.sw θ₀ η₀).ins I) g v (.old f)) (q:RepL ((X.sw θ₀ η₀).ins I) g vs (.lst 0::args)) {E:Value→Shared→Prop} :
  wpAny (model X.prog X.w) A (call v vs) (VG ((X.sw θ₀ η₀).ins I) noS (fe::outer) g s (λu g₂ σ₂ _=>σ₂=penP (t+c)::τ∧Out X out g₂.Γ u)) E s:=by
 let J:Ins:=insU I (t+I.u)
 have hJ:InsOK J:=insU_ok hI
 have R1:=pen_hr (J:=J) R (vD _)
 have ext:=only_ext (n:=1) R
 have fs1:FramesOK (X.ins J) (g.only s.heap 1) s.heap (fe::outer):=only_fs (X:=X.sw θ₀ η₀) (I:=I) (I':=I) fs
 refine x1_2 r.iO λof he1=>?_;refine rwG he1 ?_;clear he1;intro eo
 refine x2_3 q.i1 λw0 us he2=>?_;refine rwG he2 ?_;clear he2;intro r0 q0
 refine x1_2 r0.iL λpn he1=>?_;refine rwG he1 ?_;clear he1;intro e0
 have e0':(g.only s.heap 1).la[0]?=some pn:=by refine rwG (List.getElem?_take) ?_;exact e0
 have q1:RepL (X.ins J) (g.only s.heap 1) us args:=by
  revert q0 hc
  generalize args=ps
  intro hc q0
  clear D q
  induction ps generalizing us with
  |nil=>refine rwG q0.i0 ?_;exact .nil
  |cons p ps ih=>
   refine x2_3 q0.i1 λv vs he2=>?_;refine rwG he2 ?_;clear he2;intro a b
   refine x0_2 (vJ (show(clo p&&cloL ps)=true from hc)) λh1 h2=>?_
   exact .cons (rep_clo hbI (hbJ J hJ) (λa vs n e=>ext a _ e) a h1) (ih _ h2 b)
 refine wpAny_mono (D.go (am.sw (X':=X)) hJ hu R1 fs1 (.old eo) (.cons (.lst e0') q1)) (λu s' hz2=>?_) λ_ _ q=>q.elim
 refine x1_3 hz2 λg' t1 R' hq3=>?_;refine x1_3 hq3 λp h1 h2 h3=>?_;clear hz2
 have hpm:pn∈g.la:=vN e0
 have hla:g'.la=[pn]:=by
  refine x1_2 t1.st.la λtt k1 _=>?_
  have hlen:=R'.len
  have h0:(g.only s.heap 1).la=[pn]:=by
   have hl:=R1.len
   generalize(g.only s.heap 1).la=l at e0' hl
   cases l with
   |nil=>exact absN e0'
   |cons b l=>
    cases l with
    |nil=>refine someI e0' ?_;clear e0';intro hx;refine rwG hx ?_;clear hx;rfl
    |cons b' l=>cases hl
  rw[h0]at k1
  rw[k1]at hlen ⊢
  cases tt with
  |nil=>rfl
  |cons b tt=>cases hlen
 have pnF:g'.Γ pn=none:=(R'.laF pn (by refine rwG hla ?_;exact .head _)).1
 have la0:∀a,a∈g.la→a=pn∨a∈g.la.drop 1:=λa ha=>by
  generalize g.la=l at ha e0
  cases l with
  |nil=>cases ha
  |cons b l=>
   refine someI e0 ?_;clear e0;intro hx;refine rwS hx ?_;clear hx
   rcases vI ha with rfl|h
   ·exact .inl rfl
   ·exact .inr h
 have lst1:∀a,a∈g.la→g'.Γ a=none∨∃vs m,g'.Γ a=some { cls:=.type "list",data:=.seq vs m }:=λa ha=>by
  rcases la0 a ha with rfl|h
  ·exact .inl pnF
  ·refine x1_1 (List.getElem_of_mem ha) λi hq1=>?_;refine x1_1 hq1 λhi e=>?_
   have hi2:i<(penP t::τ).length:=R.len▸hi
   refine x1_2 (R.lst i a _ (by exact rwG (List.getElem?_eq_getElem hi) (rwG e rfl)) (List.getElem?_eq_getElem hi2)) λvs ho1 _=>?_;obtain⟨m,hp⟩:=ho1
   have e1:(g.only s.heap 1).Γ a=_:=(if_pos h).trans hp
   exact .inr ⟨vs,m,t1.st.ext a _ e1⟩
 have ge:GExt g (g.back g'):=⟨λa o e=>by
  have n1:a∉g.la:=λhm=>by have:=(R.laF a hm).1;rw[e]at this;exact absS this
  exact(if_neg n1).trans (t1.st.ext a o (ext a o e)),[],(vO _).symm⟩
 have R2:HR ((X.sw θ₀ η₀).ins I) (g.back g') (penP (t+c)::τ) s'.heap:=by
  refine⟨λa o e=>?_,λa o e=>ge.1 a o (R.base a o e),R.len,λi a xs e1 e2=>?_,R.nod,λa ha=>⟨if_pos ha,(R.laF a ha).2⟩,?_,?_⟩
  ·have e':(if a∈g.la then none else g'.Γ a)=some o:=e
   refine iteS e' ?_ ?_ <;> clear e' <;> intro _ e'
   ·exact absN e'
   ·exact R'.frz a o e'
  ·cases i with
   |zero=>
    have e1':g.la[0]?=some a:=e1
    rw[e0]at e1';refine someI e1' ?_;clear e1';intro hx;refine rwS hx ?_;clear hx
    have e2':some (penP (t+c))=some xs:=e2
    refine someI e2' ?_;clear e2';intro hx;refine rwS hx ?_;clear hx
    refine x1_2 (R'.lst 0 pn _ (by refine rwG hla ?_;rfl) rfl) λits hpl q=>?_
    exact⟨its,hpl,pen_of ((pen_to q).mono (by show c+(t+I.u)≤_;lia))⟩
   |succ i=>
    refine x1_2 (R.lst (i+1) a xs e1 e2) λvs ho1 hr=>?_;refine x1_1 ho1 λn hp=>?_;clear ho1
    have hd:a∈g.la.drop 1:=vN (i:=i) (by rw[List.getElem?_drop,Nat.add_comm];exact e1)
    have e3:(g.only s.heap 1).Γ a=_:=(if_pos hd).trans hp
    exact⟨vs,⟨n,R'.frz a _ (t1.st.ext a _ e3)⟩,repL_mono ge hr⟩
  ·refine x1_3 R'.tab.tab λps h1 h2 h3=>?_
   refine⟨ps,h1,h2,λpos c' e=>?_⟩
   refine x4_4 (h3 pos c' e) λcd o vs tk a1 a2 a3 a4=>?_
   refine⟨cd,o,vs,tk,a1,?_,a3,a4⟩
   show(if cd∈g.la then none else g'.Γ cd)=some o
   rw[if_neg,a2]
   intro hm
   rcases lst1 cd hm with b|⟨_,_,b⟩
   ·rw[a2]at b;exact absS b
   ·rw[a2]at b;refine someI b ?_;clear b;intro hx;subst hx;cases a3
  ·show(if X.P∈g.la then none else g'.Γ X.P)=none
   split
   ·rfl
   ·exact R'.noP
 have t2:To ((X.sw θ₀ η₀).ins I) noS (fe::outer) g s (g.back g') s':=by
  refine⟨⟨t1.st.size,ge.1,λa o e=>?_,⟨[],(vO _).symm,λ_ hm=>(List.not_mem_nil hm).elim⟩,λb o e n1 n2 n3=>t1.st.keep b o e n1 (λhm=>n2 (List.mem_of_mem_take hm)) n3⟩,t1.gens,t1.os⟩
  have e':(if a∈g.la then none else g'.Γ a)=some o:=e
  refine iteS e' ?_ ?_ <;> clear e' <;> intro _ e'
  ·exact absN e'
  ·rename_i n
   rcases t1.st.new a o e' with q|q
   ·exact .inl ((if_neg (λm=>n (List.mem_of_mem_drop m))).symm.trans q)
   ·exact .inr q
 refine⟨g.back g',_,t2,R2,rfl,p,h1,h2,rep_clo (g:=⟨g'.Γ,[]⟩) (g':=⟨(g.back g').Γ,[]⟩) hb0 hb0 (λa vs n e=>?_) h3 h2⟩
 show(if a∈g.la then none else g'.Γ a)=_
 rw[if_neg]
 ·exact e
 ·intro hm
  rcases lst1 a hm with b|⟨_,_,b⟩
  ·rw[e]at b;exact absS b
  ·rw[e]at b
   have h:(Value.type "tuple":Value)=Value.type "list":=congrArg Obj.cls (vC b)
   exact absurd h (by decide +kernel)
end
end
section
noncomputable def spOr(sp sp':Spc):Spc:=λc args=>match sp c args with
 |some t=>some t
 |none=>sp' c args
set_option tactic.hygienic true in
theorem spOr_ok{X:Fix}{d:Nat}{sp sp':Spc}(h:SpOK X d sp)(h':SpOK X d sp'):SpOK X d (spOr sp sp'):=by
 intro A fe outer F g σ s v c vs ps k kx t am R fs r q hs ht
 unfold spOr at hs
 split at hs
 ·rename_i t' e
  refine someI hs ?_;clear hs;intro hx;subst hx
  exact h am R fs r q e ht
 ·exact h' am R fs r q hs ht
noncomputable def dcall(c:Nat)(K:(PV→Bool)→Bool):Sto→KV→KX→Bool:=λσ k _=>consK false σ λxs τ=>ifS false (penAt xs) λt=>Nat.ble t 400&&K λp=>k p (penP (t+c)::τ)
noncomputable def allOut(out:PV→PV→Prop)(f:PV→Bool):Bool:=pdec (∀a b,out a b→f (.tup [a,b])=true)
noncomputable def spPh(ph:Addr)(c:Nat)(Ks:List PV)(out:PV→PV→PV→Prop):Spc:=λf args=>poldK none f λa=>twoK none args λp q=>plstK none p λi=>if Nat.beq a ph&&Nat.beq i 0&&Ks.any (λK=>pvB K q)then some (dcall c (allOut (out q)))else none
noncomputable def spWay(c:Nat)(ws:List Addr):Spc:=λf args=>poldK none f λa=>oneK none args λp=>plstK none p λi=>if ws.any (Nat.beq a)&&Nat.beq i 0 then some (dcall c λf=>f (.hole 600))else none
section
variable{X:Fix}{θ₀:Nat→List Nat}{η₀:Nat→(Addr→Option Obj)→Value→Prop}
theorem dcall_ok(hb0:BytEta X.η){n:Nat}{f:Addr}{args:List PV}{c M:Nat}{out:PV→Prop}(D:Draws X n f args c M out)(hc:cloL args=true){I:Ins}(hI:InsOK I)(hbI:BytEta ((X.sw θ₀ η₀).ins I).η)(hbJ:∀J,InsOK J→BytEta (X.ins J).η){A:Around}{fe:Env}{outer:List Env}{F:Addr}{g:GW}{s:Shared}{v:Value}{vs:List Value}{σ:Sto}{k:KV}{kx:KX}{K:(PV→Bool)→Bool}
  (hK:∀{g:GW} {u:Value} {f:PV→Bool},K f=true→Out X out g.Γ u→∃p,RepV ((X.sw θ₀ η₀).ins I) g u p∧f p=true)
  (am:Amb ((X.sw θ₀ η₀).ins I) n A fe outer F fe) (hu:I.u+400≤M) (R:HR ((X.sw θ₀ η₀).ins I) g σ s.heap) (fs:FramesOK ((X.sw θ₀ η₀).ins I) g s.heap (fe::outer)) (r:RepV ((X.sw θ₀ η₀).ins I) g v (.old f)) (q:RepL ((X.sw θ₀ η₀).ins I) g vs (.lst 0::args)) (h:dcall c K σ k kx=true) :
  wpAny (model X.prog X.w) A (call v vs) (VG ((X.sw θ₀ η₀).ins I) noS (fe::outer) g s (RV ((X.sw θ₀ η₀).ins I) k)) (PX ((X.sw θ₀ η₀).ins I) noS (fe::outer) F g s kx) s:=by
 revert R
 refine consE h fT λxs τ h=>ifE' h fT λt e h R=>band2 h λh1 h2=>?_
 obtain rfl:=penAt_eq e
 have h1:=vA h1
 refine wpAny_mono (draws_call hb0 D hc hI hbI hbJ am (by lia) R fs r q) (λu s' hu=>?_) λ_ _ q=>q
 refine VG.el hu λg₂ σ₂ t₂ R₂ hq4=>?_;refine x0_2 hq4 λhe4=>?_;subst he4;intro ho;clear hu
 refine x1_2 (hK h2 ho) λp hp hk=>?_
 exact⟨g₂,_,t₂,R₂,p,hp,hk⟩
theorem spPh_ok(hb0:BytEta X.η)(hbJ:∀J,InsOK J→BytEta (X.ins J).η){n:Nat}{ph:Addr}{c M:Nat}{Ks:List PV}{out:PV→PV→PV→Prop}(D:∀K∈Ks,clo K=true∧Draws X n ph [K] c M λp=>∃a b,out K a b∧p=.tup [a,b]){I:Ins}(hI:InsOK I)(hu:I.u+400≤M):SpOK (X.ins I) n (spPh ph c Ks out):=by
 intro A fe outer F g σ s v f vs ps k kx t am R fs r q hs ht
 revert r
 refine poldE hs nS λa hs r=>?_
 revert q
 refine twoE hs nS λp1 p2 hs=>plstE hs nS λi hs q=>ifB hs nS λhc hx=>band3 hc λc1 c2 c3=>?_
 obtain rfl:=vB c1
 obtain rfl:=vB c2
 obtain rfl:=vC hx
 refine x1_2 (vG c3) λK hK e=>?_
 obtain rfl:=pvB_eq e
 refine x0_2 (D K hK) λd1 d2=>?_
 refine dcall_ok (θ₀:=X.θ) (η₀:=X.η) hb0 d2 (by show(clo K&&true)=true;refine rwG d1 ?_;rfl) hI (hbJ I hI) hbJ (λ{g u f} hf ho=>?_) am hu R fs r q ht
 refine x1_3 ho λp ho1 hcl rp=>?_;clear ho;refine x2_2 ho1 λa b hab he3=>?_;subst he3;clear ho1
 exact⟨_,rep_clo (g:=⟨g.Γ,[]⟩) (g':=g) hb0 (hbJ I hI) (λ_ _ _ e=>e) rp hcl,pdec_iff.mp hf a b hab⟩
theorem spWay_ok(hb0:BytEta X.η)(hbJ:∀J,InsOK J→BytEta (X.ins J).η)(hbI:∀I,InsOK I→BytEta ((X.sw θ₀ η₀).ins I).η){n c M:Nat}{ws:List Addr}{out:PV→Prop}(D:∀w∈ws,Draws X n w [] c M out)(h6:∀Γ v,Out X out Γ v→η₀ 600 Γ v){I:Ins}(hI:InsOK I)(hu:I.u+400≤M):SpOK ((X.sw θ₀ η₀).ins I) n (spWay c ws):=by
 intro A fe outer F g σ s v f vs ps k kx t am R fs r q hs ht
 revert r
 refine poldE hs nS λa hs r=>?_
 revert q
 refine oneE hs nS λp1 hs=>plstE hs nS λi hs q=>ifB hs nS λhc hx=>band2 hc λc1 c2=>?_
 refine x1_2 (vG c1) λw hw e=>?_
 obtain rfl:=vB e
 obtain rfl:=vB c2
 obtain rfl:=vC hx
 refine dcall_ok (θ₀:=θ₀) (η₀:=η₀) hb0 (D _ hw) rfl hI (hbI I hI) hbJ (λ{g u f} hf ho=>?_) am hu R fs r q ht
 exact⟨_,.hole (Γ₀:=g.Γ) 600 ((ins_eta (X:=X.sw θ₀ η₀) (I:=I) (vA rfl) (vA rfl)).mpr (h6 _ _ ho)) λ_ _ e=>e,hf⟩
end
noncomputable def stB:List (List PV×List PV)→Sto→Bool
 | [],_=>true
 |e::r,σ=>consK false σ λxs σ=>pvsB e.1 xs&&stB r σ
theorem stB_ok:∀{ls:List (List PV×List PV)} {τ:Sto},stB ls τ=true→ls.length≤τ.length∧∀(i:Nat) (xs':List PV),(ls.map λe=>e.2)[i]?=some xs'→∃xs,τ[i]?=some xs∧(xs,xs')∈ls
 | [],_,_=>⟨Nat.zero_le _,λi xs' e=>by exact absN e⟩
 |(ys,ys')::r,τ,h=>by
  refine consE h fT λxs τ h=>band2 h λh1 h2=>?_
  refine rwS (pvsB_eq h1) ?_
  refine x0_2 (stB_ok h2) λa b=>?_
  refine⟨Nat.succ_le_succ a,λi xs' e=>?_⟩
  cases i with
  |zero=>refine someI e ?_;clear e;intro hx;subst hx;exact⟨ys,rfl,.head _⟩
  |succ i=>refine x1_2 (b i xs' e) λxs e1 m=>?_;exact⟨xs,e1,.tail _ m⟩
end
section
noncomputable abbrev nPen:Str:=Str.ofString "pen"
noncomputable abbrev nKeys:Str:=Str.ofString "keys"
noncomputable abbrev nFound:Str:=Str.ofString "found"
noncomputable abbrev nText:Str:=Str.ofString "text"
noncomputable abbrev nLast:Str:=Str.ofString "last"
noncomputable abbrev nTurn:Str:=Str.ofString "turn"
noncomputable abbrev nBr:Str:=Str.ofString "branches"
mutual
theorem sub_clo{I:Ins}:∀{p:PV},clo p=true→sub I p=p
 |.tup xs,h=>congrArg PV.tup (subL_clo (xs:=xs) h)
 |.none,_=>rfl
 |.bool _,_=>rfl
 |.int _,_=>rfl
 |.str r,h=>congrArg PV.str (den_lit h)
 |.lst _,h=>by cases h
 |.old _,h=>by cases h
 |.dct _ _,h=>by cases h
 |.clos ..,h=>by cases h
 |.hole i,h=>band2 h λh1 _=>by
  rw[sub_h,if_neg]
  intro h2
  have h1:=vA h1
  have h2:i+1≤500:=vA h2
  lia
theorem subL_clo{I:Ins}:∀{xs:List PV},cloL xs=true→subL I xs=xs
 | [],_=>rfl
 |p::r,h=>band2 h λh1 h2=>by rw[subL_c,sub_clo h1,subL_clo h2]
end
noncomputable def KP(z:Nat):PV:=.tup ((KL.getD z []).map λk=>.str (keyT k))
noncomputable def frN(fd:FuncData)(vars:List (Str×PV)):Fr:={ scope:=fd.scope,vars:=vars,up:=[],lam:=lamOf fd.scope (argsOf fd),q:=false }
noncomputable def rngK(N c:Nat)(τ:Sto):Src→Sto→Bool:=λsrc σ=>match src with
 |.rng a n=>(a==0)&&Nat.ble n N&&consK false σ λxs τ'=>(ifS false (penAt xs) λt=>Nat.ble t c&&stB (τ.map λl=>(l,l)) τ')
 |_=>false
noncomputable def cln(p:PV):Bool:=@PV.rec (λ_=>Bool) (λ_=>Bool) true (λb=>true) (λi=>true) (λr=>true) (λ_ ih=>ih) (λ_=>false) (λa=>false) (λ_ _ _ _=>false) (λ_ _ _ _ _ _=>false) (λi=>Nat.blt i 500||(Nat.ble 1000 i&&Nat.blt i 1128)) true (λ_ _ ihp ihr=>ihp&&ihr) p
noncomputable def clnL(l:List PV):Bool:=@PV.rec_1 (λ_=>Bool) (λ_=>Bool) true (λb=>true) (λi=>true) (λr=>true) (λ_ ih=>ih) (λ_=>false) (λa=>false) (λ_ _ _ _=>false) (λ_ _ _ _ _ _=>false) (λi=>Nat.blt i 500||(Nat.ble 1000 i&&Nat.blt i 1128)) true (λ_ _ ihp ihr=>ihp&&ihr) l
mutual
noncomputable def kp(hk tk:Nat→Bool):PV→Bool
 |.tup xs=>kpL hk tk xs
 |.hole i=>(hk i||Nat.ble 500 i)&&Nat.blt i 2000
 |.str r=>r.all λc=>isLit c||tk (c-symB)
 |.lst _=>false
 |.dct _ _=>false
 |.clos .. => false
 |_=>true
noncomputable def kpL(hk tk:Nat→Bool):List PV→Bool
 | []=>true
 |p::r=>kp hk tk p&&kpL hk tk r
end
section
variable{hk tk:Nat→Bool}{I I':Ins}(hh:∀i,hk i=true→I'.ho i=I.ho i)(ht:∀i,tk i=true→I'.th i=I.th i)
include ht in
theorem kpR_ok:∀{r:List Nat},(r.all λc=>isLit c||tk (c-symB))=true→den I'.th r=den I.th r
 | [],_=>rfl
 |c::r,h=>by
  refine band2 (show((isLit c||tk (c-symB))&&(r.all λc=>isLit c||tk (c-symB)))=true from h) λh1 h2=>?_
  show(if isLit c then[c]else I'.th (c-symB))++den I'.th r=(if isLit c then[c]else I.th (c-symB))++den I.th r
  refine rwG (kpR_ok h2) ?_
  by_cases q:isLit c=true
  ·exact rwG (if_pos q) (rwG (if_pos q) rfl)
  ·rw[if_neg q,if_neg q,ht]
   rcases vK h1 with h|h
   ·exact absurd h q
   ·exact h
include hh ht
mutual
theorem kp_ok:∀{p:PV},kp hk tk p=true→sub I' p=sub I p∧opn p=true
 |.tup xs,hp=>let h:=kpL_ok (xs:=xs) hp;⟨congrArg PV.tup h.1,h.2⟩
 |.none,_=>⟨rfl,rfl⟩
 |.bool _,_=>⟨rfl,rfl⟩
 |.int _,_=>⟨rfl,rfl⟩
 |.str r,hp=>⟨congrArg PV.str (kpR_ok ht hp),rfl⟩
 |.lst _,h=>absF h
 |.old _,_=>⟨rfl,rfl⟩
 |.dct _ _,h=>absF h
 |.clos ..,h=>absF h
 |.hole i,hp=>band2 (a0:=hk i||Nat.ble 500 i) hp λh1 h2=>⟨by
  show(if Nat.blt i 500 then I'.ho i else .hole i)=if Nat.blt i 500 then I.ho i else .hole i
  by_cases q:Nat.blt i 500=true
  ·exact rwG (if_pos q) (rwG (if_pos q) (rwG (hh i ((vK h1).resolve_right λz=>absurd (vA z) (Nat.not_le.mpr (vA q)))) rfl))
  ·exact rwG (if_neg q) (rwG (if_neg q) rfl),h2⟩
theorem kpL_ok:∀{xs:List PV},kpL hk tk xs=true→subL I' xs=subL I xs∧opnL xs=true
 | [],_=>⟨rfl,rfl⟩
 |p::r,hp=>band2 (show(kp hk tk p&&kpL hk tk r)=true from hp) λh1 h2=>by
  have a:=kp_ok h1
  have b:=kpL_ok h2
  exact⟨by rw[subL_c,subL_c,a.1,b.1],by show(opn p&&opnL r)=true;rw[a.2,b.2];rfl⟩
end
end
section
variable{I I':Ins}
mutual
theorem cln_ok(hI:InsOK I):∀{p:PV},cln p=true→clo (sub I p)=true∧opn p=true
 |.tup xs,h=>clnL_ok hI (xs:=xs) h
 |.none,_=>⟨rfl,rfl⟩
 |.bool _,_=>⟨rfl,rfl⟩
 |.int _,_=>⟨rfl,rfl⟩
 |.str r,_=>⟨den_litR (λi=>(hI.th i).2.2) r,rfl⟩
 |.lst _,h=>by cases h
 |.old _,h=>by cases h
 |.dct _ _,h=>by cases h
 |.clos ..,h=>by cases h
 |.hole i,h=>by
  have h:(Nat.blt i 500||(Nat.ble 1000 i&&Nat.blt i 1128))=true:=h
  show clo (if Nat.blt i 500 then I.ho i else .hole i)=true∧_
  by_cases q:Nat.blt i 500=true
  ·rw[if_pos q];exact⟨hI.ho i,Nat.ble_eq_true_of_le (vE (vA q) (vA rfl))⟩
  ·rw[if_neg q]
   exact(vK h).elim (λh=>absurd h q) λh=>⟨h,Nat.ble_eq_true_of_le (vE (vA (vJ h).2) (vA rfl))⟩
theorem clnL_ok(hI:InsOK I):∀{xs:List PV},clnL xs=true→cloL (subL I xs)=true∧opnL xs=true
 | [],_=>⟨rfl,rfl⟩
 |p::r,h=>band2 h λh1 h2=>by
  refine x0_2 (cln_ok hI h1) λa b=>?_
  refine x0_2 (clnL_ok hI h2) λc d=>?_
  exact⟨by show(clo (sub I p)&&cloL (subL I r))=true;refine rwG a (rwG c ?_);rfl,by show(opn p&&opnL r)=true;refine rwG b (rwG d ?_);rfl⟩
end
end
noncomputable def rOut(X:Fix)(p:PV):Prop:=∃(told:PV) (txt:Option (List Nat)),p=.tup [told,txtP txt]∧(∀r,txt=some r→r≠[]∧r.length≤4096)∧∃n,n≤bigN∧Gives X n X.T.sh [told] txt
theorem rOut_right{X:Fix}{Γ:Addr→Option Obj}{v:Value}(h:Out X (rOut X) Γ v):RightV X Γ v:=by
 refine x1_3 h λp ho1 hc rv=>?_;clear h;refine x2_3 ho1 λtold txt he2=>?_;subst he2;intro h1 h2;clear ho1
 refine x0_2 (vJ (show(clo told&&(clo (txtP txt)&&true))=true from hc)) λc1 c2=>?_
 refine⟨told,txt,c1,λr e=>⟨(h1 r e).1,(h1 r e).2,?_⟩,rv,h2⟩
 subst e
 exact(vJ c2).1
noncomputable def symN:List Nat→Nat
 | []=>0
 |c::r=>(if isLit c then 0 else 1)+symN r
theorem den_len2{θ:Nat→List Nat}{n:Nat}(h:∀i,(θ i).length≤n):∀r:List Nat,(den θ r).length≤r.length+symN r*n
 | []=>Nat.zero_le _
 |c::r=>by
  show((if isLit c then[c]else θ (c-symB))++den θ r).length≤_
  rw[List.length_append,List.length_cons,show symN (c::r)=(if isLit c then 0 else 1)+symN r from rfl]
  have ih:=den_len2 h r
  have hc:=h (c-symB)
  split
  ·rw[Nat.zero_add];simp only[List.length_singleton];lia
  ·rw[Nat.add_mul];lia
theorem den_ne2{θ:Nat→List Nat}(h:∀i,θ i≠[]):∀{r:List Nat},r≠[]→den θ r≠[]
 | [],hr=>absurd rfl hr
 |c::r,_=>by
  show(if isLit c then[c]else θ (c-symB))++den θ r≠[]
  intro q
  have:=(List.append_eq_nil_iff.mp q).1
  split at this
  ·cases this
  ·exact h _ this
noncomputable def rightBS(T:Top)(gf:Addr)(sp:Spc)(S:ShP)(p:PV):Bool:=ptupK false p λxs=>twoK false xs λtold t=>cln told&&@PV.rec (λ_=>Bool) (λ_=>PUnit) (bodyRunS T gf sp S told none) (λ_=>false) (λ_=>false) (λr=>!r.isEmpty&&Nat.ble (r.length+symN r*300) 4096&&bodyRunS T gf sp S told (some r)) (λ_ _=>false) (λ_=>false) (λ_=>false) (λ_ _ _ _=>false) (λ_ _ _ _ _ _=>false) (λ_=>false) ⟨⟩ (λ_ _ _ _=>⟨⟩) t
theorem rightBS_ok{X:Fix}(B:BaseOK X){G:GfD}(hG:GfOK X.B X.gf G){S:ShP}(hS:ShIs X.T.K X.T.sh S){I:Ins}(hI:InsOK I)(hl:∀i,(I.th i).length≤300){n:Nat}(hn:n≤200){sp:Spc}(hsp:SpOK (X.ins I) n sp){p:PV}(h:rightBS X.T X.gf sp S p=true){g:GW}{v:Value}(rv:RepV (X.ins I) g v p):Out X (rOut X) g.Γ v:=by
 revert rv
 refine ptupE h fT λxs h=>twoE h fT λtold t h=>band2 h λh1 h2 rv=>?_
 refine x0_2 (cln_ok hI h1) λc1 c2=>?_
 have key:∀(txt:Option (List Nat)),t=txtP txt→(∀r,txt=some r→r≠[]∧Nat.ble (r.length+symN r*300) 4096=true)→bodyRunS X.T X.gf sp S told txt=true→Out X (rOut X) g.Γ v:=λtxt e hb hr=>by
  subst e
  have hg:Gives X (n+31) X.T.sh [sub I told] (txt.map (den I.th)):=givesS_sp B hI hG hS (n:=n) hsp c2 hr
  have e1:sub I (txtP txt)=txtP (txt.map (den I.th)):=by cases txt <;> rfl
  have ho:opn (.tup [told,txtP txt])=true:=by
   show(opn told&&(opn (txtP txt)&&true))=true
   refine rwG c2 ?_;cases txt <;> rfl
  have e2:sub I (.tup [told,txtP txt])=.tup [sub I told,txtP (txt.map (den I.th))]:=by
   show PV.tup [sub I told,sub I (txtP txt)]=_
   exact rwG e1 rfl
  refine⟨_,⟨sub I told,txt.map (den I.th),rfl,λr hr=>?_,n+31,by unfold bigN;lia,hg⟩,?_,e2▸rep_to (g:=g) (g':=⟨g.Γ,[]⟩) hI (λ_ _ e=>e) rv ho⟩
  ·cases txt with
   |none=>cases hr
   |some r0=>
    cases hr
    refine x0_2 (hb r0 rfl) λb1 b2=>?_
    exact⟨den_ne2 (λi=>(hI.th i).1) b1,vE (den_len2 hl r0) (vA b2)⟩
  ·show(clo (sub I told)&&(clo (txtP (txt.map (den I.th)))&&true))=true
   refine rwG c1 ?_
   cases txt with
   |none=>rfl
   |some r0=>show(true&&(litR (den I.th r0)&&true))=true;refine rwG (den_litR (λi=>(hI.th i).2.2) r0) ?_;rfl
 cases t with
 |none=>exact key none rfl (λr e=>by cases e) h2
 |str r=>
  refine band3 h2 λb1 b2 b3=>?_
  refine key (some r) rfl (λr' e=>?_) b3
  cases e
  refine⟨λq=>?_,b2⟩
  subst q;cases b1
 |_=>exact absF h2
theorem a97:([97]:List Nat)≠[]∧([97]:List Nat).length≤4096∧litR [97]=true:=by decide
noncomputable def ins97(u:Nat):Ins:=⟨λ_=>[97],λ_=>.none,u⟩
theorem ins97_ok(u:Nat):InsOK (ins97 u):=⟨λ_=>a97,λ_=>rfl,ky97⟩
noncomputable def Sh(I:Ins):Prop:=∀i,(I.th i).length≤300
theorem sh97(u:Nat):Sh (ins97 u):=λ_=>(by decide:([97]:List Nat).length≤300)
structure FnIs(K:Frag)(a:Addr)(o:Obj)(fd:FuncData)(as:List Str)(body:List Stmt):Prop where
 h1:K.lookup a=some o
 h2:o.data=.func fd
 h3:fnOk K fd=true
 h4:argsOf fd=as
 h5:fd.body=.stmts body
end
section
theorem Gives.mono{X:Fix}{n m:Nat}{f:Addr}{args:List PV}{res:Option (List Nat)}(h:Gives X n f args res)(hm:n≤m):Gives X m f args res:=by
 refine⟨?_⟩
 intro A fe outer F g s v vs kx am R fs r q hk
 exact h.go (am.le hm) R fs r q hk
structure GivesP(X:Fix)(n:Nat)(f:Addr)(args:List PV)(res:Option PV):Prop where
 go:∀{A:Around} {fe:Env} {outer:List Env} {F:Addr} {g:GW} {s:Shared} {v:Value} {vs:List Value} {kx:KX},Amb X n A fe outer F fe→HR X g [] s.heap→FramesOK X g s.heap (fe::outer)→RepV X g v (.old f)→RepL X g vs args→(res=none→kx []=true) →
  wpAny (model X.prog X.w) A (call v vs) (VG X noS (fe::outer) g s λu g₂ _ _=>∃p,res=some p∧clo p=true∧RepV X ⟨g₂.Γ,[]⟩ u p) (PX X noS (fe::outer) F g s kx) s
theorem GivesP.mono{X:Fix}{n m:Nat}{f:Addr}{args:List PV}{res:Option PV}(h:GivesP X n f args res)(hm:n≤m):GivesP X m f args res:=
 ⟨λam R fs r q hk=>h.go (am.le hm) R fs r q hk⟩
structure EntP where
 f:Addr
 args:List PV
 res:Option PV
noncomputable def EntP.ok(X:Fix)(n:Nat)(I:Ins)(e:EntP):Prop:=GivesP X n e.f (subL I e.args) (e.res.map (sub I))∧opnL e.args=true∧∀p,e.res=some p→opn p=true
noncomputable def spTab(tab:List EntP):Spc:=λf args=>poldK none f λa=>ifS none (tab.find? λe=>Nat.beq e.f a&&pvsB e.args args) λe=>some λσ k kx=>match e.res with
 |some p=>k p σ
 |none=>kx σ
theorem still_tup{X:Fix}{θ:Nat→List Nat}{η:Nat→(Addr→Option Obj)→Value→Prop}{g g':GW}{σ:Sto}{h h':Heap}{FS:List Addr}(R:HR X g σ h)(t:Stp (X.sw θ η) noS FS (g.still h) h g' h'){a:Addr}{vs:Array Value}{n:Nat}(e:g'.Γ a=some { cls:=.type "tuple",data:=.seq vs n }):(g.back g').Γ a=some { cls:=.type "tuple",data:=.seq vs n }:=by
 show(if a∈g.la then none else g'.Γ a)=_
 rw[if_neg]
 ·exact e
 ·intro ha
  refine x1_1 (List.getElem_of_mem ha) λi hq1=>?_;refine x1_1 hq1 λhi e1=>?_
  have hi2:i<σ.length:=R.len▸hi
  refine x1_2 (R.lst i a σ[i] (by exact rwG (List.getElem?_eq_getElem hi) (rwG e1 rfl)) (List.getElem?_eq_getElem hi2)) λus ho1 _=>?_;obtain⟨m,hp⟩:=ho1
  have e2:(g.still h).Γ a=_:=(if_pos ha).trans hp
  have e3:=t.ext a _ e2
  rw[e]at e3
  have h:(Value.type "tuple":Value)=Value.type "list":=congrArg Obj.cls (vC e3)
  exact absurd h (by decide +kernel)
section
variable{X:Fix}{I:Ins}(B:BaseOK X)(hI:InsOK I)
include B hI
theorem spTab_ok{n:Nat}{tab:List EntP}(ht:∀e∈tab,EntP.ok X n I e):SpOK (X.ins I) n (spTab tab):=by
 intro A fe outer F g σ s v c vs ps k kx t am R fs r q hs hk
 revert r
 refine poldE hs nS λa hs r=>ifE' hs nS λe he hs=>?_
 obtain rfl:=vC hs
 have hm:(Nat.beq e.f a&&pvsB e.args ps)=true:=List.find?_some (p:=λe:EntP=>Nat.beq e.f a&&pvsB e.args ps) he
 refine band2 hm λh1 h2=>?_
 refine x0_3 (ht e (List.mem_of_find?_eq_some he)) λh3 h4 h5=>?_
 obtain rfl:=vB h1
 obtain rfl:=pvsB_eq h2
 have ext:∀a o,g.Γ a=some o→(g.still s.heap).Γ a=some o:=λa o e=>(still_old R e).1
 have R':HR X (g.still s.heap) [] s.heap:=HR.still (X:=X.ins I) (θ:=X.θ) (η:=X.η) R
 have fs':FramesOK X (g.still s.heap) s.heap (fe::outer):=FramesOK.still (X:=X.ins I) (θ:=X.θ) (η:=X.η) fs
 refine x1_2 r.iO λo he1=>?_;refine rwG he1 ?_;clear he1;intro eo
 have q2:RepL X (g.still s.heap) vs (subL I e.args):=by
  clear h2 h3 he ht hk hm
  generalize e.args=xs at q h4
  induction xs generalizing vs with
  |nil=>refine rwG q.i0 ?_;exact .nil
  |cons p xs ih=>
   refine x2_3 q.i1 λv us he2=>?_;refine rwG he2 ?_;clear he2;intro a b
   refine x0_2 (vJ (show(opn p&&opnL xs)=true from h4)) λk1 k2=>?_
   exact .cons (rep_to hI ext a k1) (ih b k2)
 refine wpAny_mono (h3.go (am.sw (X':=X)) R' fs' (.old eo) q2 (kx:=λ_=>e.res.isNone) λhz=>by cases hr:e.res with|none=>rfl|some r=>rw[hr]at hz;cases hz) (λu s' hz1=>?_) λx s' px=>?_
 ·refine VG.el hz1 λg₂ σ₂ t₂ R₂ hq4=>?_;refine x1_3 hq4 λp e1 e2 e3=>?_;clear hz1
  cases hr:e.res with
  |none=>rw[hr]at e1;cases e1
  |some p0=>
   rw[hr]at e1 hk
   have e1:=vC e1
   subst e1
   have rv:RepV X (g.back g₂) u (sub I p0):=rep_clo (g:=⟨g₂.Γ,[]⟩) B.O.byt B.O.byt (λa vs n e=>still_tup (X:=X.ins I) (θ:=X.θ) (η:=X.η) R t₂.st e) e3 e2
   exact⟨g.back g₂,σ,To.back (X:=X.ins I) (θ:=X.θ) (η:=X.η) R t₂ R₂,HR.back (X:=X.ins I) (θ:=X.θ) (η:=X.η) R t₂.st R₂,p0,rep_of hI (λ_ _ e=>e) (h5 p0 hr) rv,hk⟩
 ·cases hr:e.res with
  |some r0=>
   rw[hr]at px
   refine x1_1 (PX.kxs px) λ_ hq=>?_
   cases hq
  |none=>
   rw[hr]at hk
   exact PX.back (X:=X.ins I) (θ:=X.θ) (η:=X.η) R fs hk px
noncomputable def kGP(res:Option PV):KV:=λp _=>ifS false res λr=>pvB r p
noncomputable def kxGP(res:Option PV):KX:=λ_=>res.isNone
theorem gives_runP{G:GfD}(hG:GfOK X.B X.gf G){n:Nat}{sp:Spc}(hsp:SpOK (X.ins I) n sp){f:Addr}{args:List PV}{res:Option PV}(ho:opnL args=true)(hc:∀p,res=some p→cln p=true)
  (hr:tower X.T X.gf sp 30 (.old f) args [] (kGP res) (kxGP res)=true):GivesP X (n+30) f (subL I args) (res.map (sub I)):=by
 refine⟨?_⟩
 intro A fe outer F g s v vs kx am R fs r q hk
 have ext:∀a o,g.Γ a=some o→(g.still s.heap).Γ a=some o:=λa o e=>(still_old R e).1
 have O':=(B.ins hI).O
 have R':HR (X.ins I) (g.still s.heap) [] s.heap:=HR.still (X:=X) R
 have fs':FramesOK (X.ins I) (g.still s.heap) s.heap (fe::outer):=FramesOK.still (X:=X) fs
 refine x1_2 r.iO λo he1=>?_;refine rwG he1 ?_;clear he1;intro eo
 refine wpAny_mono (tower_ok O' (λd=>raise_ok O' (G:=G) hG d) hsp 30 (am.sw (X':=X.ins I)) R' fs' (.old eo) (repL_of hI ext ho q) hr) (λu s' hz2=>?_) λx s' px=>?_
 ·refine VG.el hz2 λg₂ σ₂ t₂ R₂ hq4=>?_;refine RV.el hq4 λp rp hp=>?_;clear hz2
  refine ifE' hp fT λr0 e hp=>?_
  obtain rfl:=pvB_eq hp
  refine x0_2 (cln_ok hI (hc _ e)) λc1 c2=>?_
  have rv:RepV X ⟨g₂.Γ,[]⟩ u (sub I r0):=rep_to (g:=g₂) (g':=⟨g₂.Γ,[]⟩) hI (λ_ _ e=>e) rp c2
  exact⟨g.back g₂,[],To.back (X:=X) R t₂ R₂,HR.back (X:=X) R t₂.st R₂,_,by refine rwG e ?_;rfl,c1,rep_clo (g:=⟨g₂.Γ,[]⟩) (g':=⟨(g.back g₂).Γ,[]⟩) B.O.byt B.O.byt (λa vs n e=>still_tup (X:=X) R t₂.st e) rv c1⟩
 ·refine PX.back (X:=X) R fs (hk ?_) px
  refine x1_1 (PX.kxs px) λ_ hq=>?_
  have hq:res.isNone=true:=hq
  refine rwG (Option.isNone_iff_eq_none.mp hq) ?_;rfl
end
end
section
structure St where
 vars:List (Str×PV)
 sto:List (List PV)
 bd:List (Nat×Nat)
 dm:List (List Nat×List (List PV))
 lv:Nat
 fs:List Ent
 ps:List EntP
structure Mv where
 c:List Nat
 ho:List (Nat×PV)
 th:List (Nat×List Nat)
inductive Trie where
 |nil
 |or (a b:Trie)
 |node (ds:List Nat) (f:Nat→Trie)
noncomputable def Trie.mem:Trie→List Nat→Bool
 |.nil,c=>c.isEmpty
 |.or a b,c=>a.mem c||b.mem c
 |.node ds f,c=>consK false c λd r=>ds.any (Nat.beq d)&&(f d).mem r
noncomputable def Trie.all:Trie→(List Nat→Bool)→Bool
 |.nil,p=>p []
 |.or a b,p=>a.all p&&b.all p
 |.node ds f,p=>ds.all λd=>(f d).all λc=>p (d::c)
theorem Trie.all_mem:∀{T:Trie} {p:List Nat→Bool} {c:List Nat},T.all p=true→T.mem c=true→p c=true
 |.nil,p,c,h,hc=>by refine rwG (List.isEmpty_iff.mp hc) ?_;exact h
 |.or a b,p,c,h,hc=>band2 h λh1 h2=>(vK hc).elim (λq=>Trie.all_mem (T:=a) h1 q) λq=>Trie.all_mem (T:=b) h2 q
 |.node ds f,p,c,h,hc=>consE (P:=λc=>p c=true) hc fT λd r hc=>band2 hc λh1 h2=>by
  refine x1_2 (vG h1) λd' hd e=>?_
  obtain rfl:=vB e
  exact Trie.all_mem (T:=f d) (p:=λc=>p (d::c)) ((vF h) d hd) h2
noncomputable def startW:Trie:=.node [0] λ_=>.nil
noncomputable def Trie.none:Trie:=.node [] λ_=>.nil
noncomputable def Trie.ors:List Trie→Trie
 | []=>.none
 |a::r=>.or a (ors r)
theorem Trie.mem_ors{c:List Nat}:∀{l:List Trie} {T:Trie},T∈l→T.mem c=true→(Trie.ors l).mem c=true
 |a::r,T,h,hc=>Bool.or_eq_true_iff.mpr ((vI h).elim (λe=>.inl (e▸hc)) λh=>.inr (Trie.mem_ors h hc))
noncomputable def figP{β:Type}(n:Nat)(k:Nat→β):β:=@Nat.rec (λ_=>β) (k 0) (λm _=>k (Nat.succ m)) n
noncomputable def figPL{β:Type}(l:List Nat):(List Nat→β)→β:=@List.rec Nat (λ_=>(List Nat→β)→β) (λk=>k []) (λn _ ih k=>figP n λn=>ih λr=>k (n::r)) l
noncomputable def figN(n:Nat)(k:Nat→Bool):Bool:=@Nat.rec (λ_=>Bool) (k 0) (λm _=>k (Nat.succ m)) n
noncomputable def figL(l:List Nat):(List Nat→Bool)→Bool:=@List.rec Nat (λ_=>(List Nat→Bool)→Bool) (λk=>k []) (λn _ ih k=>figN n λn=>ih λr=>k (n::r)) l
theorem figN_eq{n:Nat}{k:Nat→Bool}:figN n k=k n:=by cases n <;> rfl
theorem figL_eq:∀{l:List Nat} {k:List Nat→Bool},figL l k=k l
 | [],k=>rfl
 |n::r,k=>(figN_eq (n:=n) (k:=λn=>figL r λr=>k (n::r))).trans (figL_eq (l:=r) (k:=λr=>k (n::r)))
noncomputable def nlk{α:Type}(i:Nat)(l:List (Nat×α)):Option α:=@List.rec (Nat×α) (λ_=>Option α) none (λe _ ih=>if Nat.beq e.1 i then some e.2 else ih) l
noncomputable def mvR(m:Mv)(l:List Nat):List Nat:=@List.rec Nat (λ_=>List Nat) [] (λc _ ih=>(if isLit c then[c]else@Option.casesOn _ (λ_=>List Nat) (nlk (c-symB) m.th) [c] λt=>t)++ih) l
noncomputable def mvP(m:Mv)(p:PV):PV:=@PV.rec (λ_=>PV) (λ_=>List PV) .none (λb=>.bool b) (λi=>.int i) (λr=>.str (mvR m r)) (λ_ ih=>.tup ih) (λi=>.lst i) (λa=>.old a) (λks vs _ _=>.dct ks vs) (λag body sc x p _=>.clos ag body sc x p) (λi=>if Nat.blt i 500 then@Option.casesOn _ (λ_=>PV) (nlk i m.ho) (.hole i) (λp=>p)else .hole i) [] (λ_ _ ihp ihr=>ihp::ihr) p
noncomputable def mvL(m:Mv)(l:List PV):List PV:=@PV.rec_1 (λ_=>PV) (λ_=>List PV) .none (λb=>.bool b) (λi=>.int i) (λr=>.str (mvR m r)) (λ_ ih=>.tup ih) (λi=>.lst i) (λa=>.old a) (λks vs _ _=>.dct ks vs) (λag body sc x p _=>.clos ag body sc x p) (λi=>if Nat.blt i 500 then@Option.casesOn _ (λ_=>PV) (nlk i m.ho) (.hole i) (λp=>p)else .hole i) [] (λ_ _ ihp ihr=>ihp::ihr) l
noncomputable def Mv.ins(m:Mv)(I:Ins)(u:Nat):Ins:=⟨λi=>@Option.casesOn _ (λ_=>List Nat) (nlk i m.th) (I.th i) λt=>den I.th t,λi=>@Option.casesOn _ (λ_=>PV) (nlk i m.ho) (I.ho i) λp=>sub I p,u⟩
theorem nlk_mem{α:Type}{i:Nat}{a:α}:∀{l:List (Nat×α)},nlk i l=some a→(i,a)∈l
 | [],h=>absS h.symm
 |e::r,h=>iteS h (λh1 h2=>by refine rwS (vB h1) ?_;refine rwS (vC h2) ?_;exact .head _) λ_ h2=>.tail _ (nlk_mem h2)
section
variable{m:Mv}{I:Ins}{u:Nat}
theorem mv_den:∀r,den (m.ins I u).th r=den I.th (mvR m r)
 | []=>rfl
 |c::r=>by
  show(if isLit c then[c]else(m.ins I u).th (c-symB))++den (m.ins I u).th r=den I.th ((if isLit c then[c]else@Option.casesOn _ (λ_=>List Nat) (nlk (c-symB) m.th) [c] λt=>t)++mvR m r)
  rw[den_append,mv_den r]
  by_cases q:isLit c=true
  ·rw[if_pos q,if_pos q,den_lit (show litR [c]=true by show(isLit c&&true)=true;refine rwG q ?_;rfl)]
  ·refine rwG (if_neg q) (rwG (if_neg q) ?_)
   show@Option.casesOn _ (λ_=>List Nat) (nlk (c-symB) m.th) (I.th (c-symB)) (λt=>den I.th t)++_=_
   cases nlk (c-symB) m.th with
   |some t=>rfl
   |none=>
    show I.th (c-symB)++_=((if isLit c then[c]else I.th (c-symB))++[])++_
    rw[if_neg q,vO]
mutual
theorem mv_sub:∀p,sub (m.ins I u) p=sub I (mvP m p)
 |.tup xs=>congrArg PV.tup (mv_subL xs)
 |.hole i=>by
  show(if Nat.blt i 500 then(m.ins I u).ho i else .hole i)=sub I (if Nat.blt i 500 then@Option.casesOn _ (λ_=>PV) (nlk i m.ho) (.hole i) (λp=>p)else .hole i)
  by_cases q:Nat.blt i 500=true
  ·refine rwG (if_pos q) (rwG (if_pos q) ?_)
   show@Option.casesOn _ (λ_=>PV) (nlk i m.ho) (I.ho i) (λp=>sub I p)=_
   cases nlk i m.ho with
   |some t=>rfl
   |none=>exact(if_pos q).symm
  ·rw[if_neg q,if_neg q,sub_h,if_neg q]
 |.str r=>congrArg PV.str (mv_den r)
 |.none=>rfl
 |.bool _=>rfl
 |.int _=>rfl
 |.lst _=>rfl
 |.old _=>rfl
 |.dct _ _=>rfl
 |.clos .. => rfl
theorem mv_subL:∀ps,subL (m.ins I u) ps=subL I (mvL m ps)
 | []=>rfl
 |p::r=>by show sub _ p::subL _ r=sub I (mvP m p)::subL I (mvL m r);rw[mv_sub p,mv_subL r]
end
end
noncomputable def eqM(m:Mv)(r y:List Nat):Bool:=if litR r then eqL r y else eqL (mvR m r) y
noncomputable def pvM(m:Mv)(p q:PV):Bool:=if clo p then pvB p q else pvB (mvP m p) q
noncomputable def pvsM(m:Mv)(l:List PV):List PV→Bool:=@List.rec PV (λ_=>List PV→Bool) (λys=>nilK false ys true) (λx _ ih ys=>consK false ys λy ys=>pvM m x y&&ih ys) l
theorem eqM_ok{m:Mv}{I:Ins}{u:Nat}{r y:List Nat}(h:eqM m r y=true):den (m.ins I u).th r=den I.th y:=by
 refine iteS h (λh1 h2=>?_) λ_ h2=>?_
 ·exact rwS (eqL_eq h2) (rwG (den_lit h1) (rwG (den_lit h1) rfl))
 ·rw[mv_den,eqL_eq h2]
theorem pvM_ok{m:Mv}{I:Ins}{u:Nat}{p q:PV}(h:pvM m p q=true):sub (m.ins I u) p=sub I q:=by
 refine iteS h (λh1 h2=>?_) λ_ h2=>?_
 ·exact rwS (pvB_eq h2) (rwG (sub_clo h1) (rwG (sub_clo h1) rfl))
 ·rw[mv_sub,pvB_eq h2]
theorem pvsM_ok{m:Mv}{I:Ins}{u:Nat}:∀{ps qs:List PV},pvsM m ps qs=true→subL (m.ins I u) ps=subL I qs
 | [],ys,h=>nilE (P:=λys=>subL (m.ins I u) []=subL I ys) h fT λ_=>rfl
 |x::xs,ys,h=>consE (P:=λys=>subL (m.ins I u) (x::xs)=subL I ys) h fT λy ys h=>band2 h λh1 h2=>by rw[subL_c,subL_c,pvM_ok h1,pvsM_ok h2]
noncomputable def lenB(bd:List (Nat×Nat))(l:List Nat):Nat:=@List.rec Nat (λ_=>Nat) 0 (λc _ ih=>(if isLit c then 1 else@Option.casesOn _ (λ_=>Nat) (nlk (c-symB) bd) 300 λn=>n)+ih) l
noncomputable def kySym(i:Nat)(t t':List Nat):Bool:=oneK false t λc=>oneK false t' λc'=>Nat.ble (symB+64) c&&Nat.blt c (symB+64+24)&&Nat.beq c' (c+100)&&(kyCl i).all λw=>(kyCl (c-(symB+64))).any (eqL w)
noncomputable def kyP(m:Mv)(i:Nat):Bool:=ifS false (nlk (64+i) m.th) λt=>ifS false (nlk (164+i) m.th) λt'=>(litR t&&litR t' && !((kyCl i).any (eqL t))&&eqL t' (cut5 t) && !(eqL t' whenL))||kySym i t t'
noncomputable def Mv.good(m:Mv)(bd:List (Nat×Nat)):Bool:=(m.ho.all λe=>cln e.2)&&(m.th.all λe=>!e.2.isEmpty&&Nat.ble (lenB bd e.2) 300)&&(m.th.all λe=>Nat.blt e.1 64||kyP m ((e.1-64)%100))
noncomputable def mvO(m:Mv)(p' p:PV):Bool:=opn p'&&opn p&&pvM m p' p
noncomputable def mvVar(m:Mv)(n:Nat)(vs:List (Str×PV))(e:Str×PV):Bool:=ifS false (lk e.1 vs) λp=>@PV.rec (λ_=>Bool) (λ_=>PUnit) (mvO m e.2 p) (λ_=>mvO m e.2 p) (λ_=>mvO m e.2 p) (λ_=>mvO m e.2 p) (λ_ _=>mvO m e.2 p) (λi=>Nat.blt i n&&plstK false p λj=>Nat.beq j i) (λ_=>mvO m e.2 p) (λ_ _ _ _=>false) (λ_ _ _ _ _ _=>false) (λ_=>mvO m e.2 p) ⟨⟩ (λ_ _ _ _=>⟨⟩) e.2
noncomputable def mvSto(m:Mv)(l:List (List PV)):Sto→Bool:=@List.rec (List PV) (λ_=>Sto→Bool) (λ_=>true) (λys _ ih σ=>consK false σ λxs σ=>opnL ys&&opnL xs&&pvsM m ys xs&&ih σ) l
noncomputable def resB(m:Mv)(a b:Option (List Nat)):Bool:=@Option.casesOn _ (λ_=>Bool) a b.isNone λx=>ifS false b λy=>eqM m x y
noncomputable def resPB(m:Mv)(a b:Option PV):Bool:=@Option.casesOn _ (λ_=>Bool) a b.isNone λx=>ifS false b λy=>opn x&&pvM m x y
noncomputable def dmB(m:Mv)(dm:List (List Nat×List (List PV)))(e:List Nat×List (List PV)):Bool:=e.1.all (λi=>Nat.blt i 500)&&((cloL (mvL m (e.1.map PV.hole))&&e.2.any (pvsB (mvL m (e.1.map PV.hole))))||dm.any λe'=>e'.1.all (λi=>Nat.blt i 500)&&pvsB (mvL m (e.1.map PV.hole)) (e'.1.map PV.hole)&&e'.2.all λL=>e.2.any (pvsB L))
noncomputable def fsB(m:Mv)(o:St)(lv:Nat)(der:Ent→Bool)(e:Ent):Bool:=opnL e.args&&((o.fs.any λe'=>Nat.beq e.f e'.f&&pvsM m e.args e'.args&&resB m e.res e'.res)||(Nat.ble (o.lv+31) lv&&der ⟨e.f,mvL m e.args,e.res.map (mvR m)⟩))
noncomputable def psB(m:Mv)(o:St)(e:EntP):Bool:=opnL e.args&&o.ps.any λe'=>Nat.beq e.f e'.f&&pvsM m e.args e'.args&&resPB m e.res e'.res
noncomputable def forL{α:Type}(l:List α)(k:List α→Bool):Bool:=@List.rec α (λ_=>Bool) (k []) (λa r _=>k (a::r)) l
theorem forL_eq{α:Type}{l:List α}{k:List α→Bool}:forL l k=k l:=by cases l <;> rfl
noncomputable def mvB0(s:St)(n0:Nat)(o:St)(der:Ent→Bool)(m:Mv)(vs:List (Str×PV))(τ:Sto):Bool:=
 s.vars.all (mvVar m (s.sto.length+1) vs)&&mvSto m s.sto τ&&Nat.ble n0 s.sto.length&&m.good o.bd&&(s.bd.all λe=>Nat.ble (lenB o.bd (mvR m [symB+e.1])) e.2)&&s.dm.all (dmB m o.dm)&&Nat.ble o.lv s.lv&&s.fs.all (fsB m o s.lv der)&&s.ps.all (psB m o)
noncomputable def mvB(s:St)(n0:Nat)(o:St)(der:Ent→Bool)(m:Mv)(vs:List (Str×PV))(τ:Sto):Bool:=forL m.ho λho=>forL m.th λth=>mvB0 s n0 o der ⟨[],ho,th⟩ vs τ
structure FaOK(X:Fix)(s:St)(I:Ins):Prop where
 sh:Sh I
 bd:∀e∈s.bd,(I.th e.1).length≤e.2
 dm:∀e∈s.dm,e.1.map I.ho∈e.2
 fs:∀e∈s.fs,Ent.ok X s.lv I e
 ps:∀e∈s.ps,EntP.ok X s.lv I e
structure StOK(X:Fix)(s:St)(I:Ins)(vs:List (Str×PV))(τ:Sto):Prop where
 va:vs=s.vars
 st:τ=s.sto
 fa:FaOK X s I
noncomputable def StsOK(X:Fix)(st:List Nat→St)(Ss:Trie):Sta:=λI vs τ=>∃c,Ss.mem c=true∧StOK X (st c) I vs τ
theorem lk_mem3{α:Type}{x:Str}{p:α}:∀{vars:List (Str×α)},lk x vars=some p→(x,p)∈vars
 | [],h=>absS h.symm
 |(y,q)::r,h=>iteS (lk_c.symm.trans h) (λh1 h2=>by refine rwG (eqS_eq h1) ?_;refine rwG (vC h2) ?_;exact .head _) λ_ h2=>.tail _ (lk_mem3 h2)
theorem lenB_ok{θ:Nat→List Nat}{bd:List (Nat×Nat)}(h3:∀i,(θ i).length≤300)(h:∀e∈bd,(θ e.1).length≤e.2):∀r:List Nat,(den θ r).length≤lenB bd r
 | []=>vD _
 |c::r=>by
  show((if isLit c then[c]else θ (c-symB))++den θ r).length≤(if isLit c then 1 else@Option.casesOn _ (λ_=>Nat) (nlk (c-symB) bd) 300 λn=>n)+lenB bd r
  refine rwG List.length_append ?_
  refine Nat.add_le_add ?_ (lenB_ok h3 h r)
  by_cases q:isLit c=true
  ·refine rwG (if_pos q) (rwG (if_pos q) ?_);exact vD _
  ·refine rwG (if_neg q) (rwG (if_neg q) ?_)
   cases e:nlk (c-symB) bd with
   |none=>exact h3 (c-symB)
   |some n=>exact h (c-symB,n) (nlk_mem e)
theorem mvSto_ok{m:Mv}{I:Ins}{u:Nat}:∀{ys:List (List PV)} {τ:Sto},mvSto m ys τ=true→ys.length≤τ.length∧∀(i:Nat) (xs':List PV),ys[i]?=some xs'→∃xs,τ[i]?=some xs∧opnL xs'=true∧opnL xs=true∧subL (m.ins I u) xs'=subL I xs
 | [],_,_=>⟨Nat.zero_le _,λi xs' e=>absN e⟩
 |y::r,τ,h=>by
  refine consE (P:=λτ=>(y::r).length≤τ.length∧∀(i:Nat) (xs':List PV),(y::r)[i]?=some xs'→∃xs,τ[i]?=some xs∧opnL xs'=true∧opnL xs=true∧subL (m.ins I u) xs'=subL I xs) h fT λxs σ h=>band4 h λh1 h2 h3 h4=>?_
  have h5:=mvSto_ok (I:=I) (u:=u) h4
  refine⟨Nat.succ_le_succ h5.1,λi xs' e=>?_⟩
  cases i with
  |zero=>obtain rfl:=vC e;exact⟨xs,rfl,h1,h2,pvsM_ok h3⟩
  |succ i=>exact h5.2 i xs' e
theorem Ent.up{X:Fix}{n n':Nat}{I:Ins}{e:Ent}(h:Ent.ok X n I e)(hn:n≤n'):Ent.ok X n' I e:=⟨h.1.mono hn,h.2⟩
theorem EntP.up{X:Fix}{n n':Nat}{I:Ins}{e:EntP}(h:EntP.ok X n I e)(hn:n≤n'):EntP.ok X n' I e:=⟨h.1.mono hn,h.2⟩
theorem subL_holes{I:Ins}:∀{l:List Nat},(l.all λi=>Nat.blt i 500)=true→subL I (l.map PV.hole)=l.map I.ho
 | [],_=>rfl
 |i::r,h=>band2 h λh1 h2=>by
  show(if Nat.blt i 500 then I.ho i else .hole i)::subL I (r.map PV.hole)=I.ho i::r.map I.ho
  exact rwG (if_pos h1) (rwG (subL_holes h2) rfl)
section
variable{X:Fix}{I:Ins}(hI:InsOK I)
include hI
omit hI in
theorem ky_ix{i j:Nat}(hi:i<24)(hj:j=64+i∨j=164+i):(j-64)%100=i:=by
 rcases hj with rfl|rfl
 ·rw[Nat.add_sub_cancel_left,Nat.mod_eq_of_lt (Nat.lt_trans hi (by decide))]
 ·rw[show 164+i=64+(100+i)from Nat.add_assoc 64 100 i,Nat.add_sub_cancel_left,Nat.add_mod_left,Nat.mod_eq_of_lt (Nat.lt_trans hi (by decide))]
theorem kyP_ok{m:Mv}{u i:Nat}(hi:i<24)(h:kyP m i=true):(∀w∈kyCl i,(m.ins I u).th (64+i)≠w)∧(m.ins I u).th (164+i)=cut5 ((m.ins I u).th (64+i))∧(m.ins I u).th (164+i)≠whenL:=by
 refine ifE' h fT λt e1 h=>ifE' h fT λt' e2 h=>?_
 have q1:(m.ins I u).th (64+i)=den I.th t:=by
  show@Option.casesOn _ (λ_=>List Nat) (nlk (64+i) m.th) (I.th (64+i)) (λt=>den I.th t)=_
  exact rwG e1 rfl
 have q2:(m.ins I u).th (164+i)=den I.th t':=by
  show@Option.casesOn _ (λ_=>List Nat) (nlk (164+i) m.th) (I.th (164+i)) (λt=>den I.th t)=_
  exact rwG e2 rfl
 refine rwG q1 (rwG q2 ?_)
 rcases vK h with h|h
 ·refine band5 h λk1 k2 k3 k4 k5=>?_
  refine rwG (den_lit k1) (rwG (den_lit k2) ?_)
  refine⟨λw hw q=>?_,eqL_eq k4,λq=>?_⟩
  ·subst q
   rw[List.any_eq_true.mpr ⟨t,hw,eqL_self t⟩]at k3;exact absF k3
  ·subst q;exact absF k5
 ·refine oneE (P:=λt=>(∀w∈kyCl i,den I.th t≠w)∧den I.th t'=cut5 (den I.th t)∧den I.th t'≠whenL) h fT λc h=>?_
  refine oneE (P:=λt'=>(∀w∈kyCl i,den I.th [c]≠w)∧den I.th t'=cut5 (den I.th [c])∧den I.th t'≠whenL) h fT λc' h=>band4 h λk1 k2 k3 k4=>?_
  have k1:=vA k1
  have k2:c<symB+64+24:=vA k2
  have k5:=hI.ky (c-(symB+64)) (by lia)
  rw[vB k3,show c+100=symB+(164+(c-(symB+64)))by lia,show[c]=[symB+(64+(c-(symB+64)))]from congrArg (λx=>[x]) (by lia),den_sym,den_sym]
  refine⟨λw hw=>?_,k5.2⟩
  refine x1_2 (vG ((vF k4) w hw)) λw' hw' e=>?_
  refine rwG (eqL_eq e) ?_;exact k5.1 w' hw'
theorem mv_ins{m:Mv}{bd:List (Nat×Nat)}(hs:Sh I)(hb:∀e∈bd,(I.th e.1).length≤e.2)(h:m.good bd=true)(u:Nat):InsOK (m.ins I u)∧Sh (m.ins I u):=by
 refine band3 h λh1 h2 h3=>?_
 have ht:∀i,(m.ins I u).th i≠[]∧((m.ins I u).th i).length≤300∧litR ((m.ins I u).th i)=true:=λi=>by
  show@Option.casesOn _ (λ_=>List Nat) (nlk i m.th) (I.th i) (λt=>den I.th t)≠[]∧(@Option.casesOn _ (λ_=>List Nat) (nlk i m.th) (I.th i) λt=>den I.th t).length≤300∧litR (@Option.casesOn _ (λ_=>List Nat) (nlk i m.th) (I.th i) λt=>den I.th t)=true
  cases e:nlk i m.th with
  |none=>exact⟨(hI.th i).1,hs i,(hI.th i).2.2⟩
  |some t=>
   refine band2 ((vF h2) _ (nlk_mem e)) λk1 k2=>?_
   refine⟨den_ne2 (λi=>(hI.th i).1) λq=>?_,vE (lenB_ok hs hb t) (vA k2),den_litR (λi=>(hI.th i).2.2) t⟩
   have q:t=[]:=q
   subst q;exact absF k1
 have hk:∀{i j:Nat} {t:List Nat},i<24→nlk j m.th=some t→(j=64+i∨j=164+i)→kyP m i=true:=λ{i j t} hi e hj=>by
  rcases vK ((vF h3) _ (nlk_mem e))with k|k
  ·exact absurd (vA k) (by show¬(j+1≤64);lia)
  ·have k:kyP m ((j-64)%100)=true:=k
   rwa [ky_ix hi hj]at k
 refine⟨⟨λi=>⟨(ht i).1,vE (ht i).2.1 (by decide),(ht i).2.2⟩,λi=>?_,λi hi=>?_⟩,λi=>(ht i).2.1⟩
 ·show clo (@Option.casesOn _ (λ_=>PV) (nlk i m.ho) (I.ho i) λp=>sub I p)=true
  cases e:nlk i m.ho with
  |none=>exact hI.ho i
  |some p=>exact(cln_ok hI ((vF h1) _ (nlk_mem e))).1
 ·cases e1:nlk (64+i) m.th with
  |some t=>exact kyP_ok hI hi (hk hi e1 (.inl rfl))
  |none=>
   cases e2:nlk (164+i) m.th with
   |some t=>exact kyP_ok hI hi (hk hi e2 (.inr rfl))
   |none=>
    have q1:(m.ins I u).th (64+i)=I.th (64+i):=by
     show@Option.casesOn _ (λ_=>List Nat) (nlk (64+i) m.th) (I.th (64+i)) (λt=>den I.th t)=_
     exact rwG e1 rfl
    have q2:(m.ins I u).th (164+i)=I.th (164+i):=by
     show@Option.casesOn _ (λ_=>List Nat) (nlk (164+i) m.th) (I.th (164+i)) (λt=>den I.th t)=_
     exact rwG e2 rfl
    refine rwG q1 (rwG q2 ?_);exact hI.ky i hi
theorem dmB_ok{m:Mv}{u:Nat}{dm:List (List Nat×List (List PV))}(hd:∀e∈dm,e.1.map I.ho∈e.2){e:List Nat×List (List PV)}(h:dmB m dm e=true):e.1.map (m.ins I u).ho∈e.2:=by
 refine band2 h λh1 h2=>?_
 rw[←subL_holes h1,mv_subL]
 rcases vK h2 with h2|h2
 ·refine band2 h2 λk1 k2=>?_
  refine x1_2 (vG k2) λL hL e=>?_
  refine rwG (subL_clo k1) (rwG (pvsB_eq e) ?_);exact hL
 ·refine x1_2 (vG h2) λe' he k=>band3 k λk1 k2 k3=>?_
  refine rwG (pvsB_eq k2) (rwG (subL_holes k1) ?_)
  refine x1_2 (vG ((vF k3) _ (hd e' he))) λL hL e=>?_
  rw[pvsB_eq e];exact hL
theorem mvB0_ok{s:St}{n0:Nat}{o:St}{der:Ent→Bool}{m:Mv}{vs:List (Str×PV)}{τ:Sto}(hf:FaOK X o I)(hd:∀e,der e=true→Ent.ok X (o.lv+31) I e)(h:mvB0 s n0 o der m vs τ=true)(u:Nat) :
  InsOK (m.ins I u)∧StOK X s (m.ins I u) s.vars s.sto∧Conv I vs τ (m.ins I u) s.vars s.sto∧n0≤s.sto.length:=by
 refine band9 h λh1 h2 h3 h5 h6 hdm hlv h7 h8=>?_
 have hi:=mv_ins hI hf.sh hf.bd h5 u
 have hq:=mvSto_ok (I:=I) (u:=u) h2
 have hlv:=vA hlv
 refine⟨hi.1,⟨rfl,rfl,hi.2,λe he=>?_,λe he=>dmB_ok hI hf.dm ((vF hdm) e he),λe he=>?_,λe he=>?_⟩,⟨λx p' e=>?_,hq.1,hq.2⟩,vA h3⟩
 ·have k1:=vA ((vF h6) e he)
  have k2:=lenB_ok hf.sh hf.bd (mvR m [symB+e.1])
  rw[←mv_den (u:=u),den_sym]at k2
  exact vE k2 k1
 ·refine band2 ((vF h7) e he) λk1 k2=>?_
  rcases vK k2 with k2|k2
  ·refine x1_2 (vG k2) λe' he' k3=>band3 k3 λk3 k4 k5=>?_
   have g:=(hf.fs e' he').1
   rw[←vB k3,←pvsM_ok (u:=u) k4]at g
   have e5:e.res.map (den (m.ins I u).th)=e'.res.map (den I.th):=by
    clear g
    cases e1:e.res with
    |none=>rw[e1]at k5;refine rwG (Option.isNone_iff_eq_none.mp k5) ?_;rfl
    |some x=>
     rw[e1]at k5
     refine ifE' k5 fT λy e2 k5=>?_
     refine rwG e2 ?_;exact congrArg some (eqM_ok k5)
   exact⟨e5▸g.mono hlv,k1⟩
  ·refine band2 k2 λk3 k4=>?_
   have g:=(hd _ k4).1
   have e5:(e.res.map (mvR m)).map (den I.th)=e.res.map (den (m.ins I u).th):=by
    cases e.res with
    |none=>rfl
    |some x=>exact congrArg some (mv_den x).symm
   exact⟨by rw[mv_subL,←e5];exact Gives.mono g (vA k3),k1⟩
 ·refine band2 ((vF h8) e he) λk1 k2=>?_
  refine x1_2 (vG k2) λe' he' k3=>band3 k3 λk3 k4 k5=>?_
  have g:=(hf.ps e' he').1
  rw[←vB k3,←pvsM_ok (u:=u) k4]at g
  have e5:e.res.map (sub (m.ins I u))=e'.res.map (sub I)∧∀p,e.res=some p→opn p=true:=by
   clear g
   cases e1:e.res with
   |none=>rw[e1]at k5;refine rwG (Option.isNone_iff_eq_none.mp k5) ?_;exact⟨rfl,λp h=>absN h⟩
   |some x=>
    rw[e1]at k5
    refine ifE' k5 fT λy e2 k5=>band2 k5 λk5 k6=>?_
    refine rwG e2 ?_;exact⟨congrArg some (pvM_ok k6),λp h=>vC h▸k5⟩
  exact⟨e5.1▸g.mono hlv,k1,e5.2⟩
 ·have k:=(vF h1) _ (lk_mem3 e)
  refine ifE' k fT λp ep k=>⟨p,ep,?_⟩
  have ok:mvO m p' p=true→ConvV I (s.sto.length+1) p (m.ins I u) p':=λk=>band3 k λk1 k2 k3=>.inr ⟨k1,k2,pvM_ok k3⟩
  cases p' with
  |lst i=>
   refine band2 k λk1 k2=>?_
   refine plstE (P:=λp=>ConvV I (s.sto.length+1) p (m.ins I u) (.lst i)) k2 fT λj k=>?_
   exact .inl ⟨i,vA k1,rfl,by exact rwG (vB k) rfl⟩
  |dct=>exact absF k
  |clos=>exact absF k
  |_=>exact ok k
theorem mvB_ok{s:St}{n0:Nat}{o:St}{der:Ent→Bool}{m:Mv}{vs:List (Str×PV)}{τ:Sto}(hf:FaOK X o I)(hd:∀e,der e=true→Ent.ok X (o.lv+31) I e)(h:mvB s n0 o der m vs τ=true)(u:Nat) :
  InsOK (m.ins I u)∧StOK X s (m.ins I u) s.vars s.sto∧Conv I vs τ (m.ins I u) s.vars s.sto∧n0≤s.sto.length:=
 mvB0_ok hI (m:=⟨[],m.ho,m.th⟩) hf hd ((forL_eq (l:=m.th) (k:=λth=>mvB0 s n0 o der ⟨[],m.ho,th⟩ vs τ)).symm.trans ((forL_eq (l:=m.ho) (k:=λho=>forL m.th λth=>mvB0 s n0 o der ⟨[],ho,th⟩ vs τ)).symm.trans h)) u
end
end
section
noncomputable abbrev MsF:=List Nat→List (Str×PV)→Sto→List Mv
noncomputable abbrev PutF:=List (Str×PV)→List (Str×PV)
structure Auto where
 T:Top
 gf:Addr
 sp:Spc
 fd:FuncData
 st:List Nat→St
 base:List Ent
 baseP:List EntP
 good:List Nat→PV→Bool
noncomputable def Auto.L(A:Auto):Lvl:=lvl ⟨A.T,A.gf,tower A.T A.gf A.sp 5⟩ lvlMax
noncomputable def Auto.old(A:Auto)(c:List Nat):St:=⟨(A.st c).vars,(A.st c).sto,(A.st c).bd,(A.st c).dm,(A.st c).lv,(A.st c).fs++A.base,(A.st c).ps++A.baseP⟩
noncomputable def Auto.der(A:Auto)(c:List Nat)(e:Ent):Bool:=opnL e.args&&tower A.T A.gf (tabSp A.T.K A.T.sh ((A.st c).fs++A.base)) 30 (.old e.f) e.args [] (kG e.res) (kxG e.res)
noncomputable def Auto.k(A:Auto)(Ss':Trie)(n n0:Nat)(ms:MsF)(c:List Nat):KF:=λfl ρ σ=>consK false σ λxs τ=>ifS false (penAt xs) λt=>Nat.ble t n&&@FlowP.casesOn (λ_=>Bool) fl ((ms c ρ.vars τ).any λm=>figL m.c λc'=>Ss'.mem c'&&mvB (A.st c') n0 (A.old c) (A.der c) m ρ.vars τ) (A.good c)
noncomputable def Auto.run(A:Auto)(Ss':Trie)(n n0:Nat)(ms:MsF)(f:PutF)(ss:List Stmt)(c:List Nat):Bool:=
 Nat.ble 93 (A.st c).lv&&Internal.execs A.L ss (frN A.fd (f (A.st c).vars)) (penP 0::(A.st c).sto) (A.k Ss' n n0 ms c) (λ_=>false)
noncomputable def Auto.src(A:Auto)(N c0 n0:Nat)(iter:Expr)(c:List Nat):Bool:=
 stOp (A.st c).vars (A.st c).sto&&Nat.ble n0 (A.st c).sto.length&&evSrc ⟨A.T,A.gf,tower A.T A.gf A.sp 5⟩ A.L iter (frN A.fd (A.st c).vars) (penP 0::(A.st c).sto) (rngK N c0 (A.st c).sto) (λ_=>false)
theorem FaOK.insU{X:Fix}{s:St}{I:Ins}(h:FaOK X s I)(u:Nat):FaOK X s (insU I u):=
 ⟨h.sh,h.bd,h.dm,λe he=>⟨(subL_insU e.args).symm▸(h.fs e he).1,(h.fs e he).2⟩,λe he=>⟨(subL_insU e.args).symm▸(show e.res.map (sub (Internal.insU I u))=e.res.map (sub I)from by cases e.res with|none=>rfl|some p=>exact congrArg some (sub_insU p))▸(h.ps e he).1,(h.ps e he).2⟩⟩
theorem StsOK.insU{X:Fix}{st:List Nat→St}{Ss:Trie}{I:Ins}{vs:List (Str×PV)}{τ:Sto}(h:StsOK X st Ss I vs τ)(u:Nat):StsOK X st Ss (insU I u) vs τ:=
 x1_2 h λc hc h=>⟨c,hc,h.va,h.st,h.fa.insU u⟩
theorem SrcEnd.rng{N c0 n0:Nat}{Inv:Sta}{I:Ins}(hI:InsOK I){vars:List (Str×PV)}{τ:Sto}(hst:stOp vars τ=true)(hn:n0≤τ.length)(hv:∀u,Inv (insU I u) vars τ):SrcEnd N c0 n0 Inv I vars (rngK N c0 τ):=by
 intro src σ hk
 cases src with
 |rng a n=>
  refine band3 hk λe1 e2 hk2=>?_
  obtain rfl:a=0:=eq_of_beq e1
  refine consE hk2 fT λxs τ' hk2=>ifE' hk2 fT λt e hk2=>band2 hk2 λb1 b2=>?_
  refine rwG (penAt_eq e) ?_
  have hc:=Conv.same (I:=I) hst (t+I.u)
  refine x0_2 (stB_ok b2) λc1 c2=>?_
  rw[List.length_map]at c1
  refine⟨n,t,τ',Internal.insU I (t+I.u),vars,τ,rfl,vA e2,rfl,vA b1,insU_ok hI,rfl,hv _,⟨hc.va,c1,λi xs' e=>?_⟩,hn⟩
  have e':((τ.map λl=>(l,l)).map λe:List PV×List PV=>e.2)[i]?=some xs':=by rw[List.map_map];show(τ.map id)[i]?=_;rw[List.map_id];exact e
  refine x1_2 (c2 i xs' e') λys q1 q2=>?_
  refine x1_2 (hc.ls i xs' e) λzs e3 e4=>?_
  refine x1_2 (List.mem_map.mp q2) λl _ q3=>?_
  cases q3
  rw[e]at e3;cases e3
  exact⟨_,q1,e4⟩
 |_=>exact absF hk
noncomputable def cl0(p:PV):Bool:=clo p||plstK false p λi=>Nat.beq i 0
structure AOK(X:Fix)(A:Auto)(a:Addr)(n M:Nat)(R:RetP):Prop where
 B:BaseOK X
 hG:∃G,GfOK X.B X.gf G
 eT:A.T=X.T
 eg:A.gf=X.gf
 sh:Nat.beq a X.T.sh=false
 sp:∀I,InsOK I→I.u≤M→SpOK (X.ins I) n A.sp
 b:∀I,InsOK I→∀e∈A.base,Ent.ok X 93 I e
 bP:∀I,InsOK I→∀e∈A.baseP,EntP.ok X 93 I e
 good:∀c I,93≤(A.st c).lv→InsOK I→FaOK X (A.old c) I→(∀e,A.der c e=true→Ent.ok X ((A.st c).lv+31) I e)→∀p,A.good c p=true→∀g v,RepV (X.ins I) g v p→R g.Γ v
section
variable{X:Fix}{A:Auto}{a:Addr}{n M:Nat}{R:RetP}(W:AOK X A a n M R)
include W
theorem AOK.lv{I:Ins}(hI:InsOK I)(hu:I.u≤M):FixOK (X.ins I)∧ExOK (X.ins I) (n+5) A.L∧LvOK (X.ins I) (n+5) A.L∧OrcOK (X.ins I) (n+5) (tower A.T A.gf A.sp 5):=by
 have O:=(W.B.ins hI).O
 refine x1_1 W.hG λG hG=>?_
 have hRa:∀d,RaiseOK (X.ins I) d:=λd=>raise_ok O (G:=G) hG d
 have ho:OrcOK (X.ins I) (n+5) (tower A.T A.gf A.sp 5):=by rw[W.eT,W.eg];exact tower_ok O hRa (W.sp I hI hu) 5
 exact⟨O,lvlX_ok O (hRa _) W.eT W.eg ho lvlMax,lvl_ok O W.eT ho lvlMax,ho⟩
theorem AOK.old{I:Ins}(hI:InsOK I){c:List Nat}(hl:93≤(A.st c).lv)(h:FaOK X (A.st c) I):FaOK X (A.old c) I∧∀e,A.der c e=true→Ent.ok X ((A.st c).lv+31) I e:=by
 have hf:∀e∈(A.st c).fs++A.base,Ent.ok X (A.st c).lv I e:=λe he=>(List.mem_append.mp he).elim (h.fs e) λq=>Ent.up (W.b I hI e q) hl
 refine⟨⟨h.sh,h.bd,h.dm,hf,λe he=>(List.mem_append.mp he).elim (h.ps e) λq=>EntP.up (W.bP I hI e q) hl⟩,λe he=>band2 he λh1 h2=>⟨?_,h1⟩⟩
 rw[W.eT,W.eg]at h2
 exact x1_1 W.hG λG hG=>(gives_run W.B hI hG hf h1 h2).mono (vD _)
theorem AOK.fr(vs:List (Str×PV)):frOf X A.fd a vs=frN A.fd vs:=by unfold frOf frN argsOf;exact rwG W.sh rfl
theorem Tr.auto{Ss Ss':Trie}{k n0 m m':Nat}{ms:MsF}{f:PutF}{ss:List Stmt}(h:(Ss.all (A.run Ss' k n0 ms f ss))=true)(hm:m+k≤m')(hm':m≤M):Tr X A.fd a (n+5) R n0 m m' (λI vs τ=>∃v0,StsOK X A.st Ss I v0 τ∧vs=f v0) (StsOK X A.st Ss') ss:=by
 refine Tr.run (L:=A.L) (n:=k) (λI hI hu=>(W.lv hI (by lia)).2.1) hm λI vars τ hI hP=>?_
 refine x1_2 hP λv0 ho1 he3=>?_;refine rwG he3 ?_;clear he3;clear hP;refine x1_2 ho1 λc hc hs=>?_;clear ho1
 refine rwG hs.va ?_
 refine rwG hs.st ?_
 refine band2 (Trie.all_mem h hc) λhl hr=>?_
 have hl:=vA hl
 refine x0_2 (W.old hI hl hs.fa) λhf hd=>⟨_,λfl ρ σ hk=>?_,(W.fr _).symm▸hr⟩
 refine consE hk fT λxs τ hk=>ifE' hk fT λt e hk=>band2 hk λh1 h2=>?_
 refine rwG (penAt_eq e) ?_
 refine⟨t,τ,rfl,vA h1,?_⟩
 cases fl with
 |ret p=>exact W.good c I hl hI hf hd p h2
 |next=>
  refine x1_2 (vG h2) λm hmm hm=>?_
  rw[figL_eq]at hm
  refine band2 hm λhm0 hm=>x0_4 (mvB_ok hI hf hd hm (t+I.u)) λk1 k2 k3 k4=>?_
  exact⟨m.ins I (t+I.u),_,_,k1,rfl,⟨m.c,hm0,k2⟩,k3,k4⟩
theorem Tr.auto0{Ss Ss':Trie}{k n0 m m':Nat}{ms:MsF}{ss:List Stmt}(h:(Ss.all (A.run Ss' k n0 ms id ss))=true)(hm:m+k≤m')(hm':m≤M):Tr X A.fd a (n+5) R n0 m m' (StsOK X A.st Ss) (StsOK X A.st Ss') ss:=
 (Tr.auto W h hm hm').pre λI vs τ h=>⟨vs,h,rfl⟩
theorem Tr.autoFor{N c0 c n0 nb m:Nat}{Wd:Nat→Trie}{x:Str}{pD pos:Pos}{iter:Expr}{body:List Stmt}(hi:(notSet iter&&isLc A.fd.scope x)=true)(h0:((Wd 0).all (A.src N c0 n0 iter))=true)(hl:((List.range (N+1)).all λi=>(Wd i).all λc=>Nat.ble (A.st c).sto.length nb)=true)(hm:m≤M)
  (hbd:∀i,i<N→Tr X A.fd a (n+5) R nb (m+c0+i*c) (m+c0+(i+1)*c) (λI vars τ=>∃vs,StsOK X A.st (Wd i) I vs τ∧vars=put x (.int i) vs) (StsOK X A.st (Wd (i+1))) body) :
  Tr X A.fd a (n+5) R n0 m (m+c0+N*c) (StsOK X A.st (Wd 0)) (StsOK X A.st (Trie.ors ((List.range (N+1)).map Wd))) [.For (.Name x pD) iter body [] pos]:=by
 refine band2 hi λg1 g2=>?_
 refine(Tr.forRng (L:=A.L) (cx:=⟨A.T,A.gf,tower A.T A.gf A.sp 5⟩) (nb:=nb) (c0:=c0) (c:=c) (N:=N) (P:=StsOK X A.st (Wd 0)) (Inv:=λi I vs τ=>i≤N∧StsOK X A.st (Wd i) I vs τ) (λI hI=>(W.B.ins hI).O) W.eT (λI hI hu=>?_) g1 (isLc_eq g2) (λI vars τ hI hP=>?_) (λi I vs τ hP=>?_) λi hi=>?_).post λI vs τ hQ=>?_
 ·refine x0_4 (W.lv hI (by lia)) λO _ H ho=>?_
  intro am w h
  exact src_ok O H (cx:=⟨A.T,A.gf,tower A.T A.gf A.sp 5⟩) W.eT am w h
 ·refine x1_2 hP λc hc hs=>?_
  obtain rfl:=hs.va
  obtain rfl:=hs.st
  refine band3 (Trie.all_mem h0 hc) λk1 k2 k3=>?_
  exact⟨_,SrcEnd.rng hI k1 (vA k2) λu=>⟨Nat.zero_le _,hP.insU u⟩,(W.fr _).symm▸k3⟩
 ·refine x0_2 hP λh1 hq1=>x1_2 hq1 λc hc hs=>?_
  refine rwG hs.st ?_
  exact vA (Trie.all_mem ((vF hl) i (List.mem_range.mpr (Nat.lt_succ_of_le h1))) hc)
 ·exact((hbd i hi).pre λI vs τ h=>x1_2 h λv0 h e=>⟨v0,h.2,e⟩).post λI vs τ h=>⟨hi,h⟩
 ·exact x1_3 hQ λn hn _ hq3=>x1_2 hq3 λc hc hs=>⟨c,Trie.mem_ors (List.mem_map.mpr ⟨n,List.mem_range.mpr (Nat.lt_succ_of_le hn),rfl⟩) hc,hs⟩
theorem Tr.loop{N c0 c k0 n0 nb m:Nat}{T0:Trie}{Wd:Nat→Trie}{ms0 ms1:MsF}{s0:List Stmt}{x:Str}{pD pos:Pos}{iter:Expr}{body:List Stmt}(hi:(notSet iter&&isLc A.fd.scope x)=true)(r0:(T0.all (A.run (Wd 0) k0 n0 ms0 id s0))=true)(r1:((Wd 0).all (A.src N c0 n0 iter))=true)(r2:∀j,j<N→((Wd j).all (A.run (Wd (j+1)) c nb ms1 (put x (.int (j:Int))) body))=true)(hl:((List.range (N+1)).all λi=>(Wd i).all λc=>Nat.ble (A.st c).sto.length nb)=true)(hm:m+k0+c0+N*c≤M) :
  Tr X A.fd a (n+5) R n0 m (m+k0+c0+N*c) (StsOK X A.st T0) (StsOK X A.st (Trie.ors ((List.range (N+1)).map Wd))) (s0++[.For (.Name x pD) iter body [] pos]):=
 Tr.seq (Tr.auto0 W r0 (vD _) (by lia)) (Tr.autoFor W hi r1 hl (by lia) λj hj=>Tr.auto W (r2 j hj) (Nat.le_of_eq (by rw[Nat.add_mul,Nat.one_mul,Nat.add_assoc])) (by have:=Nat.mul_le_mul_right c (Nat.le_of_lt hj);lia)) (by rw[Nat.add_assoc];exact Nat.le_add_right ..)
theorem Tr.conv{m n0:Nat}{P Q:Sta}(hm:m≤M)(h:∀I vars τ,InsOK I→P I vars τ→∃I' vars' τ',InsOK I'∧I'.u=I.u∧Q I' vars' τ'∧Conv I vars τ I' vars' τ'∧n0≤τ'.length):Tr X A.fd a (n+5) R n0 m m P Q []:=by
 refine Tr.run (L:=A.L) (n:=0) (λI hI hu=>(W.lv hI (by lia)).2.1) (vD _) λI vars τ hI hP=>?_
 refine x3_5 (h I vars τ hI hP) λI' vars' τ' h1 h2 h3 h4 h5=>⟨λfl ρ σ=>pdec (fl=.next∧ρ=frOf X A.fd a vars∧σ=penP 0::τ),λfl ρ σ hk=>?_,pdec_iff.mpr ⟨rfl,rfl,rfl⟩⟩
 refine x0_3 (pdec_iff.mp hk) λhe0=>?_;refine rwG he0 ?_;clear he0;intro he1;refine rwG he1 ?_;clear he1;intro he2;refine rwG he2 ?_;clear he2
 exact⟨0,τ,rfl,vD _,I',vars',τ',h1,by rw[h2,Nat.zero_add],h3,h4,h5⟩
theorem AOK.draws{o:Obj}{as:List Str}{body:List Stmt}(hS:FnIs X.T.K a o A.fd as body){args:List PV}{c0:List Nat}{out:PV→Prop}(hR:R=Out X out){lv:Nat}(h0:A.st c0=⟨(A.st c0).vars,[],[],[],lv,[],[]⟩)(hbs:bindP as (.lst 0::args)=some (A.st c0).vars)(hv:((A.st c0).vars.all λe=>cl0 e.2)=true){Ss:Trie}(hc:Ss.mem c0=true){c:Nat}{Q:Sta}(hQ:∀I vs τ,¬Q I vs τ){M0:Nat}(hM:M0≤M)(ht:∀m,m≤M0→Tr X A.fd a (n+5) R 0 m (m+c) (StsOK X A.st Ss) Q body):Draws X (n+5+1) a args c M0 out:=by
 subst hR
 refine Draws.of W.B.O.byt (λI hI=>(W.B.ins hI).O) hS.h1 hS.h2 hS.h3 hS.h5 (by refine rwG hS.h4 ?_;exact hbs) λm hm=>?_
 refine(Tr.seq (m₁:=m) (Tr.conv W (Q:=StsOK X A.st Ss) (by lia) λI vars τ hI hP=>?_) ((ht m hm).post λI vs τ h=>(hQ I vs τ h).elim) (Nat.le_add_right ..))
 refine x0_2 hP λhe0=>?_;refine rwG he0 ?_;clear he0;intro he1;refine rwG he1 ?_;clear he1
 have hs:FaOK X (A.st c0) (ins97 I.u):=by
  refine rwG h0 ?_;exact⟨λ_=>(by decide:([97]:List Nat).length≤300),λe he=>(List.not_mem_nil he).elim,λe he=>(List.not_mem_nil he).elim,λe he=>(List.not_mem_nil he).elim,λe he=>(List.not_mem_nil he).elim⟩
 refine⟨ins97 I.u,_,[],ins97_ok _,rfl,⟨c0,hc,rfl,by exact rwG h0 rfl,hs⟩,⟨λx p' e=>⟨p',e,?_⟩,vD _,λi xs e=>by cases e⟩,Nat.zero_le _⟩
 rcases vK ((vF hv) _ (lk_mem3 e))with h2|h2
 ·exact .inr ⟨clo_opn h2,clo_opn h2,(sub_clo h2).trans (sub_clo h2).symm⟩
 ·exact plstE (P:=λp'=>ConvV I 1 p' (ins97 I.u) p') h2 fT λi h2=>by refine rwG (vB h2) ?_;exact .inl ⟨0,Nat.succ_pos _,rfl,rfl⟩
end
end
section
theorem Conv.trans{I I₁ I₂:Ins}{v v₁ v₂:List (Str×PV)}{τ τ₁ τ₂:Sto}(h:Conv I v τ I₁ v₁ τ₁)(k:Conv I₁ v₁ τ₁ I₂ v₂ τ₂):Conv I v τ I₂ v₂ τ₂:=by
 refine⟨λx p2 e=>?_,vE k.len h.len,λi xs' e=>?_⟩
 ·refine x1_2 (k.va x p2 e) λp1 e1 c2=>x1_2 (h.va x p1 e1) λp e0 c1=>⟨p,e0,?_⟩
  rcases c2 with⟨i,hi,e2,e3⟩|⟨o2,o1,s2⟩
  ·subst e3
   rcases c1 with⟨j,hj,e4,e5⟩|⟨o1,_⟩
   ·exact .inl ⟨i,hi,e2,e5.trans e4.symm⟩
   ·exact absF o1
  ·rcases c1 with⟨j,hj,e4,e5⟩|⟨_,o0,s1⟩
   ·subst e4;exact absF o1
   ·exact .inr ⟨o2,o0,s2.trans s1⟩
 ·refine x1_4 (k.ls i xs' e) λys e1 a b c=>x1_4 (h.ls i ys e1) λzs e2 a2 b2 c2=>⟨zs,e2,a,b2,c.trans c2⟩
noncomputable def mvI(st:List Nat→St)(Ss':Trie)(n0:Nat)(s:St)(cc:List Nat):Bool:=figL cc λc'=>Ss'.mem c'&&mvB (st c') n0 s (λ_=>false) ⟨c',[],[]⟩ s.vars s.sto
theorem mvI_ok{X:Fix}{st:List Nat→St}{Ss':Trie}{n0:Nat}{s:St}{cc:List Nat}{I I₁:Ins}{vs:List (Str×PV)}{τ:Sto}(h:mvI st Ss' n0 s cc=true)(hI:InsOK I₁)(hs:FaOK X s I₁)(hc:Conv I vs τ I₁ s.vars s.sto):∃I' vars' τ',InsOK I'∧I'.u=I₁.u∧StsOK X st Ss' I' vars' τ'∧Conv I vs τ I' vars' τ'∧n0≤τ'.length:=by
 unfold mvI at h
 rw[figL_eq]at h
 refine band2 h λh1 h2=>x0_4 (mvB_ok hI hs (λe q=>absF q) h2 I₁.u) λk1 k2 k3 k4=>?_
 exact⟨_,_,_,k1,rfl,⟨_,h1,k2⟩,hc.trans k3,k4⟩
noncomputable def asgs:List (List Nat×List (List PV))→List (List (Nat×PV))
 | []=>[[]]
 |e::r=>e.2.flatMap λL=>(asgs r).map λa=>e.1.zip L++a
theorem zip_f{α β:Type}{f:α→β}:∀{l:List α} {x:α×β},x∈l.zip (l.map f)→f x.1=x.2
 | [],_,h=>by cases h
 |a::r,x,h=>by
  rcases vI h with rfl|h
  ·rfl
  ·exact zip_f h
theorem asgs_ok{I:Ins}:∀{es:List (List Nat×List (List PV))},(∀e∈es,e.1.map I.ho∈e.2)→∃a,a∈asgs es∧∀x∈a,I.ho x.1=x.2
 | [],_=>⟨[],.head _,λx hx=>(List.not_mem_nil hx).elim⟩
 |e::r,h=>x1_2 (asgs_ok λx hx=>h x (.tail _ hx)) λa ha h2=>⟨_,List.mem_flatMap.mpr ⟨_,h e (.head _),List.mem_map.mpr ⟨a,ha,rfl⟩⟩,λx hx=>(List.mem_append.mp hx).elim (λq=>zip_f q) (h2 x)⟩
noncomputable def St.mp(m:Mv)(s:St):St:=⟨s.vars.map λe=>(e.1,mvP m e.2),s.sto.map (mvL m),s.bd,s.dm,s.lv,(s.fs.map λe=>⟨e.f,mvL m e.args,e.res⟩).filter λe=>opnL e.args,[]⟩
noncomputable def spV(m:Mv)(n:Nat)(p:PV):Bool:=(opn p&&opn (mvP m p))||plstK false p λi=>Nat.blt i n
noncomputable def splB(st:List Nat→St)(Ss':Trie)(n0:Nat)(sel:List Nat→List Nat)(tc:List Nat→List (Nat×PV)→List Nat)(c:List Nat):Bool:=
 (asgs ((sel c).map λk=>(st c).dm.getD k ([],[[]]))).all λa=>(a.all λe=>clo e.2)&&((st c).vars.all λe=>spV ⟨[],a,[]⟩ ((st c).sto.length+1) e.2)&&((st c).sto.all λl=>opnL l&&opnL (mvL ⟨[],a,[]⟩ l))&&mvI st Ss' n0 ((st c).mp ⟨[],a,[]⟩) (tc c a)
theorem lk_map{α β:Type}{f:α→β}{x:Str}:∀{l:List (Str×α)},lk x (l.map λe=>(e.1,f e.2))=(lk x l).map f
 | []=>rfl
 |(y,v)::r=>by
  refine lk_c.trans (rwG (lk_c (x:=x) (y:=y) (v:=v) (r:=r)) ?_)
  by_cases q:eqS x y=true
  ·refine rwG (if_pos q) (rwG (if_pos q) ?_);rfl
  ·refine rwG (if_neg q) (rwG (if_neg q) ?_);exact lk_map
theorem ins_ext{I:Ins}{a:List (Nat×PV)}(hc:∀e∈a,clo e.2=true)(h:∀x∈a,I.ho x.1=x.2):(⟨[],a,[]⟩:Mv).ins I I.u=I:=by
 show(⟨I.th,λi=>@Option.casesOn _ (λ_=>PV) (nlk i a) (I.ho i) λp=>sub I p,I.u⟩:Ins)=I
 exact rwG (show(λi=>@Option.casesOn _ (λ_=>PV) (nlk i a) (I.ho i) λp=>sub I p)=I.ho from funext λi=>by
  cases e:nlk i a with
  |none=>rfl
  |some p=>exact(sub_clo (hc _ (nlk_mem e))).trans (h _ (nlk_mem e)).symm) rfl
section
variable{X:Fix}{A:Auto}{a:Addr}{n M:Nat}{R:RetP}(W:AOK X A a n M R)
include W
theorem Tr.split{Ss Ss':Trie}{n0 m:Nat}{sel:List Nat→List Nat}{tc:List Nat→List (Nat×PV)→List Nat}(h:(Ss.all (splB A.st Ss' n0 sel tc))=true)(hm:m≤M):Tr X A.fd a (n+5) R n0 m m (StsOK X A.st Ss) (StsOK X A.st Ss') []:=by
 refine Tr.conv W hm λI vars τ hI hP=>x1_2 hP λc hc hs=>?_
 refine rwG hs.va ?_
 refine rwG hs.st ?_
 have h:=Trie.all_mem h hc
 refine x1_2 (asgs_ok (I:=I) (es:=(sel c).map λk=>(A.st c).dm.getD k ([],[[]])) λe he=>?_) λb hb hag=>?_
 ·refine x1_2 (List.mem_map.mp he) λk _ he2=>?_;refine rwS he2 ?_;clear he2
  refine rwG (List.getD_eq_getElem?_getD) ?_
  cases q:(A.st c).dm[k]? with
  |none=>exact .head _
  |some e=>exact hs.fa.dm e (vN q)
 ·refine band4 ((vF h) b hb) λh1 h2 h3 h4=>?_
  have hx:=ins_ext (I:=I) (λe he=>(vF h1) e he) hag
  have sb:∀p,sub I (mvP ⟨[],b,[]⟩ p)=sub I p:=λp=>by rw[←mv_sub (u:=I.u),hx]
  have sbL:∀p,subL I (mvL ⟨[],b,[]⟩ p)=subL I p:=λp=>by rw[←mv_subL (u:=I.u),hx]
  refine mvI_ok h4 hI ⟨hs.fa.sh,hs.fa.bd,hs.fa.dm,λe he=>?_,λe he=>(List.not_mem_nil he).elim⟩ ⟨λx p' e=>?_,Nat.le_of_eq (List.length_map ..),λi xs' e=>?_⟩
  ·refine x0_2 (List.mem_filter.mp he) λk1 k2=>x1_2 (List.mem_map.mp k1) λe0 he0 e1=>?_
   subst e1
   exact⟨by rw[sbL];exact(hs.fa.fs e0 he0).1,k2⟩
  ·rw[show lk x ((A.st c).mp ⟨[],b,[]⟩).vars=_ from lk_map]at e
   refine x1_2 (Option.map_eq_some_iff.mp e) λp e0 e1=>⟨p,e0,?_⟩
   refine rwS e1 ?_;clear e1
   rcases vK ((vF h2) _ (lk_mem3 e0))with k|k
   ·exact band2 k λk1 k2=>.inr ⟨k2,k1,sb p⟩
   ·refine plstE (P:=λp=>ConvV I (((A.st c).mp ⟨[],b,[]⟩).sto.length+1) p I (mvP ⟨[],b,[]⟩ p)) k fT λj k=>.inl ⟨j,?_,rfl,rfl⟩
    refine rwG (show((A.st c).mp ⟨[],b,[]⟩).sto.length=(A.st c).sto.length from List.length_map ..) ?_
    exact vA k
  ·rw[show((A.st c).mp ⟨[],b,[]⟩).sto[i]?=_ from List.getElem?_map ..]at e
   refine x1_2 (Option.map_eq_some_iff.mp e) λxs e0 e1=>⟨xs,e0,?_⟩
   refine rwS e1 ?_;clear e1
   exact band2 ((vF h3) _ (vN e0)) λk1 k2=>⟨k2,k1,sbL xs⟩
end
structure Shp where
 a:PV
 b:PV
 bd:List (Nat×Nat)
 fs:List Ent
noncomputable def Shp.st(r:Shp):St:=⟨[],[],r.bd,[],124,r.fs,[]⟩
noncomputable def phO(X:Fix)(Rm:Trie)(sh:List Nat→Shp)(p:PV):Prop:=∃I c,Rm.mem c=true∧InsOK I∧FaOK X (sh c).st I∧p=.tup [sub I (sh c).a,sub I (sh c).b]
noncomputable def phF(X:Fix)(Rm:Nat→Trie)(sh:Nat→List Nat→Shp)(q a b:PV):Prop:=∃z,z<7∧q=KP z∧phO X (Rm z) (sh z) (.tup [a,b])
noncomputable def hk(i:Nat):Bool:=Nat.ble 3 i
noncomputable def tk(i:Nat):Bool:=Nat.ble 3 i&&Nat.blt i 64
noncomputable def hn(i:Nat):Bool:=!(hk i)
noncomputable def tn(i:Nat):Bool:=!(tk i)
noncomputable def entKp(h t:Nat→Bool)(e:Ent):Bool:=kpL h t e.args&&@Option.casesOn _ (λ_=>Bool) e.res true λr=>r.all λc=>isLit c||t (c-symB)
noncomputable def entPKp(h t:Nat→Bool)(e:EntP):Bool:=kpL h t e.args&&@Option.casesOn _ (λ_=>Bool) e.res true (kp h t)
theorem ent_kp{X:Fix}{n n':Nat}{h t:Nat→Bool}{I I':Ins}(hh:∀i,h i=true→I'.ho i=I.ho i)(ht:∀i,t i=true→I'.th i=I.th i)(hn:n≤n'){e:Ent}(x:Ent.ok X n I e)(k:entKp h t e=true):Ent.ok X n' I' e:=by
 refine band2 k λk1 k2=>?_
 have a:=kpL_ok hh ht k1
 refine⟨?_,x.2⟩
 have e1:e.res.map (den I'.th)=e.res.map (den I.th):=by
  cases q:e.res with
  |none=>rfl
  |some r=>rw[q]at k2;exact congrArg some (kpR_ok ht k2)
 refine rwG a.1 (rwG e1 ?_);exact x.1.mono hn
theorem entP_kp{X:Fix}{n n':Nat}{h t:Nat→Bool}{I I':Ins}(hh:∀i,h i=true→I'.ho i=I.ho i)(ht:∀i,t i=true→I'.th i=I.th i)(hn:n≤n'){e:EntP}(x:EntP.ok X n I e)(k:entPKp h t e=true):EntP.ok X n' I' e:=by
 refine band2 k λk1 k2=>?_
 have a:=kpL_ok hh ht k1
 refine⟨?_,x.2⟩
 have e1:e.res.map (sub I')=e.res.map (sub I):=by
  cases q:e.res with
  |none=>rfl
  |some r=>rw[q]at k2;exact congrArg some (kp_ok hh ht k2).1
 refine rwG a.1 (rwG e1 ?_);exact x.1.mono hn
noncomputable def St.call(s:St)(x:Str)(r:Shp):St:=⟨put nText r.b (put x r.a s.vars),s.sto,s.bd++r.bd,s.dm,124,s.fs++r.fs,s.ps⟩
noncomputable def frB(s:St):Bool:=(s.vars.all λe=>kp hk tk e.2||plstK false e.2 λi=>Nat.blt i (s.sto.length+1))&&s.sto.all (kpL hk tk)&&(s.bd.all λe=>tk e.1)&&(s.dm.all λe=>e.1.all hk)&&Nat.ble s.lv 124&&s.fs.all (entKp hk tk)&&s.ps.all (entPKp hk tk)
noncomputable def shB(r:Shp):Bool:=kp hn tn r.a&&kp hn tn r.b&&cln r.a&&cln r.b&&(r.bd.all λe=>tn e.1)&&r.fs.all (entKp hn tn)
noncomputable def callB(Rm:Nat→Trie)(sh:Nat→List Nat→Shp)(st:List Nat→St)(Ss':Trie)(n0:Nat)(x:Str)(z:List Nat→Nat)(cn:List Nat→List Nat→List Nat)(c:List Nat):Bool:=
 frB (st c)&&(Rm (z c)).all λr=>shB (sh (z c) r)&&mvI st Ss' n0 ((st c).call x (sh (z c) r)) (cn c r)
noncomputable def callEq(T:Top)(gf dr ph:Addr)(fd:FuncData)(cD:Nat)(s:Stmt)(z:Nat)(x:Str)(vars:List (Str×PV))(τ:Sto):Prop:=∀(out:PV→PV→PV→Prop) (k:KF),Internal.execs (lvl ⟨T,gf,tower T gf (spOr (spD dr) (spPh ph cD ((List.range 7).map KP) out)) 5⟩ lvlMax) [s] (frN fd vars) (penP 0::τ) k (λ_=>false)=pdec (∀a b,out (KP z) a b→k .next (frN fd (put nText b (put x a vars))) (penP cD::τ)=true)
theorem lk_put_same{α:Type}{x:Str}{v:α}{l:List (Str×α)}:lk x (put x v l)=some v:=by rw[lk_put,if_pos rfl]
theorem lk_put_ne{α:Type}{x y:Str}(h:y≠x){v:α}{l:List (Str×α)}:lk y (put x v l)=lk y l:=by rw[lk_put,if_neg h]
noncomputable def insM(I J:Ins)(u:Nat):Ins:=⟨λi=>if tk i then I.th i else J.th i,λi=>if hk i then I.ho i else J.ho i,u⟩
theorem ite_p{α:Type}{P:α→Prop}{c:Prop}[Decidable c]{x y:α}(h:P x)(k:P y):P (if c then x else y):=by
 by_cases q:c
 ·rw[if_pos q];exact h
 ·rw[if_neg q];exact k
theorem insM_ok{I J:Ins}(hI:InsOK I)(hJ:InsOK J)(u:Nat):InsOK (insM I J u):=by
 refine⟨λi=>?_,λi=>ite_p (P:=λp=>clo p=true) (hI.ho i) (hJ.ho i),hJ.ky.of λi hi=>if_neg λq=>band2 q λ_ q=>absurd (vA q) (vL hi)⟩
 exact ite_p (P:=λr=>r≠[]∧r.length≤4096∧litR r=true) (hI.th i) (hJ.th i)
theorem bnot{b:Bool}(h:(!b)=true):¬b=true:=λq=>by rw[q]at h;exact absF h
section
variable{X:Fix}{A:Auto}{a:Addr}{n M:Nat}{R:RetP}(W:AOK X A a n M R)
include W
theorem Tr.call{Rm:Nat→Trie}{sh:Nat→List Nat→Shp}{dr ph:Addr}{cD:Nat}(hsp:∀I,InsOK I→I.u≤M→SpOK (X.ins I) n (spOr (spD dr) (spPh ph cD ((List.range 7).map KP) (phF X Rm sh)))){Ss Ss':Trie}{n0 m:Nat}{x:Str}(hx:x≠nText){z:List Nat→Nat}{cn:List Nat→List Nat→List Nat}{s:Stmt}(hz:∀c,Ss.mem c=true→z c<7)(hinj:∀i,i<7→∀j,j<7→KP i=KP j→i=j)(eq:∀c,Ss.mem c=true→callEq A.T A.gf dr ph A.fd cD s (z c) x (A.st c).vars (A.st c).sto)(h:(Ss.all (callB Rm sh A.st Ss' n0 x z cn))=true)(hm:m≤M) :
  Tr X A.fd a (n+5) R n0 m (m+cD) (StsOK X A.st Ss) (StsOK X A.st Ss') [s]:=by
 refine Tr.run (L:=lvl ⟨A.T,A.gf,tower A.T A.gf (spOr (spD dr) (spPh ph cD ((List.range 7).map KP) (phF X Rm sh))) 5⟩ lvlMax) (n:=cD) (λI hI hu=>?_) (vD _) λI vars τ hI hP=>?_
 ·refine x1_1 W.hG λG hG=>?_
  have O:=(W.B.ins hI).O
  refine lvlX_ok O (raise_ok O (G:=G) hG _) W.eT W.eg ?_ lvlMax
  rw[W.eT,W.eg];exact tower_ok O (λd=>raise_ok O (G:=G) hG d) (hsp I hI (by lia)) 5
 ·refine x1_2 hP λc hc hs=>?_
  refine rwG hs.va ?_
  refine rwG hs.st ?_
  refine⟨λfl ρ σ=>pdec (fl=.next∧∃p q,phF X Rm sh (KP (z c)) p q∧ρ=frN A.fd (put nText q (put x p (A.st c).vars))∧σ=penP cD::(A.st c).sto),λfl ρ σ hk=>?_,?_⟩
  ·refine x0_2 (pdec_iff.mp hk) λhe0=>?_;refine rwG he0 ?_;clear he0;intro hq;refine x2_3 hq λp q ho he1=>?_;refine rwG he1 ?_;clear he1;intro he2;refine rwG he2 ?_;clear he2;clear hq hk
   refine⟨cD,(A.st c).sto,rfl,vD _,?_⟩
   refine x1_3 ho λz' hz' ez hO=>?_
   obtain rfl:=hinj _ (hz c hc) _ hz' ez
   refine x2_4 hO λJ r hr hJ hf e=>?_
   obtain⟨rfl,rfl⟩:p=sub J (sh (z c) r).a∧q=sub J (sh (z c) r).b:=by injection e with e;injection e with e1 e;injection e with e2 e;exact⟨e1,e2⟩
   refine band2 (Trie.all_mem h hc) λh1 h2=>band2 (Trie.all_mem h2 hr) λh2 h3=>band7 h1 λf1 f2 f3 f4 f5 f6 f7=>band6 h2 λg1 g2 g3 g4 g5 g6=>?_
   have a1:∀i,Internal.hk i=true→(insM I J (cD+I.u)).ho i=I.ho i:=λi q=>if_pos q
   have a2:∀i,tk i=true→(insM I J (cD+I.u)).th i=I.th i:=λi q=>if_pos q
   have b1:∀i,hn i=true→(insM I J (cD+I.u)).ho i=J.ho i:=λi q=>if_neg (bnot q)
   have b2:∀i,tn i=true→(insM I J (cD+I.u)).th i=J.th i:=λi q=>if_neg (bnot q)
   have f5:=vA f5
   refine x3_5 (mvI_ok h3 (insM_ok hI hJ (cD+I.u)) (X:=X) (I:=I) (vs:=put nText (sub J (sh (z c) r).b) (put x (sub J (sh (z c) r).a) (A.st c).vars)) (τ:=(A.st c).sto) ⟨λi=>ite_p (P:=λr:List Nat=>r.length≤300) (hs.fa.sh i) (hf.sh i),λe he=>?_,λe he=>?_,λe he=>?_,λe he=>?_⟩ ⟨λy p' e=>?_,vD _,λi xs e=>⟨xs,e,?_⟩⟩) λI' v' t' q1 q2 q3 q4 q5=>⟨I',v',t',q1,q2.symm,q3,q4,q5⟩
   ·rcases List.mem_append.mp he with he|he
    ·refine rwG (a2 _ ((vF f3) e he)) ?_;exact hs.fa.bd e he
    ·refine rwG (b2 _ ((vF g5) e he)) ?_;exact hf.bd e he
   ·refine rwG (List.map_congr_left λi hi=>a1 i ((vF ((vF f4) e he)) i hi)) ?_;exact hs.fa.dm e he
   ·rcases List.mem_append.mp he with he|he
    ·exact ent_kp a1 a2 f5 (hs.fa.fs e he) ((vF f6) e he)
    ·exact ent_kp b1 b2 (vD _) (hf.fs e he) ((vF g6) e he)
   ·exact entP_kp a1 a2 f5 (hs.fa.ps e he) ((vF f7) e he)
   ·have own:∀{w:PV},kp hn tn w=true→cln w=true→ConvV I ((A.st c).sto.length+1) (sub J w) (insM I J (cD+I.u)) w:=λk1 k2=>.inr ⟨(kp_ok b1 b2 k1).2,clo_opn (cln_ok hJ k2).1,(kp_ok b1 b2 k1).1.trans (sub_clo (cln_ok hJ k2).1).symm⟩
    have e:lk y (put nText (sh (z c) r).b (put x (sh (z c) r).a (A.st c).vars))=some p':=e
    by_cases y1:y=nText
    ·subst y1
     rw[lk_put_same]at e ⊢
     refine rwS (vC e) ?_
     exact⟨_,rfl,own g2 g4⟩
    ·rw[lk_put_ne y1]at e ⊢
     by_cases y2:y=x
     ·subst y2
      rw[lk_put_same]at e ⊢
      refine rwS (vC e) ?_
      exact⟨_,rfl,own g1 g3⟩
     ·rw[lk_put_ne y2]at e ⊢
      refine⟨p',e,?_⟩
      rcases vK ((vF f1) _ (lk_mem3 e))with k|k
      ·have k:=kp_ok a1 a2 k
       exact .inr ⟨k.2,k.2,k.1⟩
      ·exact plstE (P:=λp'=>ConvV I ((A.st c).sto.length+1) p' (insM I J (cD+I.u)) p') k fT λi k=>.inl ⟨i,vA k,rfl,rfl⟩
   ·have k:=kpL_ok a1 a2 ((vF f2) _ (vN e))
    exact⟨k.2,k.2,k.1⟩
  ·rw[W.fr,eq c hc]
   exact pdec_iff.mpr λp q hpq=>pdec_iff.mpr ⟨rfl,p,q,hpq,rfl,rfl⟩
end
end
section
theorem SpOK.mono{X:Fix}{d d':Nat}{sp:Spc}(h:SpOK X d sp)(hd:d≤d'):SpOK X d' sp:=by
 intro A fe outer F g σ s v c vs ps k kx t am R fs r q hs ht
 exact h (am.le hd) R fs r q hs ht
theorem Trie.all_of{p:List Nat→Bool}(h:∀c,p c=true):∀T:Trie,T.all p=true
 |.nil=>h []
 |.or a b=>Bool.and_eq_true_iff.mpr ⟨Trie.all_of h a,Trie.all_of h b⟩
 |.node ds f=>List.all_eq_true.mpr λd _=>Trie.all_of (λc=>h (d::c)) (f d)
theorem consI{α β:Type}{P:β→Prop}{d:β}{k:α→List α→β}(h:P d)(f:∀a r,P (k a r)):∀l,P (consK d l k)
 | []=>h
 |a::r=>f a r
noncomputable def wordL:List (List Nat):=[[79,78,32,83,73,90,69,32,69,82,82,79,82],[78,79,84,32,79,78,32,83,73,90,69,32,69,82,82,79,82],[79,78,32,79,86,69,82,70,76,79,87],[78,79,84,32,79,78,32,79,86,69,82,70,76,79,87],[65,84,32,69,78,68],[78,79,84,32,65,84,32,69,78,68],[73,78,86,65,76,73,68,32,75,69,89],[78,79,84,32,73,78,86,65,76,73,68,32,75,69,89],[79,78,32,69,88,67,69,80,84,73,79,78],[78,79,84,32,79,78,32,69,88,67,69,80,84,73,79,78]]
noncomputable def wordT(k:Nat):List Nat:=wordL.getD k []
noncomputable def bodyP(w:Nat):PV:=.tup (match w with
 |0=>[.tup [.str [99,111,110,116,105,110,117,101]]]
 |1=>[.tup [.str [101,120,105,116]],.tup [.str [115,116,111,112]]]
 |_=>[])
noncomputable def bodyT(w:Nat):Option (List Nat):=match w with
 |0=>some [67,79,78,84,73,78,85,69]
 |1=>some [69,88,73,84,32,83,84,79,80,32,82,85,78]
 |_=>none
noncomputable def bodyO(w:Nat):PV:=.tup [bodyP w,@Option.casesOn (List Nat) (λ_=>PV) (bodyT w) .none λt=>.str t]
noncomputable def bodyC:List PV:=[bodyO 0,bodyO 1,bodyO 0,bodyO 2]
noncomputable def bdT:Sto→KV→KX→Bool:=λσ k _=>consK false σ λxs τ=>ifS false (penAt xs) λt=>Nat.ble t 400&&(k (bodyO 0) (penP (t+1)::τ)&&(k (bodyO 1) (penP (t+1)::τ)&&k (bodyO 2) (penP (t+1)::τ)))
noncomputable def spB:Spc:=λc args=>poldK none c λa=>oneK none args λp=>plstK none p λi=>if Nat.beq a 587&&Nat.beq i 0 then some bdT else none
noncomputable def BodyRun(T:Top)(gf dr:Addr):Prop:=∀(σ:Sto) (k:KV) (kx:KX),bdT σ k kx=true→tower T gf (spD dr) 3 (.old 587) [.lst 0] σ k kx=true
noncomputable abbrev spDB(dr:Nat):Spc:=spOr (spD dr) spB
theorem spDB_ok{X:Fix}{I:Ins}(O:FixOK (X.ins I)){G:GfD}(hG:GfOK X.B X.gf G){dr:Addr}(hr:DrawRun X.T X.gf dr)(hb:BodyRun X.T X.gf dr)(hu:I.u≤800000){d:Nat}:SpOK (X.ins I) (d+4) (spDB dr):=by
 refine spOr_ok (SpOK.mono (spD_ok O hG hr hu (d:=d)) (by lia)) ?_
 intro A fe outer F g σ s v c vs ps k kx t am R fs r q hs h
 revert r
 refine poldE hs nS λa hs r=>?_
 revert q
 refine oneE hs nS λp hs=>plstE hs nS λi hs=>ifB hs nS λhc hx q=>band2 hc λc1 c2=>?_
 obtain rfl:=vB c1
 obtain rfl:=vB c2
 obtain rfl:=vC hx
 exact tower_ok O (λd {_}=>raise_ok O (G:=G) hG d) (spD_ok O hG hr hu (d:=d)) 3 am R fs r q (hb _ _ _ h)
noncomputable def leafTab(sh:Addr):List Ent:=[⟨sh,[.tup [.str [99,111,110,116,105,110,117,101]],.int 1],bodyT 0⟩,⟨sh,[.tup [.str [101,120,105,116]],.int 1],some [69,88,73,84]⟩,⟨sh,[.tup [.str [115,116,111,112]],.int 1],some [83,84,79,80,32,82,85,78]⟩]
noncomputable def baseB(T:Top)(gf:Addr)(e:Ent):Bool:=tower T gf (tabSp T.K T.sh (leafTab T.sh)) 30 (.old e.f) e.args [] (kG e.res) (kxG e.res)
noncomputable def basePB(T:Top)(gf:Addr)(e:EntP):Bool:=tower T gf (tabSp T.K T.sh (leafTab T.sh)) 30 (.old e.f) e.args [] (kGP e.res) (kxGP e.res)
noncomputable def fxd(p:PV):Bool:=clo p||pholeK false p λi=>Nat.beq i 998
theorem fxd_ok{I:Ins}{p:PV}(h:fxd p=true):sub I p=p∧opn p=true:=by
 rcases vK h with h|h
 ·exact⟨sub_clo h,clo_opn h⟩
 ·exact pholeE (P:=λp=>sub I p=p∧opn p=true) h fT λi h=>by refine rwG (vB h) ?_;exact⟨rfl,rfl⟩
theorem fxdL_ok{I:Ins}:∀{ps:List PV},ps.all fxd=true→subL I ps=ps∧opnL ps=true
 | [],_=>⟨rfl,rfl⟩
 |p::r,h=>band2 h λh1 h2=>by
  have a:=fxd_ok (I:=I) h1
  have b:=fxdL_ok (I:=I) h2
  exact⟨by rw[subL_c,a.1,b.1],by show(opn p&&opnL r)=true;rw[a.2,b.2];rfl⟩
noncomputable def baseCk(e:Ent):Bool:=e.args.all fxd&&@Option.casesOn _ (λ_=>Bool) e.res true litR
noncomputable def basePCk(e:EntP):Bool:=e.args.all fxd&&@Option.casesOn _ (λ_=>Bool) e.res true λp=>clo p&&cln p
noncomputable def leafRun(T:Top)(gf:Addr):Prop:=((leafTab T.sh).all λe=>tower T gf (tabSp T.K T.sh []) 30 (.old e.f) e.args [] (kG e.res) (kxG e.res))=true
section
variable{X:Fix}(B:BaseOK X){G:GfD}(hG:GfOK X.B X.gf G)(hL:leafRun X.T X.gf)
include B hG hL
theorem leaf_gives:∀e∈leafTab X.T.sh,Ent.ok X 31 (ins97 0) e:=λe he=>by
 have ho:opnL e.args=true:=vF (show((leafTab X.T.sh).all λe=>opnL e.args)=true from rfl) e he
 exact⟨gives_run B (ins97_ok 0) hG (n:=0) (tab:=[]) (λe he=>(List.not_mem_nil he).elim) ho ((vF hL) e he),ho⟩
theorem base_ok{base:List Ent}(hc:(base.all baseCk)=true)(hr:(base.all (baseB X.T X.gf))=true):∀I,InsOK I→∀e∈base,Ent.ok X 93 I e:=λI hI e he=>by
 refine band2 ((vF hc) e he) λh1 h2=>?_
 have g:Gives X 62 e.f (subL (ins97 0) e.args) (e.res.map (den (ins97 0).th)):=gives_run B (ins97_ok 0) hG (n:=31) (leaf_gives B hG hL) (fxdL_ok (I:=(ins97 0)) h1).2 ((vF hr) e he)
 have e1:∀J:Ins,e.res.map (den J.th)=e.res:=λJ=>by
  cases q:e.res with
  |none=>rfl
  |some r=>rw[q]at h2;exact congrArg some (den_lit h2)
 rw[(fxdL_ok h1).1,e1]at g
 have k:=fxdL_ok (I:=I) h1
 exact⟨by rw[k.1,e1];exact g.mono (vA rfl),k.2⟩
theorem baseP_ok{base:List EntP}(hc:(base.all basePCk)=true)(hr:(base.all (basePB X.T X.gf))=true):∀I,InsOK I→∀e∈base,EntP.ok X 93 I e:=λI hI e he=>by
 refine band2 ((vF hc) e he) λh1 h2=>?_
 have hcl:∀p,e.res=some p→clo p=true∧cln p=true:=λp q=>by rw[q]at h2;exact vJ h2
 have g:GivesP X (63+30) e.f (subL (ins97 0) e.args) (e.res.map (sub (ins97 0))):=gives_runP B (ins97_ok 0) hG (n:=63) (SpOK.mono (tabSp_ok B (ins97_ok 0) (leaf_gives B hG hL)) (vA rfl)) (fxdL_ok (I:=(ins97 0)) h1).2 (λp q=>(hcl p q).2) ((vF hr) e he)
 have e1:∀J:Ins,e.res.map (sub J)=e.res:=λJ=>by
  cases q:e.res with
  |none=>rfl
  |some r=>exact congrArg some (sub_clo (hcl r q).1)
 rw[(fxdL_ok h1).1,e1]at g
 have k:=fxdL_ok (I:=I) h1
 exact⟨by rw[k.1,e1];exact g,k.2,λp q=>clo_opn (hcl p q).1⟩
end
noncomputable abbrev nRes:Str:=Str.ofString "res"
noncomputable def kz(z:Nat):List Nat:=KL.getD z []
noncomputable def pos:List Nat→Nat→Nat
 | [],_=>0
 |x::r,k=>if Nat.beq x k then 0 else pos r k+1
noncomputable def inK(K:List Nat)(k:Nat):Bool:=Nat.blt (pos K k) K.length
noncomputable def lastS(K:List Nat):List Nat→Nat→Nat
 | [],s=>s
 |k::r,s=>lastS K r (if inK K k&&Nat.ble s (pos K k)then pos K k+1 else s)
noncomputable def keyW(z i k:Nat):List Nat:=if Nat.beq k 10 then[symB+(64+(3*z+i))]else if Nat.beq k 11 then[symB+(85+i)]else keyT k
noncomputable def entL(z:Nat):List Nat→Nat→List PV
 | [],_=>[]
 |k::r,i=>.tup [.str (keyW z i k),.hole i]::entL z r (i+1)
noncomputable def ropeT:List Nat→Nat→List Nat
 | [],_=>[]
 |k::r,i=>(32::wordT k++[32,symB+i])++ropeT r (i+1)
noncomputable def bdE(sb:Addr)(i:Nat)(g:Bool):Ent:=⟨sb,[.hole i,.hole 998],if g then some [symB+i]else none⟩
noncomputable def phF1(sb:Addr)(s n:Nat):List Ent:=if Nat.beq s 9 then[]else if Nat.beq s 0 then(List.range n).map λi=>bdE sb i true else((List.range (s-1)).map λi=>bdE sb i true)++[bdE sb (s-1) false]
noncomputable def bd13:List (Nat×Nat):=[(0,13),(1,13),(2,13)]
noncomputable def txS(s:Nat)(ks:List Nat):PV:=if Nat.beq s 0 then .str (ropeT ks 0)else .none
noncomputable def st0:St:=⟨[],[],[],[],0,[],[]⟩
noncomputable def phSt(z:Nat)(sb:Addr)(c:List Nat):St:=consK st0 c λt r=>if Nat.beq t 0 then⟨[(nPen,.lst 0),(nKeys,KP z)],[],[],[],93,[],[]⟩else consK st0 r λs ks=>⟨[(nPen,.lst 0),(nKeys,KP z),(nFound,.lst 1),(nText,txS s ks),(nLast,.int ((lastS (kz z) ks 0:Int)-1))],[entL z ks 0],bd13,[],93,phF1 sb s ks.length,[]⟩
noncomputable def inT(K:List Nat):Nat→Nat→Trie
 |0,_=>.nil
 |n+1,s=>.node (K.drop s) λd=>inT K n (pos K d+1)
noncomputable def anyT(K:List Nat):Nat→Trie
 |0=>.nil
 |n+1=>.node (K++[10]) λ_=>anyT K n
noncomputable def outT(K:List Nat):Nat→Nat→Trie
 |0,_=>.none
 |n+1,s=>.or (.node (K.drop s) λd=>outT K n (pos K d+1)) (.node (K.take s++[10]) λ_=>anyT K n)
noncomputable def phT(z j:Nat):Trie:=.or (.node (0::(List.range j).map (· + 1)) λ_=>inT (kz z) j 0) (.node [9] λ_=>outT (kz z) j 0)
noncomputable def phW(z j:Nat):Trie:=.node [1] λ_=>phT z j
noncomputable def posT:List (List Nat)→List Nat→Nat
 | [],_=>0
 |x::r,k=>if eqL x k then 0 else posT r k+1
noncomputable def rdKey(p:PV):Nat:=ptupK 10 p λxs=>twoK 10 xs λa _=>pstrK 10 a (posT keyL)
noncomputable def bodyOf(p:PV):Nat:=ptupK 2 p λxs=>twoK 2 xs λ_ b=>if pvB b (bodyP 0)then 0 else if pvB b (bodyP 1)then 1 else 2
noncomputable def phM0:MsF:=λ_ _ _=>[⟨[1,0],[],[(0,[97]),(1,[97]),(2,[97])]⟩]
noncomputable def phMv(z s:Nat)(ks:List Nat)(k w:Nat):Mv:=
 let K:=kz z
 let j:=ks.length
 let well:=!(Nat.beq s 9)&&inK K k&&Nat.ble (lastS K ks 0) (pos K k)
 let d:=if inK K k then k else 10
 ⟨1::(if well then(if Nat.beq s 0 then(if(bodyT w).isSome then 0 else j+1)else s)else 9)::(ks++[d]),[(j,bodyP w)],(j,(bodyT w).getD [97])::(if Nat.beq d 10 then[(64+(3*z+j),keyT k),(164+(3*z+j),cut5 (keyT k))]else[])⟩
noncomputable def phM1(z:Nat):MsF:=λc _ τ=>consK [] c λ_ r=>consK [] r λs ks=>figP (rdKey ((τ.getD 0 []).getD ks.length .none)) λk=>figP (bodyOf ((τ.getD 0 []).getD ks.length .none)) λw=>[phMv z s ks k w]
noncomputable def phR(z:Nat):Trie:=if Nat.beq z 2 then Trie.ors ((List.range 4).map (phT 2))else .node [0,1,2] λ_=>.nil
noncomputable def brE(z:Nat)(br:Addr)(r:Option (List Nat)):Ent:=⟨br,[.hole 0,KP z,.hole 998],r⟩
noncomputable def phSh(br sb z:Nat)(c:List Nat):Shp:=consK ⟨.none,.none,[],[]⟩ c λs ks=>if Nat.beq z 2 then⟨.tup (entL 2 ks 0),txS s ks,bd13,phF1 sb s ks.length⟩else if Nat.beq s 0 then⟨.tup [],.str [],[],[]⟩else if Nat.beq s 1 then⟨.hole 0,.str [32,symB],[],[brE z br (some [symB])]⟩else⟨.hole 0,.none,[],[brE z br none]⟩
noncomputable def phMr(z:Nat)(c:List Nat):Mv:=consK ⟨[],[],[]⟩ c λ_ r=>consK ⟨[],[],[]⟩ r λs ks=>if Nat.beq z 2 then⟨r,[],[]⟩else if ks.isEmpty then⟨[0],[],[]⟩else if Nat.beq s 0 then⟨[1],[(0,.tup (entL z ks 0))],[(0,(ropeT ks 0).tail)]⟩else⟨[2],[(0,.tup (entL z ks 0))],[]⟩
noncomputable def Shp.res(r:Shp):St:=⟨[(nRes,.tup [r.a,r.b])],[],r.bd,[],124,r.fs,[]⟩
noncomputable def retB(Rm:Trie)(sh:List Nat→Shp)(o:St)(der:Ent→Bool)(m:Mv)(p:PV):Bool:=figL m.c λc'=>Rm.mem c'&&cln (.tup [(sh c').a,(sh c').b])&&mvB (sh c').res 0 o der m [(nRes,p)] []
noncomputable def bodyBase(sb:Addr):List Ent:=(List.range 3).map λw=>⟨sb,[bodyP w,.hole 998],bodyT w⟩
noncomputable def phPre(T:Top)(gf dr sb:Addr)(fd:FuncData)(z:Nat)(good:List Nat→PV→Bool):Auto:=⟨T,gf,spDB dr,fd,phSt z sb,bodyBase sb,[],good⟩
noncomputable def phA(T:Top)(gf dr br sb:Addr)(fd:FuncData)(z:Nat):Auto:=phPre T gf dr sb fd z λc p=>retB (phR z) (phSh br sb z) ((phPre T gf dr sb fd z λ_ _=>false).old c) ((phPre T gf dr sb fd z λ_ _=>false).der c) (phMr z c) p
structure PhP where
 o:Obj
 fd:FuncData
 s0:List Stmt
 pD:Pos
 pos:Pos
 iter:Expr
 body:List Stmt
 s2:List Stmt
structure PhRun(T:Top)(gf dr br sb:Addr)(S:PhP)(z:Nat):Prop where
 r0:(Trie.all (.node [0] λ_=>.nil) ((phA T gf dr br sb S.fd z).run (phW z 0) 0 0 phM0 id S.s0))=true
 r1:((phW z 0).all ((phA T gf dr br sb S.fd z).src 3 1 0 S.iter))=true
 r2:∀j,j<3→((phW z j).all ((phA T gf dr br sb S.fd z).run (phW z (j+1)) 4 1 (phM1 z) (put nTurn (.int (j:Int))) S.body))=true
 r3:((Trie.ors ((List.range 4).map (phW z))).all ((phA T gf dr br sb S.fd z).run .none 0 0 (λ_ _ _=>[]) id S.s2))=true
structure PhIs(K:Frag)(ph:Addr)(S:PhP):Prop where
 is:FnIs K ph S.o S.fd [nPen,nKeys] (S.s0++([.For (.Name nTurn S.pD) S.iter S.body [] S.pos]++S.s2))
 good:(notSet S.iter&&isLc S.fd.scope nTurn)=true
theorem retB_ok{X:Fix}{I:Ins}(hI:InsOK I){Rm:Trie}{sh:List Nat→Shp}{o:St}{der:Ent→Bool}{m:Mv}{p:PV}(hf:FaOK X o I)(hd:∀e,der e=true→Ent.ok X (o.lv+31) I e)(h:retB Rm sh o der m p=true){g:GW}{v:Value}(rv:RepV (X.ins I) g v p):Out X (phO X Rm sh) g.Γ v:=by
 unfold retB at h
 rw[figL_eq]at h
 refine band3 h λh1 h2 h3=>x0_4 (mvB_ok hI hf hd h3 I.u) λk1 k2 k3 _=>?_
 refine x1_2 (k3.va nRes _ (show lk nRes [(nRes,_)]=some _ from lk_c.trans (if_pos (eqS_self _)))) λq e c=>?_
 obtain rfl:=vC ((show lk nRes [(nRes,p)]=some p from lk_c.trans (if_pos (eqS_self _))).symm.trans e)
 rcases c with⟨i,_,e1,_⟩|⟨c1,c2,c3⟩
 ·cases e1
 ·refine⟨_,⟨_,m.c,h1,k1,⟨k2.fa.sh,k2.fa.bd,k2.fa.dm,k2.fa.fs,k2.fa.ps⟩,rfl⟩,(cln_ok k1 h2).1,?_⟩
  have e1:sub I p=.tup [sub (m.ins I I.u) (sh m.c).a,sub (m.ins I I.u) (sh m.c).b]:=c3.symm
  refine rwS e1 ?_;exact rep_to (g:=g) (g':=⟨g.Γ,[]⟩) hI (λ_ _ e=>e) rv c2
section
variable{X:Fix}(B:BaseOK X){G:GfD}(hG:GfOK X.B X.gf G)(hL:leafRun X.T X.gf){dr br sb ph:Addr}(hdr:DrawRun X.T X.gf dr)(hbd:BodyRun X.T X.gf dr)(hb:((bodyBase sb).all (baseB X.T X.gf))=true){S:PhP}(hS:PhIs X.T.K ph S)(hsh:Nat.beq ph X.T.sh=false){z:Nat}(hr:PhRun X.T X.gf dr br sb S z)
include B hG hL hdr hbd hb hS hsh hr
theorem phrases_draws(hz:z<7):Draws X 11 ph [KP z] 13 700000 (phO X (phR z) (phSh br sb z)):=by
 have W:AOK X (phA X.T X.gf dr br sb S.fd z) ph 5 720000 (Out X (phO X (phR z) (phSh br sb z))):=⟨B,⟨G,hG⟩,rfl,rfl,hsh,λI hI hu=>spDB_ok (d:=1) (B.ins hI).O hG hdr hbd (by lia),base_ok B hG hL (by kernel_rfl) hb,λI hI e he=>(List.not_mem_nil he).elim,λc I hl hI hf hd p hp g v rv=>retB_ok hI hf hd hp rv⟩
 have hv:∀z,z<7→(([(nPen,.lst 0),(nKeys,KP z)]:List (Str×PV)).all λe=>cl0 e.2)=true:=by decide +kernel
 refine W.draws hS.is (c0:=[0]) (Ss:=.node [0] λ_=>.nil) rfl (lv:=93) rfl rfl (hv z hz) rfl (Q:=StsOK X (phA X.T X.gf dr br sb S.fd z).st .none) (λI vs τ h=>x1_2 h λc hc _=>?_) (M0:=700000) (vA rfl) λm hm=>?_
 ·cases c with
  |nil=>exact absF hc
  |cons=>exact absF hc
 ·have hl:((List.range (3+1)).all λi=>(phW z i).all λc=>Nat.ble ((phA X.T X.gf dr br sb S.fd z).st c).sto.length 1)=true:=
   List.all_eq_true.mpr λi _=>Trie.all_of (consI (P:=λs:St=>Nat.ble s.sto.length 1=true) rfl λt r=>ite_p (P:=λs:St=>Nat.ble s.sto.length 1=true) rfl (consI (P:=λs:St=>Nat.ble s.sto.length 1=true) rfl (λs ks=>rfl) r)) _
  have T0:=Tr.loop W (n0:=0) (nb:=1) (m:=m) (pD:=S.pD) (pos:=S.pos) hS.good hr.r0 hr.r1 hr.r2 hl (by lia)
  exact List.append_assoc ..▸Tr.seq T0 (Tr.auto0 W hr.r3 (vD _) (by lia)) (vD _)
end
end
section
noncomputable def Trie.AllP:Trie→(List Nat→Prop)→Prop
 |.nil,p=>p []
 |.or a b,p=>a.AllP p∧b.AllP p
 |.node ds f,p=>∀d∈ds,(f d).AllP λc=>p (d::c)
theorem Trie.allP:∀{T:Trie} {p:List Nat→Prop} {c:List Nat},T.AllP p→T.mem c=true→p c
 |.nil,p,c,h,hc=>by refine rwG (List.isEmpty_iff.mp hc) ?_;exact h
 |.or a b,p,c,h,hc=>(vK hc).elim (λq=>Trie.allP (T:=a) h.1 q) λq=>Trie.allP (T:=b) h.2 q
 |.node ds f,p,c,h,hc=>consE (P:=p) hc fT λd r hc=>band2 hc λh1 h2=>by
  refine x1_2 (vG h1) λd' hd e=>?_
  obtain rfl:=vB e
  exact Trie.allP (T:=f d) (p:=λc=>p (d::c)) (h d hd) h2
theorem Trie.all_ors{p:List Nat→Bool}:∀{l:List Trie},(∀T∈l,T.all p=true)→(Trie.ors l).all p=true
 | [],_=>rfl
 |a::r,h=>Bool.and_eq_true_iff.mpr ⟨h a (.head _),Trie.all_ors λT hT=>h T (.tail _ hT)⟩
structure WOK(X:Fix)(dr ph br sb:Addr)(SS:ShP):Prop where
 B:BaseOK X
 hG:∃G,GfOK X.B X.gf G
 hL:leafRun X.T X.gf
 hdr:DrawRun X.T X.gf dr
 hbd:BodyRun X.T X.gf dr
 sh:ShIs X.T.K X.T.sh SS
 ph:∀z,z<7→Draws X 11 ph [KP z] 13 700000 (phO X (phR z) (phSh br sb z))
noncomputable def wyA(T:Top)(gf dr:Addr)(SS:ShP)(fd:FuncData)(st:List Nat→St)(base:List Ent)(baseP:List EntP):Auto:=⟨T,gf,spDB dr,fd,st,base,baseP,λc p=>Nat.ble (st c).lv 190&&rightBS T gf (spOr (tabSp T.K T.sh (st c).fs) (spTab (st c).ps)) SS p⟩
noncomputable abbrev phSp(X:Fix)(dr ph br sb:Addr):Spc:=spOr (spD dr) (spPh ph 13 ((List.range 7).map KP) (phF X phR (phSh br sb)))
theorem kp_clo:∀z,z<7→clo (KP z)=true:=by decide +kernel
theorem kp_inj:∀i,i<7→∀j,j<7→KP i=KP j→i=j:=λi hi j hj e=>by
 have h:∀i,i<7→pvB (KP i) (KP i)=true∧∀j,j<7→(pvB (KP i) (KP j)=true→i=j):=by decide +kernel
 exact(h i hi).2 j hj (e▸(h i hi).1)
noncomputable def stS:St:=⟨[(nPen,.lst 0)],[],[],[],93,[],[]⟩
section
variable{X:Fix}{dr ph br sb:Addr}{SS:ShP}(W:WOK X dr ph br sb SS)
include W
theorem WOK.sp{I:Ins}(hI:InsOK I)(hu:I.u≤600000):SpOK (X.ins I) 11 (phSp X dr ph br sb):=by
 refine x1_1 W.hG λG hG=>spOr_ok (spD_ok (d:=10) (W.B.ins hI).O hG W.hdr (by lia)) (spPh_ok (M:=700000) W.B.O.byt (λJ hJ=>(W.B.ins hJ).O.byt) (λK hK=>?_) hI (by lia))
 refine x1_2 (List.mem_map.mp hK) λz hz he2=>?_;refine rwS he2 ?_;clear he2
 have hz:=List.mem_range.mp hz
 refine⟨kp_clo z hz,⟨?_⟩⟩
 intro A fe outer F g s v vs I am hI hu R fs r q
 refine wpAny_mono ((W.ph z hz).go am hI hu R fs r q) (λu s' hz1=>?_) λ_ _ q=>q
 refine x1_3 hz1 λg' t R' hq3=>x1_3 hq3 λp h1 h2 h3=>⟨g',t,R',p,x2_4 h1 λJ c a1 a2 a3 a4=>⟨_,_,⟨z,hz,rfl,a4▸h1⟩,a4⟩,h2,h3⟩
theorem way_ok{a:Addr}{fd:FuncData}{st:List Nat→St}{base:List Ent}{baseP:List EntP}(hsh:Nat.beq a X.T.sh=false)(hb:∀I,InsOK I→∀e∈base,Ent.ok X 93 I e)(hp:∀I,InsOK I→∀e∈baseP,EntP.ok X 93 I e):AOK X (wyA X.T X.gf dr SS fd st base baseP) a 11 550000 (Out X (rOut X)):=by
 refine⟨W.B,W.hG,rfl,rfl,hsh,λI hI hu=>x1_1 W.hG λG hG=>spDB_ok (d:=7) (W.B.ins hI).O hG W.hdr W.hbd (by lia),hb,hp,λc I hl hI hf hd p hp g v rv=>band2 hp λh1 h2=>x1_1 W.hG λG hG=>?_⟩
 have h1:=vA h1
 exact rightBS_ok W.B hG W.sh hI hf.sh (n:=(st c).lv+1) (by lia) (spOr_ok (tabSp_ok W.B hI λe he=>hf.fs e (List.mem_append.mpr (.inl he))) (SpOK.mono (spTab_ok W.B hI λe he=>hf.ps e (List.mem_append.mpr (.inl he))) (Nat.le_succ _))) h2 rv
end
theorem none_mem{X:Fix}{st:List Nat→St}(I:Ins)(vs:List (Str×PV))(τ:Sto):¬StsOK X st .none I vs τ:=λh=>x1_2 h λc hc _=>by
 cases c with
 |nil=>exact absF hc
 |cons=>exact absF hc
theorem way_st{X:Fix}{A:Auto}{a M:Nat}(W:AOK X A a 11 M (Out X (rOut X))){o:Obj}{body:List Stmt}(hS:FnIs X.T.K a o A.fd [nPen] body)(h0:A.st [0]=stS){c:Nat}(hM:500000≤M)(ht:∀m,m≤500000→Tr X A.fd a 16 (Out X (rOut X)) 0 m (m+c) (StsOK X A.st startW) (StsOK X A.st .none) body):Draws X 17 a [] c 500000 (rOut X):=
 W.draws hS rfl (c0:=[0]) (Ss:=startW) (lv:=93) (by refine rwG h0 ?_;rfl) (by rw[h0];rfl) (by rw[h0];rfl) rfl none_mem hM ht
theorem all_tri3{p:List Nat→Bool}{f:Nat→Trie}{N:Nat}(h:∀n,n<N→(f n).all p=true):(Trie.ors ((List.range N).map f)).all p=true:=Trie.all_ors λT hT=>x1_2 (List.mem_map.mp hT) λn hn e=>e▸h n (List.mem_range.mp hn)
noncomputable def refA:PV:=.tup [.str [114,101,102],.str [65],.tup [],.tup [],.none]
noncomputable def refB:PV:=.tup [.str [114,101,102],.str [66],.tup [.str [71]],.tup [],.none]
noncomputable def wayL:List (List Nat):=[[43],[45],[42],[47],[61],[63]]
noncomputable def exprL:List (PV×PV):=[(.tup [.str [110,117,109,98,101,114],.tup [.int 5,.int 0]],.str [53]),(refB,.str [66,32,79,70,32,71]),(.tup [.str [102,105,103,117,114,101],.str [90,69,82,79]],.str [90,69,82,79]),(.tup [.str [102,105,103,117,114,101],.str [83,80,65,67,69]],.none),(.tup [.str [116,101,120,116],.hole 1120],.none)]
noncomputable abbrev nWay:Str:=Str.ofString "way"
noncomputable abbrev nRows:Str:=Str.ofString "rows"
noncomputable abbrev nExpr:Str:=Str.ofString "expr"
noncomputable abbrev nWord:Str:=Str.ofString "word"
noncomputable abbrev nGoals:Str:=Str.ofString "goals"
noncomputable def w6:List (List PV):=wayL.map λw=>[.str w]
noncomputable def rowE(f:Nat→PV)(g:Nat→PV)(h:Nat→PV)(n:Nat):List PV:=(List.range n).map λi=>.tup [f i,g i,h i]
noncomputable def hoE(k i:Nat):PV:=.hole (k+i)
noncomputable def rowH(n:Nat):List PV:=rowE (hoE 10) (hoE 20) (hoE 30) n
noncomputable def wayD(n:Nat):List (List Nat×List (List PV)):=(List.range n).map λi=>([30+i],w6)
noncomputable def rbR(q:List Nat)(i:Nat):PV:=if Nat.ble 2 (q.getD i 0)then refB else refA
noncomputable def rbB(q:List Nat)(i:Nat):PV:=.bool (Nat.beq (q.getD i 0%2) 1)
noncomputable def goV(n:Nat):PV:=.str (if Nat.beq n 0 then[]else[symB+3])
noncomputable def goE(sg n:Nat)(h:Nat→PV):Ent:=⟨sg,[.tup (rowE (hoE 10) (hoE 20) h n)],some (if Nat.beq n 0 then[]else[symB+3])⟩
noncomputable def arS1(j:Nat):St:=⟨[(nPen,.lst 0),(nWay,.hole 9),(nRows,.lst 1)],[rowH j],[],([9],w6.take 5)::(List.range j).flatMap λi=>[([10+i],[[refA],[refB]]),([20+i],[[.bool true],[.bool false]]),([30+i],w6)],93,[],[]⟩
noncomputable def arS2(q:List Nat):St:=⟨[(nPen,.lst 0),(nRows,.lst 1)],[rowE (rbR q) (rbB q) (hoE 30) q.length],[],wayD q.length,93,[],[]⟩
noncomputable def arS3(sg n:Nat):St:=⟨[(nPen,.lst 0),(nRows,.lst 1),(nExpr,.hole 5),(nWord,.hole 6),(nGoals,goV n)],[rowH n],[(3,29)],([5,6],exprL.map λx=>[x.1,x.2])::wayD n,124,[goE sg n (hoE 30)],[]⟩
noncomputable def arS5(sg br sb c x:Nat)(ws:List Nat):St:=let h:=λi=>.str (wayL.getD (ws.getD i 0) []);let e:=exprL.getD x (.none,.none);let s:=(⟨[(nPen,.lst 0),(nRows,.lst 1),(nExpr,e.1),(nWord,e.2),(nGoals,goV ws.length)],[rowE (hoE 10) (hoE 20) h ws.length],[(3,29)],[],124,[goE sg ws.length h],[]⟩:St);s.call nBr (phSh br sb 0 [c])
noncomputable def arSt(sg br sb:Addr)(c:List Nat):St:=consK st0 c λt r=>if Nat.beq t 0 then stS else if Nat.beq t 1 then oneK st0 r arS1 else if Nat.beq t 2 then arS2 r else if Nat.beq t 3 then oneK st0 r (arS3 sg)else if Nat.beq t 4 then twoK st0 r λn c=>(arS3 sg n).call nBr (phSh br sb 0 [c])else consK st0 r λc r=>consK st0 r (arS5 sg br sb c)
noncomputable def digT(ds:List Nat):Nat→Trie
 |0=>.nil
 |n+1=>.node ds λ_=>digT ds n
noncomputable def nilT(_:Nat):Trie:=.nil
noncomputable def d3:List Nat:=List.range 3
noncomputable def tri3(f:Nat→Trie):Trie:=Trie.ors ((List.range 3).map f)
noncomputable def to2(f:Nat→Trie):Trie:=.or (f 0) (.or (f 1) (f 2))
noncomputable def arW1(j:Nat):Trie:=.node [1] λ_=>.node [j] nilT
noncomputable def arW2:Trie:=.node [2] λ_=>to2 (digT [0,1,2,3])
noncomputable def arW3:Trie:=.node [3] λ_=>.node d3 nilT
noncomputable def arW4:Trie:=.node [4] λ_=>.node d3 λ_=>.node d3 nilT
noncomputable def arW5(n c:Nat):Trie:=.node [5] λ_=>.node [c] λ_=>.node (List.range 5) λ_=>digT (List.range 6) n
noncomputable def arW5a:Trie:=tri3 λn=>tri3 (arW5 n)
noncomputable def lkV(x:Str)(vs:List (Str×PV)):PV:=@Option.casesOn _ (λ_=>PV) (lk x vs) .none λp=>p
noncomputable def arM0:MsF:=λ_ vs _=>[⟨[1,0],[(9,lkV nWay vs)],[]⟩]
noncomputable def arM1:MsF:=λc _ τ=>consK [] c λ_ r=>oneK [] r λj=>ptupK [] ((τ.getD 0 []).getD j .none) λxs=>threeK [] xs λa b w=>[⟨[1,j+1],[(10+j,a),(20+j,b),(30+j,w)],[]⟩]
noncomputable def arSel(c:List Nat):List Nat:=consK [] c λ_ r=>oneK [] r λn=>(List.range n).flatMap λi=>[1+3*i,2+3*i]
noncomputable def rdRB:Nat→List (Nat×PV)→List Nat
 |0,_=>[]
 |n+1,l=>consK [] l λa l=>consK [] l λb r=>((if pvB a.2 refB then 2 else 0)+(if pvB b.2 (.bool true)then 1 else 0))::rdRB n r
noncomputable def arTc(_:List Nat)(a:List (Nat×PV)):List Nat:=2::rdRB 2 a
noncomputable def arM2:MsF:=λc vs _=>consK [] c λ_ q=>[⟨[3,q.length],(5,lkV nExpr vs)::(6,lkV nWord vs)::(List.range q.length).flatMap λi=>[(10+i,rbR q i),(20+i,rbB q i)],[(3,if Nat.beq q.length 0 then[97]else pstrK [] (lkV nGoals vs) λt=>t)]⟩]
noncomputable def arCn(c r:List Nat):List Nat:=consK [] c λ_ q=>4::(q++r)
noncomputable def arSel2(c:List Nat):List Nat:=consK [] c λ_ r=>consK [] r λn _=>List.range (n+1)
noncomputable def ixP:List PV→PV→Nat
 | [],_=>0
 |x::r,p=>if pvB x p then 0 else ixP r p+1
noncomputable def arTc2(c:List Nat)(a:List (Nat×PV)):List Nat:=consK [] c λ_ r=>twoK [] r λn c=>consK [] a λx a=>5::c::ixP (exprL.map λe=>e.1) x.2::(a.drop 1).map λe=>ixP (wayL.map PV.str) e.2
structure ArP where
 o:Obj
 fd:FuncData
 s0:List Stmt
 pD:Pos
 pos:Pos
 iter:Expr
 body:List Stmt
 s2:List Stmt
 st:Stmt
 s5:List Stmt
structure ArIs(K:Frag)(a:Addr)(S:ArP):Prop where
 is:FnIs K a S.o S.fd [nPen] (S.s0++[.For (.Name nTurn S.pD) S.iter S.body [] S.pos]++([]++(S.s2++([S.st]++([]++S.s5)))))
 good:(notSet S.iter&&isLc S.fd.scope nTurn)=true
noncomputable def arA(T:Top)(gf dr br sb sg:Addr)(SS:ShP)(S:ArP):Auto:=wyA T gf dr SS S.fd (arSt sg br sb) [] []
structure ArRun(T:Top)(gf dr ph br sb sg:Addr)(SS:ShP)(S:ArP):Prop where
 r0:(startW.all ((arA T gf dr br sb sg SS S).run (arW1 0) 2 0 arM0 id S.s0))=true
 r1:((arW1 0).all ((arA T gf dr br sb sg SS S).src 2 2 0 S.iter))=true
 r2:∀j,j<2→((arW1 j).all ((arA T gf dr br sb sg SS S).run (arW1 (j+1)) 6 1 arM1 (put nTurn (.int (j:Int))) S.body))=true
 r3:((tri3 arW1).all (splB (arSt sg br sb) arW2 0 arSel arTc))=true
 r4:(arW2.all ((arA T gf dr br sb sg SS S).run arW3 2 0 arM2 id S.s2))=true
 r5:∀n,n<3→callEq T gf dr ph S.fd 13 S.st 0 nBr (arS3 sg n).vars (arS3 sg n).sto
 r6:(arW3.all (callB phR (phSh br sb) (arSt sg br sb) arW4 0 nBr (λ_=>0) arCn))=true
 r7:(arW4.all (splB (arSt sg br sb) arW5a 0 arSel2 arTc2))=true
 r8:∀n,n<3→∀c,c<3→((arW5 n c).all ((arA T gf dr br sb sg SS S).run .none 0 0 (λ_ _ _=>[]) id S.s5))=true
section
variable{X:Fix}{dr ph br sb:Addr}{SS:ShP}(W:WOK X dr ph br sb SS){a:Addr}(hsh:Nat.beq a X.T.sh=false)
include W hsh
theorem arith_draws{S:ArP}(hS:ArIs X.T.K a S){sg:Addr}(hr:ArRun X.T X.gf dr ph br sb sg SS S):Draws X 17 a [] 31 500000 (rOut X):=by
 have V:AOK X (arA X.T X.gf dr br sb sg SS S) a 11 550000 (Out X (rOut X)):=way_ok W hsh (λI hI e he=>(List.not_mem_nil he).elim) λI hI e he=>(List.not_mem_nil he).elim
 refine way_st V hS.is rfl (vA rfl) λm hm=>?_
 have hl:((List.range (2+1)).all λi=>(arW1 i).all λc=>Nat.ble ((arA X.T X.gf dr br sb sg SS S).st c).sto.length 1)=true:=rfl
 have T0:=Tr.loop V (m:=m) (n0:=0) (nb:=1) (pD:=S.pD) (pos:=S.pos) hS.good hr.r0 hr.r1 hr.r2 hl (by lia)
 have T3:=Tr.split V (m:=m+2+2+2*6) hr.r3 (by lia)
 have T4:=Tr.auto0 V hr.r4 (vD (m+2+2+2*6+2)) (by lia)
 have T5:=Tr.call V (hsp:=λI hI hu=>W.sp hI (by lia)) (m:=m+2+2+2*6+2) (by decide +kernel) (z:=λ_=>0) (λ_ _=>by decide) kp_inj (λc hc=>Trie.allP (p:=λc=>callEq X.T X.gf dr ph S.fd 13 S.st 0 nBr (arSt sg br sb c).vars (arSt sg br sb c).sto) (T:=arW3) (λd hd n hn=>by refine rwG (vM hd) ?_;exact hr.r5 n (List.mem_range.mp hn)) hc) hr.r6 (by lia)
 have T7:=Tr.split V (m:=m+2+2+2*6+2+13) hr.r7 (by lia)
 have T8:=Tr.auto0 V (ms:=λ_ _ _=>[]) (all_tri3 λn hn=>all_tri3 (hr.r8 n hn)) (vD (m+2+2+2*6+2+13+0)) (by lia)
 exact Tr.seq T0 (Tr.seq T3 (Tr.seq T4 (Tr.seq T5 (Tr.seq T7 T8 (vD _)) (vD _)) (by lia)) (by lia)) (by lia)
end
structure WyP where
 o:Obj
 fd:FuncData
 s0:List Stmt
 st:Stmt
 s2:List Stmt
structure WySt where
 st:List Nat→St
 W1:Trie
 W2:Nat→Trie
 z:List Nat→Nat
 cn:List Nat→List Nat→List Nat
 ms:List Mv
structure WyRun(T:Top)(gf dr ph br sb:Addr)(SS:ShP)(S:WyP)(Q:WySt)(k0 k2:Nat):Prop where
 r0:(startW.all ((wyA T gf dr SS S.fd Q.st [] []).run Q.W1 k0 0 (λ_ _ _=>Q.ms) id S.s0))=true
 eq:Q.W1.AllP λc=>callEq T gf dr ph S.fd 13 S.st (Q.z c) nBr (Q.st c).vars (Q.st c).sto
 r1:(Q.W1.all λc=>Nat.blt (Q.z c) 7&&callB phR (phSh br sb) Q.st (tri3 Q.W2) 0 nBr Q.z Q.cn c)=true
 r2:∀c,c<3→((Q.W2 c).all ((wyA T gf dr SS S.fd Q.st [] []).run .none k2 0 (λ_ _ _=>[]) id S.s2))=true
theorem Trie.all_imp{p q:List Nat→Bool}(h:∀c,p c=true→q c=true):∀{T:Trie},T.all p=true→T.all q=true
 |.nil,k=>h [] k
 |.or a b,k=>band2 k λk1 k2=>Bool.and_eq_true_iff.mpr ⟨Trie.all_imp h k1,Trie.all_imp h k2⟩
 |.node ds f,k=>List.all_eq_true.mpr λd hd=>Trie.all_imp (λc=>h (d::c)) (vF k d hd)
section
variable{X:Fix}{dr ph br sb:Addr}{SS:ShP}(W:WOK X dr ph br sb SS){a:Addr}(hsh:Nat.beq a X.T.sh=false)
include W hsh
theorem way_ph{S:WyP}{Q:WySt}(hS:FnIs X.T.K a S.o S.fd [nPen] (S.s0++([S.st]++S.s2)))(h0:Q.st [0]=stS){k0 k2:Nat}(hk:k0+13+k2≤400)(hr:WyRun X.T X.gf dr ph br sb SS S Q k0 k2):Draws X 17 a [] (k0+13+k2) 500000 (rOut X):=by
 have V:AOK X (wyA X.T X.gf dr SS S.fd Q.st [] []) a 11 550000 (Out X (rOut X)):=way_ok W hsh (λI hI e he=>(List.not_mem_nil he).elim) λI hI e he=>(List.not_mem_nil he).elim
 refine way_st V hS h0 (vA rfl) λm hm=>?_
 have T0:=Tr.auto0 V hr.r0 (vD (m+k0)) (by lia)
 have T1:=Tr.call V (hsp:=λI hI hu=>W.sp hI (by lia)) (m:=m+k0) (by decide +kernel) (λc hc=>vA (band2 (Trie.all_mem hr.r1 hc) λh _=>h)) kp_inj (λc hc=>Trie.allP hr.eq hc) (Trie.all_imp (λc h=>band2 h λ_ h=>h) hr.r1) (by lia)
 have T2:=Tr.auto0 V (ms:=λ_ _ _=>[]) (all_tri3 hr.r2) (vD (m+k0+13+k2)) (by lia)
 exact(show m+(k0+13+k2)=m+k0+13+k2 by lia)▸Tr.seq T0 (Tr.seq T1 T2 (Nat.le_add_right ..)) (by lia)
theorem way_run{o:Obj}{fd:FuncData}{body:List Stmt}(hS:FnIs X.T.K a o fd [nPen] body){k:Nat}(hk:k≤400)(hr:(startW.all ((wyA X.T X.gf dr SS fd (λ_=>stS) [] []).run .none k 0 (λ_ _ _=>[]) id body))=true):Draws X 17 a [] k 500000 (rOut X):=
 way_st (A:=wyA X.T X.gf dr SS fd (λ_=>stS) [] []) (way_ok W hsh (λI hI e he=>(List.not_mem_nil he).elim) λI hI e he=>(List.not_mem_nil he).elim) hS rfl (vA rfl) λm hm=>Tr.auto0 (way_ok W hsh (λI hI e he=>(List.not_mem_nil he).elim) λI hI e he=>(List.not_mem_nil he).elim) hr (vD _) (by lia)
end
noncomputable def reK(w:Nat):Nat:=[3,4,4,5,4].getD w 0
noncomputable def ptK(c:List Nat):Nat:=consK 0 c λ_ r=>consK 0 r λw _=>w
noncomputable def callCn(c r:List Nat):List Nat:=consK [] c λ_ q=>2::(q++r)
noncomputable def reS1(w:Nat):St:=⟨[(nPen,.lst 0),(nWay,.int (w:Int)),(nKeys,KP (reK w))],[],[],[],93,[],[]⟩
noncomputable def reSt(br sb:Addr)(c:List Nat):St:=consK st0 c λt r=>if Nat.beq t 0 then stS else consK st0 r λw c=>if Nat.beq t 1 then reS1 w else(reS1 w).call nBr (phSh br sb (reK w) c)
noncomputable def reQ(br sb:Addr):WySt:=⟨reSt br sb,.node [1] λ_=>.node (List.range 5) nilT,λc=>.node [2] λ_=>.node (List.range 5) λ_=>.node [c] nilT,λc=>reK (ptK c),callCn,(List.range 5).map λw=>⟨[1,w],[],[]⟩⟩
noncomputable abbrev nMany:Str:=Str.ofString "many"
noncomputable def joK(w:Nat):Nat:=if Nat.beq w 2 then 6 else 1
noncomputable def joS1(w m:Nat):St:=⟨[(nPen,.lst 0),(nWay,.int (w:Int)),(nMany,.int (m:Int))],[],[],[],93,[],[]⟩
noncomputable def joSt(br sb:Addr)(c:List Nat):St:=consK st0 c λt r=>if Nat.beq t 0 then stS else consK st0 r λw r=>consK st0 r λm c=>if Nat.beq t 1 then joS1 w m else(joS1 w m).call nBr (phSh br sb (joK w) c)
noncomputable def joQ(br sb:Addr):WySt:=⟨joSt br sb,.node [1] λ_=>.node d3 λ_=>.node d3 nilT,λc=>.node [2] λ_=>.node d3 λ_=>.node d3 λ_=>.node [c] nilT,λc=>joK (ptK c),callCn,d3.flatMap λw=>d3.map λm=>⟨[1,w,m],[],[]⟩⟩
end
section
noncomputable abbrev nIsAll:Str:=Str.ofString "is_all"
noncomputable abbrev nConds:Str:=Str.ofString "conds"
noncomputable abbrev nEarly:Str:=Str.ofString "early"
noncomputable abbrev nLater:Str:=Str.ofString "later"
noncomputable abbrev nIsEarly:Str:=Str.ofString "is_early"
noncomputable def seN(m a:Nat):Nat:=if Nat.beq a 1 then 1 else m
noncomputable def seKs(m a i:Nat):List Nat:=if Nat.beq i 5 then List.range m else if Nat.beq i 4 then(List.range (seN m a)).reverse else List.range (seN m a)
noncomputable def seMt(m a i:Nat):Bool:=!(Nat.beq (seN m a) 0)&&eqL (seKs m a i) (List.range (seN m a))
noncomputable def intsP(l:List Nat):List PV:=l.map λx:Nat=>.int (x:Int)
noncomputable def seLs(m a i:Nat):List (List PV):=[intsP (seKs m a 1),intsP (seKs m a 2),intsP (seKs m a 3),intsP (seKs m a 4),intsP (seKs m a 5)].take i
noncomputable def condP(i:Nat):PV:=.tup [.str [114,101,108],.str [61],refA,.tup [.str [110,117,109,98,101,114],.tup [.int (i:Int),.int 0]]]
noncomputable def condsP(n:Nat):PV:=.tup ((List.range n).map condP)
noncomputable def whK(k:Nat):List Nat:=[119,104,101,110,32]++[48+k]
noncomputable def laP:List Nat→Nat→List PV
 | [],_=>[]
 |k::r,i=>.tup [.str (whK k),.hole (3+i)]::laP r (i+1)
noncomputable def laT:Nat→Nat→List Nat
 |0,_=>[]
 |n+1,i=>([32,87,72,69,78,32,65,32,61,32]++[48+i])++(32::(symB+3+i)::laT n (i+1))
noncomputable def laF(sb:Addr)(n fb:Nat):List Ent:=if Nat.beq fb 9 then[]else((List.range fb).map λi=>⟨sb,[.hole (3+i),.hole 998],some [symB+3+i]⟩)++(if Nat.blt fb n then[⟨sb,[.hole (3+fb),.hole 998],none⟩]else[])
noncomputable def txO(s:Nat)(ks keys:List Nat)(n fb:Nat):PV:=if Nat.beq s 0 then(if keys.isEmpty then .str (ropeT ks 0)else if Nat.beq fb n then .str (ropeT ks 0++laT n 0)else .none)else .none
noncomputable def sev1(m a:Nat):List (Str×PV):=[(nPen,.lst 0),(nMany,.int (m:Int)),(nIsAll,.bool (Nat.beq a 1)),(nConds,condsP (seN m a))]
noncomputable def sev3(m a i:Nat)(ks:List Nat)(tx:PV):List (Str×PV):=[(nPen,.lst 0),(nIsAll,.bool (Nat.beq a 1)),(nConds,condsP (seN m a)),(nEarly,.tup (entL 2 ks 0)),(nText,tx),(nKeys,.lst i)]
noncomputable def se1(m a:Nat):St:=⟨sev1 m a,[],[],[],93,[],[]⟩
noncomputable def seE(sb s:Nat)(ks:List Nat):List Ent:=phF1 sb s ks.length
noncomputable def se3(sb m a i s:Nat)(ks:List Nat):St:=⟨sev3 m a i ks (txS s ks),seLs m a i,[],[],124,seE sb s ks,[]⟩
noncomputable def se4(sb m a i fb s:Nat)(ks:List Nat):St:=⟨sev3 m a i ks (txO s ks (seKs m a i) (seN m a) fb)++[(nLater,.lst (i+1))],seLs m a i++[laP (seKs m a i) 0],[],[],124,laF sb (seN m a) fb++seE sb s ks,[]⟩
noncomputable def se5(sb m a i fb e s:Nat)(ks:List Nat):St:=let q:=se4 sb m a i fb s ks;⟨q.vars++[(nIsEarly,.bool (Nat.beq e 1))],q.sto,[],[],124,q.fs,[]⟩
noncomputable def seSt(br sb:Addr)(c:List Nat):St:=consK st0 c λt r=>if Nat.beq t 0 then stS else consK st0 r λm r=>consK st0 r λa q=>if Nat.beq t 1 then se1 m a else if Nat.beq t 2 then(se1 m a).call nEarly (phSh br sb 2 q)else consK st0 q λi q=>if Nat.beq t 3 then consK st0 q (se3 sb m a i)else consK st0 q λfb q=>if Nat.beq t 4 then consK st0 q (se4 sb m a i fb)else consK st0 q λe q=>consK st0 q (se5 sb m a i fb e)
noncomputable def seW1:Trie:=.node [1] λ_=>.node (List.range 4) λ_=>.node [0,1] nilT
noncomputable def seW2(m:Nat):Trie:=.node [2] λ_=>.node [m] λ_=>.node [0,1] λ_=>phR 2
noncomputable def seIx(t m:Nat)(g:Nat→Nat→Trie):Trie:=.node [t] λ_=>.node [m] λ_=>.node [0,1] λa=>.node (if Nat.beq a 0||Nat.beq m 1 then[1,2,4,5]else[5]) (g a)
noncomputable def seW3(m:Nat):Trie:=seIx 3 m λ_ _=>phR 2
noncomputable def fbs(m a i:Nat):List Nat:=if seMt m a i then List.range (seN m a+1)else[9]
noncomputable def isFull(m a i fb:Nat):Bool:=seMt m a i&&Nat.beq fb (seN m a)
noncomputable def an1:Nat→Trie
 |0=>.nil
 |n+1=>.node [11] λ_=>an1 n
noncomputable def erl(full:Bool):Trie:=if full then phR 2 else .or (.node [0] λ_=>.or .nil (.node [4] nilT)) (.node [9] λ_=>.or (an1 1) (.or (an1 2) (an1 3)))
noncomputable def erx(full:Bool):Trie:=if full then Trie.ors ([1,2,3].map (phT 2))else .or (.node [0] λ_=>.node [4] nilT) (.node [9] λ_=>.or (an1 1) (.or (an1 2) (an1 3)))
noncomputable def seW4(m:Nat):Trie:=seIx 4 m λa i=>.node (fbs m a i) λfb=>erl (isFull m a i fb)
noncomputable def seW5(m:Nat):Trie:=seIx 5 m λa i=>.node (fbs m a i) λfb=>.or (.node [1] λ_=>erl (isFull m a i fb)) (if(seKs m a i).isEmpty then .none else .node [0] λ_=>erx (isFull m a i fb))
noncomputable def all4(f:Nat→Trie):Trie:=Trie.ors ((List.range 4).map f)
noncomputable def smv0:MsF:=λ_ _ _=>(List.range 4).flatMap λm=>[0,1].map λa=>⟨[1,m,a],[],[]⟩
noncomputable def smv3:MsF:=λc _ _=>consK [] c λ_ r=>consK [] r λm r=>consK [] r λa q=>[1,2,4,5].map λi=>⟨3::(if Nat.beq a 1 && !(Nat.beq i 5)then 1 else m)::a::i::q,[],[]⟩
noncomputable def firstBad:List Nat→Nat
 | []=>0
 |w::r=>if(bodyT w).isSome then firstBad r+1 else 0
noncomputable def numL{α:Type}(f:Nat→α):List Nat→Nat→List (Nat×α)
 | [],_=>[]
 |w::r,i=>(i,f w)::numL f r (i+1)
noncomputable def anyTh:List Nat→Nat→List (Nat×List Nat)
 | [],_=>[]
 |k::r,i=>(85+i,keyW 2 i k)::(185+i,if Nat.beq k 10 then[symB+(170+i)]else cut5 (keyT k))::anyTh r (i+1)
noncomputable def smv4:MsF:=λc _ τ=>consK [] c λ_ r=>consK [] r λm r=>consK [] r λa r=>consK [] r λi q=>consK [] q λs ks=>
 figPL ((τ.getD i []).map bodyOf) λws=>
 let fb:=if seMt m a i then firstBad ws else 9
 let ho:=(numL bodyP ws 3).take 3
 let th:=(numL (λw=>(bodyT w).getD [97]) ws 3).take 3
 if Nat.beq s 0||isFull m a i fb then[⟨4::m::a::i::fb::q,ho,th⟩]else[⟨4::m::a::i::fb::9::ks.map λ_=>11,ho,th++anyTh ks 0⟩]
noncomputable def smv6:MsF:=λc _ _=>consK [] c λ_ r=>consK [] r λm r=>consK [] r λa r=>consK [] r λi r=>consK [] r λfb q=>[0,1].map λe=>⟨5::m::a::i::fb::e::q,[],[]⟩
noncomputable def seTold(m a i e:Nat)(ks:List Nat):PV:=
 let lt:=laP (seKs m a i) 0
 let br:PV:=.tup (if Nat.beq e 1 then entL 2 ks 0++lt else lt++entL 2 ks 0)
 if Nat.beq a 1 then .tup [.str [115,101,97,114,99,104,45,97,108,108],refB,condP 0,br]else .tup [.str [115,101,97,114,99,104],refB,.none,condsP (seN m a),br]
noncomputable def seAns(m a i fb e s:Nat)(ks:List Nat):PV:=
 if Nat.beq s 0&&Nat.beq e 1&&isFull m a i fb then .str ((if Nat.beq a 1 then[83,69,65,82,67,72,32,65,76,76,32,66,32,79,70,32,71]else[83,69,65,82,67,72,32,66,32,79,70,32,71])++((ropeT ks 0++laT (seN m a) 0)++[32,69,78,68,45,83,69,65,82,67,72]))else .none
noncomputable def sePair(c:List Nat):PV:=consK .none c λ_ r=>consK .none r λm r=>consK .none r λa r=>consK .none r λi r=>consK .none r λfb r=>consK .none r λe r=>consK .none r λs ks=>.tup [seTold m a i e ks,seAns m a i fb e s ks]
noncomputable def seRed(c:List Nat):List Nat:=consK [] c λt r=>consK [] r λm r=>consK [] r λa r=>consK [] r λi r=>t::((if eqL (seKs m a i) (seKs m a 1)then(if Nat.beq a 1 then[1,1,1]else[m,0,1])else[m,a,i])++r)
structure SeP where
 o:Obj
 fd:FuncData
 s0:List Stmt
 st:Stmt
 s3:List Stmt
 s4:List Stmt
 s6:List Stmt
 s7:List Stmt
noncomputable def entB(e e':Ent):Bool:=Nat.beq e.f e'.f&&pvsB e.args e'.args&&@Option.casesOn _ (λ_=>Bool) e.res e'.res.isNone λx=>ifS false e'.res λy=>eqL x y
noncomputable def seA(T:Top)(gf dr br sb:Addr)(S:SeP):Auto:=⟨T,gf,spDB dr,S.fd,seSt br sb,bodyBase sb,[],λc p=>(Nat.ble (seSt br sb c).lv 190&&(all4 seW5).mem c)&&pvB (sePair (seRed c)) p⟩
structure SeRun(T:Top)(gf dr ph br sb:Addr)(SS:ShP)(S:SeP):Prop where
 rb:((bodyBase sb).all (baseB T gf))=true
 r0:(startW.all ((seA T gf dr br sb S).run seW1 2 0 smv0 id S.s0))=true
 eq:seW1.AllP λc=>callEq T gf dr ph S.fd 13 S.st 2 nEarly (seSt br sb c).vars (seSt br sb c).sto
 r1:(seW1.all (callB phR (phSh br sb) (seSt br sb) (all4 seW2) 0 nEarly (λ_=>2) callCn))=true
 r3:∀m,m<4→((seW2 m).all ((seA T gf dr br sb S).run (all4 seW3) 1 0 smv3 id S.s3))=true
 r4:∀m,m<4→((seW3 m).all ((seA T gf dr br sb S).run (all4 seW4) 3 0 smv4 id S.s4))=true
 r6:∀m,m<4→((seW4 m).all ((seA T gf dr br sb S).run (all4 seW5) 1 0 smv6 id S.s6))=true
 r7:∀m,m<4→((seW5 m).all ((seA T gf dr br sb S).run .none 0 0 (λ_ _ _=>[]) id S.s7))=true
 r8:∀m,m<4→((seW5 m).all λc=>!(eqL (seRed c) c)||rightBS T gf (tabSp T.K T.sh (seSt br sb c).fs) SS (sePair c))=true
 r9:∀m,m<4→((seW5 m).all λc=>(all4 seW5).mem (seRed c)&&eqL (seRed (seRed c)) (seRed c)&&(seSt br sb (seRed c)).fs.all λe=>(seSt br sb c).fs.any (entB e))=true
theorem entB_eq{e e':Ent}(h:entB e e'=true):e=e':=by
 refine band3 h λh1 h2 h3=>?_
 obtain⟨f,as,r⟩:=e
 obtain⟨f',as',r'⟩:=e'
 have a1:f=f':=vB h1
 have a2:as=as':=pvsB_eq h2
 have a3:r=r':=by
  cases r with
  |none=>exact(Option.isNone_iff_eq_none.mp h3).symm
  |some x=>exact ifE' h3 fT λy e h=>by exact rwG (show r'=some y from e) (rwG (eqL_eq h) rfl)
 exact rwG a1 (rwG a2 (rwG a3 rfl))
section
variable{X:Fix}{dr ph br sb:Addr}{SS:ShP}(W:WOK X dr ph br sb SS){a:Addr}(hsh:Nat.beq a X.T.sh=false)
include W hsh
theorem search_draws{S:SeP}(hS:FnIs X.T.K a S.o S.fd [nPen] (S.s0++([S.st]++(S.s3++(S.s4++(S.s6++S.s7))))))(hr:SeRun X.T X.gf dr ph br sb SS S):Draws X 17 a [] 20 500000 (rOut X):=by
 have V:AOK X (seA X.T X.gf dr br sb S) a 11 550000 (Out X (rOut X)):=by
  refine x1_1 W.hG λG hG=>⟨W.B,W.hG,rfl,rfl,hsh,λI hI hu=>spDB_ok (d:=7) (W.B.ins hI).O hG W.hdr W.hbd (by lia),base_ok W.B hG W.hL (by kernel_rfl) hr.rb,λI hI e he=>(List.not_mem_nil he).elim,λc I hl hI hf hd p hp g v rv=>?_⟩
  refine band3 hp λh0 hc h2=>band3 (Trie.all_mem (all_tri3 hr.r9) hc) λk1 k2 k3=>?_
  obtain rfl:=pvB_eq h2
  refine(vK (Trie.all_mem (all_tri3 hr.r8) k1)).elim (λk=>by rw[k2]at k;exact absF k) λk=>?_
  refine rightBS_ok W.B hG W.sh hI hf.sh (n:=(seSt br sb c).lv+1) (Nat.succ_le_succ (vE (vA h0) (vA rfl))) (tabSp_ok W.B hI λe he=>?_) k rv
  refine x1_2 (vG ((vF k3) e he)) λe' h1 h2=>?_
  refine rwG (entB_eq h2) ?_;exact hf.fs e' (List.mem_append.mpr (.inl h1))
 refine way_st V hS rfl (vA rfl) λm hm=>?_
 have T0:=Tr.auto0 V hr.r0 (vD (m+2)) (by lia)
 have T1:=Tr.call V (hsp:=λI hI hu=>W.sp hI (by lia)) (m:=m+2) (by decide +kernel) (z:=λ_=>2) (λ_ _=>by decide) kp_inj (λc hc=>Trie.allP hr.eq hc) hr.r1 (by lia)
 have T3:=Tr.auto0 V (all_tri3 hr.r3) (vD (m+2+13+1)) (by lia)
 have T4:=Tr.auto0 V (all_tri3 hr.r4) (vD (m+2+13+1+3)) (by lia)
 have T6:=Tr.auto0 V (all_tri3 hr.r6) (vD (m+2+13+1+3+1)) (by lia)
 have T7:=Tr.auto0 V (ms:=λ_ _ _=>[]) (all_tri3 hr.r7) (vD (m+2+13+1+3+1+0)) (by lia)
 exact Tr.seq T0 (Tr.seq T1 (Tr.seq T3 (Tr.seq T4 (Tr.seq T6 T7 (vD _)) (Nat.le_succ _)) (by lia)) (by lia)) (by lia)
end
end
section
noncomputable abbrev nSubj:Str:=Str.ofString "subjects"
noncomputable abbrev nWhens:Str:=Str.ofString "whens"
noncomputable abbrev nIsR:Str:=Str.ofString "is_right"
noncomputable abbrev nAgain:Str:=Str.ofString "again"
noncomputable abbrev nRow:Str:=Str.ofString "row"
noncomputable def sjK(k:Nat):List Bool:=[[],[true],[false],[true,true],[true,false],[false,true],[false,false]].getD k []
noncomputable def sjP(b:Bool):PV:=if b then .tup [.str [119,111,114,116,104],.tup [.str [114,101,102],.str [65],.tup [],.tup [],.none]]else .tup [.str [121,101,115]]
noncomputable def sjT(b:Bool):List Nat:=if b then[65]else[84,82,85,69]
noncomputable def obP(x:Nat):PV:=[.tup [.str [97,110,121]],.tup [.str [105,115],.tup [.str [114,101,102],.str [66],.tup [.str [71]],.tup [],.none],.bool true],.tup [.str [110,111]]].getD x .none
noncomputable def obT(x:Nat):List Nat:=[[65,78,89],[78,79,84,32,66,32,79,70,32,71],[70,65,76,83,69]].getD x []
noncomputable def alsoT:List (List Nat)→List Nat
 | []=>[]
 |x::r=>if r.isEmpty then x else x++([32,65,76,83,79,32]++alsoT r)
noncomputable def pairL(ps:List (PV×List Nat)):List PV:=ps.map λe=>.tup [e.1,.str e.2]
noncomputable def sjL(k:Nat):List PV:=pairL ((sjK k).map λb=>(sjP b,sjT b))
noncomputable def sjTup(k:Nat):PV:=.tup ((sjK k).map sjP)
noncomputable def sjTx(k:Nat):List Nat:=alsoT ((sjK k).map sjT)
noncomputable def roL(r:List Nat):List PV:=pairL (r.map λx=>(obP x,obT x))
noncomputable def roP(r:List Nat):PV:=.tup (r.map obP)
noncomputable def roT(r:List Nat):List Nat:=alsoT (r.map obT)
noncomputable def roGood:List Bool→List Nat→Bool
 | [],[]=>true
 |b::r,x::s=>(Nat.beq x 0||(if b then Nat.beq x 1 else Nat.beq x 2))&&roGood r s
 |_,_=>false
noncomputable def whT:List Nat:=[32,87,72,69,78,32]
noncomputable def nonT:List Nat:=[78,111,110,101]
noncomputable def symP(i:Nat):List Nat:=[symB+i]
noncomputable def enRows(b s:Nat):List PV:=[[],[.hole (b+1)],[.hole (b+1),.hole (b+2)],[],[.hole (b+1)],[.hole (b+1)],[.hole (b+1),.hole (b+2)],[.hole (b+1),.hole (b+2)],[.hole (b+1),.hole (b+2)]].getD s []
noncomputable def enP(b s:Nat):PV:=if Nat.beq s 9 then .hole (b+3)else .tup [.tup (enRows b s),.hole (b+3)]
noncomputable def enT(b s:Nat):List Nat:=(if Nat.beq s 1 then whT++symP (b+1)else whT++(symP (b+1)++(whT++symP (b+2))))++(32::symP (b+3))
noncomputable def gdS(s:Nat):Bool:=Nat.beq s 1||Nat.beq s 2
structure EvF where
 need:Addr
 parts:Addr
 body:Addr
noncomputable def fPart(F:EvF)(i:Nat):Ent:=⟨F.parts,[.hole i],some (symP i)⟩
noncomputable def fBody(F:EvF)(i:Nat)(g:Bool):Ent:=⟨F.body,[.hole i,.hole 998],if g then some (symP i)else none⟩
noncomputable def fNeed(F:EvF)(k i:Nat)(g:Bool):EntP:=⟨F.need,[sjTup k,.hole i],if g then some .none else none⟩
noncomputable def enGood(s:Nat):Nat:=[0,1,2,0,0,1,0,1,2].getD s 0
noncomputable def enBad(s:Nat):Bool:=Nat.beq s 4||Nat.beq s 6||Nat.beq s 7
noncomputable def rowFs(F:EvF)(b g:Nat):List Ent:=(List.range g).map λi=>fPart F (b+1+i)
noncomputable def rowPs(F:EvF)(k b g:Nat)(bad:Bool):List EntP:=((List.range g).map λi=>fNeed F k (b+1+i) true)++(if bad then[fNeed F k (b+1+g) false]else[])
noncomputable def enFs(F:EvF)(b s:Nat):List Ent:=if Nat.beq s 9 then[]else rowFs F b (enGood s)++(if gdS s then[fBody F (b+3) true]else if Nat.beq s 5||Nat.beq s 8 then[fBody F (b+3) false]else[])
noncomputable def enPs(F:EvF)(k b s:Nat):List EntP:=if Nat.beq s 9 then[]else rowPs F k b (enGood s) (enBad s)
noncomputable def enBd(b:Nat):List (Nat×Nat):=[(b+1,26),(b+2,26),(b+3,13)]
noncomputable def allEn:List Nat→Nat→List PV
 | [],_=>[]
 |s::r,b=>enP b s::allEn r (b+10)
noncomputable def allFs(F:EvF):List Nat→Nat→List Ent
 | [],_=>[]
 |s::r,b=>enFs F b s++allFs F r (b+10)
noncomputable def allPs(F:EvF)(k:Nat):List Nat→Nat→List EntP
 | [],_=>[]
 |s::r,b=>enPs F k b s++allPs F k r (b+10)
noncomputable def allT:List Nat→Nat→List Nat
 | [],_=>[]
 |s::r,b=>enT b s++allT r (b+10)
noncomputable def bds(i j:Nat):List (Nat×Nat):=enBd 0++enBd 10++[(50,20+90*i+35*j)]
noncomputable def rwN(r:Nat):Nat:=[0,1,1,2,2,2,1,2].getD r 0
noncomputable def rwGd(r:Nat):Bool:=Nat.beq r 0||Nat.beq r 1||Nat.beq r 3
noncomputable def rwGood(r:Nat):Nat:=[0,1,0,2,1,0,0,0].getD r 0
noncomputable def rwBad(r:Nat):Bool:=Nat.beq r 2||Nat.beq r 4||Nat.beq r 5
noncomputable def rwL(b r:Nat):List PV:=(List.range (rwN r)).map λi=>.hole (b+1+i)
noncomputable def rwT(b r:Nat):List Nat:=if Nat.beq r 0 then[]else if Nat.beq r 1 then whT++symP (b+1)else whT++(symP (b+1)++(whT++symP (b+2)))
noncomputable def okK(k:Nat)(ss:List Nat):Bool:=!(Nat.beq k 0)&&ss.all gdS
noncomputable def hdTx(k:Nat)(ss:List Nat):List Nat:=if okK k ss then sjTx k++allT ss 0 else if ss.isEmpty then[]else symP 50
noncomputable def evV(k:Nat)(t:List Nat)(g:Bool):List (Str×PV):=[(nPen,.lst 0),(nSubj,.lst 1),(nWhens,.lst 2),(nText,.str t),(nIsR,.bool g)]
noncomputable def st1(F:EvF)(k:Nat)(ss:List Nat):St:=⟨evV k (hdTx k ss) (okK k ss),[sjL k,allEn ss 0],bds ss.length 0,[],93,allFs F ss 0,allPs F k ss 0⟩
noncomputable def inTx(k:Nat)(ss:List Nat)(r:Nat):List Nat:=if okK k ss&&rwGd r then hdTx k ss++rwT (10*ss.length) r else if Nat.beq r 0 then hdTx k ss else symP 50
noncomputable def st2(F:EvF)(k:Nat)(ss:List Nat)(r:Nat):St:=⟨evV k (inTx k ss r) (okK k ss&&rwGd r)++[(nRows,.lst 3)],[sjL k,allEn ss 0,rwL (10*ss.length) r],bds ss.length (rwN r),[],93,allFs F ss 0++rowFs F (10*ss.length) (rwGood r),allPs F k ss 0++rowPs F k (10*ss.length) (rwGood r) (rwBad r)⟩
noncomputable def st3(F:EvF)(k:Nat)(ss:List Nat)(r d:Nat)(ro:List Nat):St:=let s:=st2 F k ss r;⟨s.vars++[(nRow,.lst 5)],s.sto++[roL ro,roL (ro.drop d)],s.bd,[],93,s.fs,s.ps⟩
noncomputable def codK{β:Type}(d:β)(r:List Nat)(f:List Nat→List Nat→β):β:=consK d r λi r=>if Nat.beq i 0 then f [] r else consK d r λs r=>f [s] r
noncomputable def evSt(F:EvF)(c:List Nat):St:=consK st0 c λt r=>if Nat.beq t 0 then stS else consK st0 r λk r=>if Nat.beq t 1 then st1 F k r else codK st0 r λss r=>consK st0 r λr q=>if Nat.beq t 2 then st2 F k ss r else consK st0 q (st3 F k ss r)
noncomputable def fromS(k:Nat):List Nat:=if Nat.beq k 0 then[9]else[1,2,3,4,5,6,7,8]
noncomputable def kT(g:Nat→Trie):Trie:=.node [0,1,2,3,4,5,6] g
noncomputable def headT(i k:Nat):Trie:=if Nat.beq i 0 then .nil else if Nat.beq i 1 then .node (fromS k) nilT else .node (fromS k) λs=>.node (if gdS s then[1,2,3,4,5,6,7,8]else[9]) nilT
noncomputable def headW(i:Nat):Trie:=.node [1] λ_=>kT (headT i)
noncomputable def inKs(i:Nat)(g:Nat→List Nat→Trie):Trie:=.node [2] λ_=>kT λk=>.node [i] λ_=>if Nat.beq i 0 then g k []else .node (fromS k) λs=>g k [s]
noncomputable def inR(j:Nat)(g:Bool):List Nat:=if Nat.beq j 0 then[0]else if Nat.beq j 1 then(if g then[1,2]else[6])else if Nat.beq j 2 then(if g then[3,4,5]else[7])else[]
noncomputable def inW(i j:Nat):Trie:=inKs i λk ss=>.node (inR j (okK k ss)) nilT
noncomputable def digs:Nat→List (List Nat)
 |0=>[[]]
 |n+1=>(List.range 3).flatMap λx=>(digs n).map λr=>x::r
noncomputable def rowW(i j:Nat):Trie:=.node [3] λ_=>kT λk=>.node [i] λ_=>let g:=λss=>Trie.node (inR j (okK k ss)) λ_=>.node [0,1] λ_=>digT d3 (sjK k).length;if Nat.beq i 0 then g []else .node (fromS k) λs=>g [s]
noncomputable def mvs0:MsF:=λ_ _ _=>(List.range 7).map λk=>⟨[1,k],[],[1,2,3,11,12,13,50].map λi=>(i,[97])⟩
noncomputable def mvsB:MsF:=λc _ _=>consK [] c λ_ r=>consK [] r λk ss=>[⟨2::k::ss.length::(ss++[0]),[],[]⟩]
noncomputable def digOf(p:PV):Nat:=if pvB p (.tup [obP 0,.str (obT 0)])then 0 else if pvB p (.tup [obP 1,.str (obT 1)])then 1 else 2
noncomputable def mvsR:MsF:=λc _ τ=>consK [] c λ_ r=>consK [] r λk p=>[⟨3::k::(p++((τ.getD 3 []).length-(τ.getD 4 []).length)::(τ.getD 3 []).map digOf),[],[]⟩]
noncomputable def mvT(k:Nat)(ss p:List Nat)(r d:Nat)(ro:List Nat):List Mv:=
 let b:=10*ss.length+1+rwN r
 let q:=ro.drop d
 let tx:=inTx k ss r++(whT++roT q)
 if okK k ss then
  if rwGd r then
   if roGood (sjK k) q then[⟨2::k::(p++[if Nat.beq r 0 then 1 else 3]),[(b,roP q)],[(b,roT q)]⟩]
   else[⟨2::k::(p++[if Nat.beq r 0 then 2 else 4]),[(b,roP q)],[(50,tx)]⟩]
  else[⟨2::k::(p++[5]),[(b,roP q)],[(50,tx)]⟩]
 else[⟨2::k::(p++[if Nat.beq r 0 then 6 else 7]),[(b,roP q)],[(50,tx)]⟩]
noncomputable def mvsT:MsF:=λc _ _=>consK [] c λ_ r=>consK [] r λk r=>codK [] r λss r=>consK [] r λr q=>consK [] q λd ro=>mvT k ss (ss.length::ss) r d ro
noncomputable def mvE(k:Nat)(ss:List Nat)(r w:Nat):Mv:=
 let b:=10*ss.length
 let tx:=inTx k ss r++(32::@Option.casesOn _ (λ_=>List Nat) (bodyT w) nonT λt=>t)
 if okK k ss then
  if rwGd r && !(Nat.beq r 0)then
   (if(bodyT w).isSome then⟨1::k::(ss++[if Nat.beq r 1 then 1 else 2]),[(b+3,bodyP w)],[(b+3,(bodyT w).getD [97])]⟩else⟨1::k::(ss++[if Nat.beq r 1 then 5 else 8]),[(b+3,bodyP w)],[(50,tx)]⟩)
  else⟨1::k::(ss++[[3,0,4,0,7,6].getD r 0]),[(b+3,bodyP w)],[(50,tx)]⟩
 else⟨1::k::(ss++[9]),[(b+3,.tup [.tup (rwL b r),bodyP w])],[(50,tx)]⟩
noncomputable def mvsE:MsF:=λc _ _=>consK [] c λ_ r=>consK [] r λk r=>codK [] r λss r=>consK [] r λr _=>(List.range 3).map (mvE k ss r)
noncomputable def evBase(F:EvF):List Ent:=((digs 1++digs 2).map λr=>⟨F.parts,[roP r],some (roT r)⟩)++(List.range 3).map λw=>⟨F.body,[bodyP w,.hole 998],bodyT w⟩
noncomputable def evBaseP(F:EvF):List EntP:=([1,2].flatMap λk=>([[]]++digs 1).map λr=>⟨F.need,[sjTup k,roP r],if roGood (sjK k) r then some .none else none⟩)++([3,4,5,6].flatMap λk=>(digs 1++digs 2).map λr=>⟨F.need,[sjTup k,roP r],if roGood (sjK k) r then some .none else none⟩)
structure EvP where
 o:Obj
 fd:FuncData
 s0:List Stmt
 p1:Pos
 q1:Pos
 i1:Expr
 b0:List Stmt
 p2:Pos
 q2:Pos
 i2:Expr
 c0:List Stmt
 c1:List Stmt
 b2:List Stmt
 s4:List Stmt
structure EvIs(K:Frag)(a:Addr)(S:EvP):Prop where
 is:FnIs K a S.o S.fd [nPen] (S.s0++([.For (.Name nTurn S.p1) S.i1 (S.b0++([.For (.Name nAgain S.p2) S.i2 (S.c0++S.c1) [] S.q2]++S.b2)) [] S.q1]++S.s4))
 good:((notSet S.i1&&isLc S.fd.scope nTurn)&&(notSet S.i2&&isLc S.fd.scope nAgain))=true
noncomputable def evA(T:Top)(gf dr:Addr)(SS:ShP)(S:EvP)(F:EvF):Auto:=wyA T gf dr SS S.fd (evSt F) (evBase F) (evBaseP F)
structure EvRun(T:Top)(gf dr:Addr)(SS:ShP)(S:EvP)(F:EvF):Prop where
 rb:((evBase F).all (baseB T gf))=true
 rp:((evBaseP F).all (basePB T gf))=true
 r0:(startW.all ((evA T gf dr SS S F).run (headW 0) 4 0 mvs0 id S.s0))=true
 r1:((headW 0).all ((evA T gf dr SS S F).src 2 2 0 S.i1))=true
 r2:∀i,i<2→((headW i).all ((evA T gf dr SS S F).run (inW i 0) 0 2 mvsB (put nTurn (.int i)) S.b0))=true
 r3:∀i,i<2→((inW i 0).all ((evA T gf dr SS S F).src 2 2 2 S.i2))=true
 r4:∀i,i<2→∀j,j<2→((inW i j).all ((evA T gf dr SS S F).run (rowW i j) 4 3 mvsR (put nAgain (.int j)) S.c0))=true
 r5:∀i,i<2→∀j,j<2→((rowW i j).all ((evA T gf dr SS S F).run (inW i (j+1)) 0 3 mvsT id S.c1))=true
 r6:∀i,i<2→((Trie.ors ((List.range 3).map (inW i))).all ((evA T gf dr SS S F).run (headW (i+1)) 2 2 mvsE id S.b2))=true
 r7:((Trie.ors ((List.range 3).map headW)).all ((evA T gf dr SS S F).run Trie.none 0 0 (λ_ _ _=>[]) id S.s4))=true
section
variable{X:Fix}{dr ph br sb:Addr}{SS:ShP}(W:WOK X dr ph br sb SS){a:Addr}(hsh:Nat.beq a X.T.sh=false)
include W hsh
theorem evaluate_draws{S:EvP}{F:EvF}(hS:EvIs X.T.K a S)(hr:EvRun X.T X.gf dr SS S F):Draws X 17 a [] 30 500000 (rOut X):=by
 refine x1_1 W.hG λG hG=>?_
 have V:AOK X (evA X.T X.gf dr SS S F) a 11 550000 (Out X (rOut X)):=way_ok W hsh (base_ok W.B hG W.hL (by kernel_rfl) hr.rb) (baseP_ok W.B hG W.hL (by kernel_rfl) hr.rp)
 refine band2 hS.good λg1 g2=>way_st V hS.is rfl (vA rfl) λm hm=>?_
 have hl:∀i,i<2→((List.range (2+1)).all λj=>(inW i j).all λc=>Nat.ble (evSt F c).sto.length 3)=true:=λi hi=>by
  cases i with
  |zero=>kernel_rfl
  |succ i=>cases i with
   |zero=>kernel_rfl
   |succ i=>exact absurd hi (by lia)
 have T0:=Tr.auto0 V hr.r0 (vD (m+4)) (by lia)
 have T2:=Tr.auto0 V (ms:=λ_ _ _=>[]) hr.r7 (vD (m+4+2+2*12+0)) (by lia)
 have T1:=Tr.autoFor V (m:=m+4) (c:=12) (nb:=2) (Wd:=headW) (pD:=S.p1) (pos:=S.q1) g1 hr.r1 (by kernel_rfl) (by lia) (body:=S.b0++([.For (.Name nAgain S.p2) S.i2 (S.c0++S.c1) [] S.q2]++S.b2)) λi hi=>by
  have B0:=Tr.auto V (hr.r2 i hi) (vD (m+4+2+i*12+0)) (by lia)
  have B1:=Tr.autoFor V (m:=m+4+2+i*12+0) (c:=4) (nb:=3) (Wd:=inW i) (pD:=S.p2) (pos:=S.q2) (body:=S.c0++S.c1) g2 (hr.r3 i hi) (hl i hi) (by lia) λj hj=>Tr.seq (Tr.auto V (hr.r4 i hi j hj) (vD _) (by lia)) (Tr.auto0 V (hr.r5 i hi j hj) (Nat.le_of_eq (by lia)) (by lia)) (by lia)
  exact Tr.seq B0 (Tr.seq B1 (Tr.auto0 V (hr.r6 i hi) (by lia) (by lia)) (by lia)) (by lia)
 exact Tr.seq T0 (Tr.seq T1 T2 (vD _)) (by lia)
end
end
section
structure PenP where
 o:Obj
 fd:FuncData
 s1:Stmt
 nC:Str
 nS:Str
 cut:Int
 body:List Stmt
 ret:Stmt
 u:Nat
 p1:Pos
 p2:Pos
 p3:Pos
 p4:Pos
 p5:Pos
 p6:Pos
noncomputable def PenP.sl(S:PenP):Expr:=.Subscript (.Name S.nS S.p2) (.Slice none (some (.Constant (.int S.cut) S.u S.p3)) none S.p4) S.p5
noncomputable def PenP.lp(S:PenP):Stmt:=.For (.Name S.nC S.p1) S.sl S.body [] S.p6
structure PenIs(K:Frag)(pa:Addr)(S:PenP):Prop where
 lk:K.lookup pa=some S.o
 fd:S.o.data=.func S.fd
 good:fnOk K S.fd=true
 body:S.fd.body=.stmts [S.s1,S.lp,S.ret]
noncomputable def penBase(nS nN:Str)(z:Int):List (Str×PV):=[(nS,.hole 0),(nN,.int z)]
noncomputable def penCell(nC:Str)(cs:List (Str×PV)):Prop:=cs=[]∨∃y,cs=[(nC,.int y)]
noncomputable def penFr(fd:FuncData)(q:Bool)(vs:List (Str×PV)):Fr:={ scope:=fd.scope,vars:=vs,up:=[],lam:=lamOf fd.scope (argsOf fd),q:=q }
noncomputable def PenP.fr(S:PenP)(q:Bool)(nN:Str)(z:Int)(cs:List (Str×PV)):Fr:=penFr S.fd q (penBase S.nS nN z++cs)
noncomputable def PenP.fr0(S:PenP)(q:Bool):Fr:=penFr S.fd q [(S.nS,.hole 0)]
structure PenRun(T:Top)(gf pa:Addr)(md:Int):Prop where
 run:∃S nN z0,PenIs T.K pa S∧0≤S.cut∧S.cut≤60∧bindP (argsOf S.fd) [.hole 0]=some [(S.nS,.hole 0)] ∧
  (∀q z cs orc,penCell S.nC cs→nameP ⟨T,gf,orc⟩ S.nS (S.fr q nN z cs)=some (.hole 0)) ∧
  (∀q orc k kx,Internal.execs (lvl ⟨T,gf,orc⟩ lvlMax) [S.s1] (S.fr0 q) [] k kx=k .next (S.fr q nN z0 []) []) ∧
  (∀q orc z cs y p1 σ k kx,penCell S.nC cs→∃z',assT (.Name S.nC p1) (.int y) (S.fr q nN z cs) (λρ=>Internal.execs (lvl ⟨T,gf,orc⟩ lvlMax) S.body ρ σ k kx)=k .next (S.fr q nN z' [(S.nC,.int y)]) σ) ∧
  (∀q orc z cs xs k kx,penCell S.nC cs→Internal.execs (lvl ⟨T,gf,orc⟩ lvlMax) [S.ret] (S.fr q nN z cs) [xs] k kx=k (.ret (.lst 1)) (S.fr q nN z cs) [xs,[.int z,.int 0,.int (z.fmod md)]])
theorem repL_intsAre{X:Fix}{g:GW}{vs:List Value}{ns:List Int}(h:PyProof.Rows.IntsAre vs ns):RepL X g vs (ns.map PV.int):=by
 induction h with
 |nil=>exact .nil
 |cons _ _ _ ih=>exact .cons (.int _ _) ih
theorem pen_loop{T:Top}{gf:Addr}{S:PenP}{nN:Str}{q:Bool}{orc:Orc}{p1:Pos}{k:KF}{kx:KX}
  (hrun:∀z cs y p1 σ k kx,penCell S.nC cs→∃z',assT (.Name S.nC p1) (.int y) (S.fr q nN z cs) (λρ=>Internal.execs (lvl ⟨T,gf,orc⟩ lvlMax) S.body ρ σ k kx)=k .next (S.fr q nN z' [(S.nC,.int y)]) σ)
  {xs:List Int} (hk:∀z cs,penCell S.nC cs→k .next (S.fr q nN z cs) [xs.map PV.int]=true) :
  ∀(n j:Nat) z cs,penCell S.nC cs→j≤xs.length→xs.length<n+j→forGo (lvl ⟨T,gf,orc⟩ lvlMax) (.Name S.nC p1) S.body kx n (.lst 0 j) (S.fr q nN z cs) [xs.map PV.int] k=true
 |0,j,z,cs,hc,hj,hl=>by lia
 |n+1,j,z,cs,hc,hj0,hl=>by
  show ifS false (Src.next _ _) _=true
  have e0:Src.next [xs.map PV.int] (.lst 0 j)=some (((xs.map PV.int)[j]?).map λx=>(x,.lst 0 (j+1))):=congrArg (λz=>some (Option.map (λx=>(x,Src.lst 0 (j+1))) z)) gt_eq
  rw[e0,List.getElem?_map]
  cases hj:xs[j]? with
  |none=>exact hk z cs hc
  |some y=>
   dsimp only[Option.map]
   obtain⟨z',hz⟩:=hrun z cs y p1 [xs.map PV.int] (λfl ρ σ=>@FlowP.casesOn (λ_=>Bool) fl (forGo (lvl ⟨T,gf,orc⟩ lvlMax) (.Name S.nC p1) S.body kx n (.lst 0 (j+1)) ρ σ k) λp=>k (.ret p) ρ σ) kx hc
   refine hz.trans ?_
   exact pen_loop hrun hk n (j+1) z' _ (.inr ⟨y,rfl⟩) (List.getElem?_eq_some_iff.mp hj).1 (by(with_reducible exact Internal.ar118 (by assumption)))
section
variable{X:Fix}(O:FixOK X){G:GfD}(hG:GfOK X.B X.gf G){sl:Addr}{its:List Value}{ns:List Int}(hl:X.B.IsList sl its.toArray)(hi:PyProof.Rows.IntsAre its ns)(hη:∀Γ v,X.η 0 Γ v→v=.ref sl)
include O hl hi hη
noncomputable def penNs(S:PenP)(ns:List Int):Sto:=[(ns.take S.cut.toNat).map PV.int]
noncomputable def penKS(S:PenP)(ns:List Int)(a:PV):KV:=λp σ=>pdec (p=a∧σ=penNs S ns)
noncomputable def penKF(S:PenP)(q:Bool)(nN:Str)(ns:List Int):KF:=λfl ρ σ=>pdec (fl=.next∧σ=penNs S ns∧∃z cs,penCell S.nC cs∧ρ=S.fr q nN z cs)
noncomputable def lv0(T:Top)(gf:Addr):Lvl:=lvl ⟨T,gf,orc0⟩ lvlMax
theorem pen_sl{S:PenP}(c0:0≤S.cut)(c1:S.cut≤60)(hn:ns.length≤64){A:Around}{env:Env}{fe:Env}{outer:List Env}{ρ:Fr}{g:GW}{s:Shared}{E:Value→Shared→Prop}(w:Wh X ρ env (fe::outer) g [] s)(hv:nameP ⟨X.T,X.gf,orc0⟩ S.nS ρ=some (.hole 0)) :
  wpAny (model X.prog X.w) A (eval S.sl env) (VG X noS (fe::outer) g s (RV X (penKS S ns (.lst 0)))) E s:=by
 refine wpAny_Subscript_list_slice ?_
 refine x1_2 (name_val O (A:=A) (pos:=S.p2) rfl w hv) λv rv ev=>ev _ _ ?_
 refine x1_2 rv.iH λ_ e _=>?_
 refine rwG (hη _ _ e) ?_
 refine evalPart_none_step (evalPart_some_step ?_)
 refine wpAny_mkInt ?_
 have hl₂:s.heap.IsList sl its.toArray:=x1_2 hl λob ho' r=>⟨ob,w.R.frz _ _ (w.R.base _ _ ho'),r⟩
 refine⟨sl,its.toArray,none,some S.cut,rfl,hl₂,?_,.none,.int _ _,?_⟩
 ·refine rwG List.size_toArray (rwG hi.length (rwG sizeLine_eq ?_));(with_reducible exact Internal.ar18 (by assumption))
 ·refine x0_4 (vg_new O (s:={ s with toks:=s.toks+1 }) w.R (l:=fe::outer) (S:=noS) (o:={ cls:=.type "slice",data:=.fields #[.none,.int S.cut s.toks,.none] }) rfl) λtA RA _ _=>?_
  have nl:=new_list O (s:={ s with toks:=s.toks+1,heap:=s.heap.push { cls:=.type "slice",data:=.fields #[.none,.int S.cut s.toks,.none] } }) RA (l:=fe::outer) (S:=noS) (vs:=slicePick its.toArray none (some S.cut) none) (ps:=(ns.take S.cut.toNat).map PV.int) (k:=penKS S ns (.lst 0)) (repL_intsAre (kmk_upto hi c0)) (pdec_iff.mpr ⟨rfl,rfl⟩) (s.toks+1)
  have nl':=(nl.base tA).base ((To.refl (X:=X) (S:=noS) (l:=fe::outer) (g:=g) (s:=s)).toks (s.toks+1))
  dsimp only at nl'
  rw[Heap.size_push]at nl'
  exact nl'
include hG
theorem pen_lp{S:PenP}{nN:Str}{q:Bool}(c0:0≤S.cut)(c1:S.cut≤60)(hn:ns.length≤64)(r0:∀z cs,penCell S.nC cs→nameP ⟨X.T,X.gf,orc0⟩ S.nS (S.fr q nN z cs)=some (.hole 0))(r2:∀z cs y p1 σ k kx,penCell S.nC cs→∃z',assT (.Name S.nC p1) (.int y) (S.fr q nN z cs) (λρ=>Internal.execs (lv0 X.T X.gf) S.body ρ σ k kx)=k .next (S.fr q nN z' [(S.nC,.int y)]) σ)
  {d:Nat} {A:Around} {env fe:Env} {outer:List Env} {F:Addr} {z0:Int} {g:GW} {s:Shared} {kx:KX} (am:Amb X d A env (fe::outer) F env) (w:Wh X (S.fr q nN z0 []) env (env::fe::outer) g [] s) :
  wpAny (model X.prog X.w) A (exec S.lp env) (EPost X (S.fr q nN z0 []) env (env::fe::outer) g s (penKF S q nN ns)) (PX X (WS (S.fr q nN z0 []) env) (env::fe::outer) F g s kx) s:=by
 have O0:OrcOK X d orc0:=λ{_ _ _ _ _ _ _ _ _ _ _ _ _} _ _ _ _ _ h=>absF h
 have HX:ExOK X d (lv0 X.T X.gf):=lvlX_ok O (raise_ok O hG d) rfl rfl O0 lvlMax
 have H:LvOK X d (lv0 X.T X.gf):=lvl_ok O rfl O0 lvlMax
 refine wpAny_For (wpAny_mono (pen_sl O hl hi hη c0 c1 hn w (r0 z0 [] (.inl rfl))) (λv s₃ h₃=>?_) λ_ _ qq=>qq) (λx=>rfl)
 refine VG.el h₃ λg₃ σ₃ t₃ R₃ hq=>?_;refine RV.el hq λp rp hp=>?_;clear h₃ hq
 refine x0_2 (pdec_iff.mp hp) λe1 e2=>?_;subst e1;subst e2
 refine wpAny_mono (iterP_ok O R₃ (l:=env::fe::outer) (k:=λsrc σ=>pdec (src=.lst 0 0∧σ=penNs S ns)) rp (src:=.lst 0 0) rfl (pdec_iff.mpr ⟨rfl,rfl⟩)) (λit s₄ h₄=>?_) λ_ _ qq=>qq
 refine SrcPost.el h₄ λI ws src g₄ σ₄ e t₄ R₄ it₄ own₄ hk₄=>?_;clear h₄;refine rwG e ?_;clear e
 refine x0_2 (pdec_iff.mp hk₄) λe1 e2=>?_;subst e1;subst e2
 have w₄:=(w.step t₃ R₃).step t₄ R₄
 have hle:∀b∈ws,s.heap.objs.size≤b:=λb hb=>vE t₃.st.size (own₄ b hb).2
 have lp:Lp X (env::fe::outer) env s.heap.objs.size g₄ s₄.heap I ws (.lst 0 0):=⟨it₄,λb hb=>(own₄ b hb).1,hle,λhm=>x1_2 w.fr.loc λm hn _=>absurd hn.lt (vL (hle _ hm)),λz a e=>x0_2 (w.fr.all z a e) λho1 _=>x2_2 ho1 λv oc e2 _=>Heap.lt_size e2,λM hM=>x0_4 (w.fs.mem hM) λ_ _ _ hq=>x1_2 hq λo ho _=>Heap.lt_size ho⟩
 refine forGo_ok (cx:=⟨X.T,X.gf,orc0⟩) O H HX rfl O0 am (g:=g) (s:=s) (ρ₀:=S.fr q nN z0 []) (λ_ _=>rfl) (λf s' q=>q) loopMax (t₃.trans t₄).noW .refl w₄ lp rfl ?_
 exact pen_loop (S:=S) (nN:=nN) (q:=q) (p1:=S.p1) (kx:=kx) (k:=penKF S q nN ns) (λz cs y p1 σ k kx hc=>r2 z cs y p1 σ k kx hc) (xs:=ns.take S.cut.toNat) (λz cs hc=>pdec_iff.mpr ⟨rfl,rfl,z,cs,hc,rfl⟩) loopMax 0 z0 [] (.inl rfl) (Nat.zero_le _) (by refine rwG List.length_take ?_;show _<256;lia)
theorem pen_call{pa:Addr}{md:Int}(hP:PenRun X.T X.gf pa md){d:Nat}{A:Around}{fe:Env}{outer:List Env}{F:Addr}{g:GW}{s:Shared}{kx:KX}(am:Amb X (d+1) A fe outer F fe)(R:HR X g [] s.heap)(fs:FramesOK X g s.heap (fe::outer)){k:KV}{vs:List Value}(q:RepL X g vs [.hole 0])
  (hn:ns.length≤64) (hk:∀z xs,k (.lst 1) [xs,[.int z,.int 0,.int (z.fmod md)]]=true) :
  wpAny (model X.prog X.w) A (call (.ref pa) vs) (VG X noS (fe::outer) g s (RV X k)) (PX X noS (fe::outer) F g s kx) s:=by
 refine x3_6 hP.run λS nN z0 hS c0 c1 hbs r0 hrest=>x0_3 hrest λr1 r2 r3=>?_
 have hll:vs.length=(S.fd.params.args.map (·.arg)).length:=(q.length).trans (bindP_len hbs).symm
 refine callDef_genB O am R fs hS.lk hS.fd hS.good hS.body hll (λh=>bind_given O R hS.good hll h) ?_
 intro A₁ env F₁ g₁ s₁ am₁ t₁ mk
 have w:Wh X (S.fr0 (Nat.beq pa X.T.sh)) env (env::fe::outer) g₁ [] s₁:=mk _ _ hbs q
 have O0:OrcOK X d orc0:=λ{_ _ _ _ _ _ _ _ _ _ _ _ _} _ _ _ _ _ h=>absF h
 have HX:ExOK X d (lv0 X.T X.gf):=lvlX_ok O (raise_ok O hG d) rfl rfl O0 lvlMax
 refine execs_app (ss:=[S.s1]) (rest:=[S.lp,S.ret]) HX am₁ w ((r1 _ orc0 (λfl ρ σ=>pdec (fl=.next∧ρ=S.fr (Nat.beq pa X.T.sh) nN z0 []∧σ=[])) kx).trans (pdec_iff.mpr ⟨rfl,rfl,rfl⟩)) (λf s₂ qq=>?_) λe s' qq=>qq
 refine EPost.el qq λg₂ σ₂ ρ₂ fp t₂ R₂ fr₂ same₂ hf₂ hk₂=>?_;clear qq
 refine x0_3 (pdec_iff.mp hk₂) λe1 e2 e3=>?_;subst e1;subst e2;subst e3
 have w₂:=w.writes t₂ R₂ fr₂
 cases f with
 |ret v=>exact hf₂.elim
 |brk=>exact hf₂.elim
 |cont=>exact hf₂.elim
 |next=>
 show wpAny _ _ (PySem.execs [S.lp,S.ret] env) _ _ s₂
 rw[arm_execs_cons]
 refine wpAny_bind (wpAny_mono (pen_lp O hG hl hi hη c0 c1 hn (λz cs hc=>r0 _ z cs orc0 hc) (λz cs y p1 σ k kx hc=>r2 _ orc0 z cs y p1 σ k kx hc) am₁ w₂) (λf s₃ h₃=>?_) λe s' qq=>qq.baseW t₂ ⟨same₂.scope,same₂.up,same₂.lam,same₂.q⟩)
 refine EPost.el h₃ λg₃ σ₃ ρ₃ fp t₃ R₃ fr₃ same₃ hf₃ hk₃=>?_;clear h₃
 refine x0_3 (pdec_iff.mp hk₃) λe1 e2 hq=>?_;subst e1;subst e2;refine x2_2 hq λz cs hc e3=>?_;subst e3
 have w₃:=w₂.writes t₃ R₃ fr₃
 cases f with
 |ret v=>exact hf₃.elim
 |brk=>exact hf₃.elim
 |cont=>exact hf₃.elim
 |next=>
 have T₃:To X (WS (S.fr0 (Nat.beq pa X.T.sh)) env) (env::fe::outer) g₁ s₁ g₃ s₃:=t₂.trans t₃
 refine wpAny_mono (execs_ok HX am₁ [S.ret] w₃ ((r3 _ orc0 z cs ((ns.take S.cut.toNat).map PV.int) (λfl ρ σ=>@FlowP.casesOn (λ_=>Bool) fl false λp=>k p σ) kx hc).trans (hk _ _))) (λf s₄ h₄=>?_) λe s' qq=>qq.base T₃
 refine EPost.el h₄ λg₄ σ₄ ρ₄ fp t₄ R₄ fr₄ same₄ hf₄ hk₄=>?_;clear h₄
 cases fp with
 |next=>exact absF hk₄
 |ret p=>
  cases f with
  |ret v=>exact⟨g₄,σ₄,T₃.trans t₄,R₄,p,hf₄,hk₄,rfl⟩
  |next=>exact hf₄.elim
  |brk=>exact hf₄.elim
  |cont=>exact hf₄.elim
end
end
section
noncomputable def spRight(ir:Addr)(tab:List PV):Spc:=λf args=>poldK none f λa=>oneK none args λp=>if Nat.beq a ir&&(pvB (.hole 600) p||tab.any λq=>pvB q p)then some (λσ k _=>k (.bool true) σ)else none
noncomputable def etaW(X:Fix)(sl:Addr):Nat→(Addr→Option Obj)→Value→Prop:=λi Γ v=>if i=600 then Out X (rOut X) Γ v else if i=0 then v=.ref sl else X.η i Γ v
noncomputable def FixW(X:Fix)(sl:Addr):Fix:=X.sw (λ_=>[97]) (etaW X sl)
section
variable{X:Fix}{dr ph br sb:Addr}{SS:ShP}(W:WOK X dr ph br sb SS){sl:Addr}
include W
theorem etaW_big{i:Nat}(h:1≤i)(h2:i≠600){Γ:Addr→Option Obj}{v:Value}:etaW X sl i Γ v↔X.η i Γ v:=by
 unfold etaW;rw[if_neg h2,if_neg (by lia)]
theorem fixW_ok:FixOK (FixW X sl):=FixOK.sw W.B.O (λi=>⟨a97.1,a97.2.1⟩) ky97 (λc Γ v hc=>Iff.trans (etaW_big W (by lia) (by lia)) (W.B.O.byt c Γ v hc)) λΓ v h=>W.B.O.cl Γ v ((etaW_big W (by decide) (by decide)).mp h)
theorem fixWI_ok{I:Ins}(hI:InsOK I):FixOK ((FixW X sl).ins I):=FixOK.sw (fixW_ok W) (λi=>⟨(hI.th i).1,(hI.th i).2.1⟩) hI.ky (λc Γ v hc=>Iff.trans (ins_eta (X:=FixW X sl) (I:=I) (vE (by decide) (Nat.le_add_right 1000 c)) (by lia)) ((fixW_ok W).byt c Γ v hc)) λΓ v h=>(fixW_ok W).cl Γ v ((ins_eta (X:=FixW X sl) (I:=I) (by decide) (by decide)).mp h)
theorem spRight_ok{G:GfD}(hG:GfOK X.B X.gf G){ir:Addr}{S:RiP}(hS:RiIs X.T.K X.gf ir S)(hsh:Nat.beq ir X.T.sh=false)(hr:∀ok,riRun X.T X.gf S ok=true){tab:List PV}(ht:(tab.all λp=>clo p&&rightBS X.T X.gf (tabSp X.T.K X.T.sh (leafTab X.T.sh)) SS p)=true){I:Ins}(hI:InsOK I):SpOK ((FixW X sl).ins I) (bigN+5) (spRight ir tab):=by
 intro A fe outer F g σ s v f vs ps k kx t am R fs r q hs hk
 revert r
 refine poldE hs nS λa hs r=>?_
 revert q
 refine oneE hs nS λp hs q=>ifB hs nS λhc hx=>band2 hc λc1 c2=>?_
 obtain rfl:=vB c1
 obtain rfl:=vC hx
 refine x1_2 q.one λu he1=>?_;refine rwG he1 ?_;clear he1;intro ru
 refine x1_2 r.iO λo he1=>?_;refine rwG he1 ?_;clear he1;intro _
 have ext:∀b o,g.Γ b=some o→(g.still s.heap).Γ b=some o:=λb o e=>(still_old R e).1
 have hbW:=(fixWI_ok (sl:=sl) W hI).byt
 have R':HR X (g.still s.heap) [] s.heap:=HR.still (X:=(FixW X sl).ins I) (θ:=X.θ) (η:=X.η) R
 have fs':FramesOK X (g.still s.heap) s.heap (fe::outer):=FramesOK.still (X:=(FixW X sl).ins I) (θ:=X.θ) (η:=X.η) fs
 have hu:RightV X (g.still s.heap).Γ u:=by
  refine rOut_right ?_
  rw[Bool.or_eq_true]at c2
  rcases c2 with c2|c2
  ·obtain rfl:=pvB_eq c2
   refine x1_2 ru.iH λΓ₀ e x=>?_
   have e1:etaW X sl 600 Γ₀ u:=(ins_eta (X:=FixW X sl) (I:=I) (vA rfl) (vA rfl)).mp e
   unfold etaW at e1
   rw[if_pos rfl]at e1
   refine x1_3 e1 λp h1 h2 h3=>?_;clear e1
   exact⟨p,h1,h2,rep_clo (g:=⟨Γ₀,[]⟩) (g':=⟨(g.still s.heap).Γ,[]⟩) W.B.O.byt W.B.O.byt (λb vs n e=>ext _ _ (x _ _ e)) h3 h2⟩
  ·refine x1_2 (vG c2) λp' hp e=>?_
   obtain rfl:=pvB_eq e
   refine x0_2 (vJ ((vF ht) _ hp)) λk1 k2=>?_
   have rv:RepV (X.ins (ins97 0)) (g.still s.heap) u p':=rep_clo hbW ((W.B.ins (ins97_ok 0)).O.byt) (λb vs n e=>ext _ _ e) ru k1
   exact rightBS_ok W.B hG W.sh (ins97_ok 0) (sh97 0) (n:=32) (by decide) (tabSp_ok W.B (ins97_ok 0) (leaf_gives W.B hG W.hL)) k2 rv
 refine wpAny_mono (right_ok W.B hG hS hsh hr (am.sw (X':=X)) R' fs' hu (kx:=λ_=>false)) (λy s' hz1=>?_) λx s' px=>?_
 ·refine VG.el hz1 λg₂ σ₂ t₂ R₂ e=>?_;clear hz1
  subst e
  exact⟨g.back g₂,σ,To.back (X:=(FixW X sl).ins I) (θ:=X.θ) (η:=X.η) R t₂ R₂,HR.back (X:=(FixW X sl).ins I) (θ:=X.θ) (η:=X.η) R t₂.st R₂,.bool true,.bool true,hk⟩
 ·refine x1_1 (PX.kxs px) λ_ hq=>?_
  cases hq
end
end
section
structure LawFr where
 sc:Scope
 lm:Bool
 q:Bool
noncomputable def LawFr.fr(L:LawFr)(vs:List (Str×PV)):Fr:={ scope:=L.sc,vars:=vs,up:=[],lam:=L.lm,q:=L.q }
structure ScOK(sc:Scope):Prop where
 noCell:∀x k,lk x sc.names=some k→k≠.cell∧k≠.free
 pen:lk nPen sc.names=some .local
noncomputable def GW.one(g:GW)(h:Heap)(pen:Addr):GW:=⟨λb=>if b∈g.la∧b≠pen then h.get? b else g.Γ b,[pen]⟩
set_option tactic.hygienic true in
theorem p0_gen{Y:Fix}{J:Ins}{L:LawFr}(hsc:ScOK L.sc){i0:Nat}{xs0:List PV}{ρ:Fr}{c:Env}{l:List Env}{g:GW}{σ:Sto}{s:Shared}
  (w:Wh Y ρ c l g σ s) (hρ:SameFr (L.fr []) ρ) (e3:lk nPen ρ.vars=some (.lst i0)) (hσ:σ[i0]?=some xs0) (hre:∀{g':GW} {vs:List Value},(∀a o,g.Γ a=some o→g'.Γ a=some o)→RepL Y g vs xs0→RepL (Y.ins J) g' vs (penP 0)) :
  ∃g',Wh (Y.ins J) (L.fr [(nPen,.lst 0)]) c l g' [penP 0] s∧(∀a o,g.Γ a=some o→g'.Γ a=some o):=by
 refine x1_2 w.fr.loc λmm hns hm=>?_
 have hs0:ρ.scope=L.sc:=hρ.scope
 rw[hs0]at hm
 refine x1_2 (hm nPen _ hsc.pen e3) λvp hvp rp=>?_
 refine x2_5 (RepV.isList w.R rp hσ) λpen its he2=>?_;subst he2;intro hi _ q hpl
 have hpm:pen∈g.la:=vN hi
 have hgx:∀a o,g.Γ a=some o→(g.one s.heap pen).Γ a=some o:=λa o e=>by
  show(if a∈g.la∧a≠pen then s.heap.get? a else g.Γ a)=some o
  refine rwG (if_neg (λq=>by have:=(w.R.laF a q.1).1;rw[e]at this;cases this)) ?_;exact e
 have hPn:Y.P∉g.la:=λhm=>(w.R.laF _ hm).2 rfl
 have R':HR (Y.ins J) (g.one s.heap pen) [penP 0] s.heap:=by
  refine⟨λa o e=>?_,λa o e=>hgx a o (w.R.base a o e),rfl,λi a xs h1 h2=>?_,by simp[GW.one],λa ha=>?_,?_,?_⟩
  ·have e':(if a∈g.la∧a≠pen then s.heap.get? a else g.Γ a)=some o:=e
   split at e'
   ·exact e'
   ·exact w.R.frz a o e'
  ·cases i with
   |zero=>
    have h1':some pen=some a:=h1
    have h2':some (penP 0)=some xs:=h2
    cases h1';cases h2'
    exact⟨its,hpl,hre hgx q⟩
   |succ i=>cases h2
  ·have ha':a=pen:=by simpa [GW.one]using ha
   subst ha'
   exact⟨(if_neg (λq=>q.2 rfl)).trans (w.R.laF a hpm).1,(w.R.laF a hpm).2⟩
  ·refine x1_3 w.R.tab.tab λps t1 t2 t3=>?_
   exact⟨ps,t1,t2,λpos c' e=>let ⟨cd,oc,vs,t,i1,i2,i3⟩:=t3 pos c' e;⟨cd,oc,vs,t,i1,hgx _ _ i2,i3⟩⟩
  ·exact(if_neg (λq=>hPn q.1)).trans w.R.noP
 refine⟨g.one s.heap pen,⟨R',?_,?_⟩,hgx⟩
 ·intro env he
  refine x0_2 (w.fs env he) λhk hq1=>?_;refine x2_5 hq1 λLc o hf h1 h2 h3 h4=>?_
  refine⟨hk,Lc,o,hf,(if_neg (λq=>h2 q.1)).trans h1,λhm=>?_,h3,h4⟩
  have:Lc=pen:=by simpa [GW.one]using hm
  exact h2 (this▸hpm)
 ·have fr:=w.fr
  have nocell:∀x,lk x L.sc.names≠some .cell:=λx e=>(hsc.noCell x _ e).1 rfl
  have nofree:∀x,lk x L.sc.names≠some .free:=λx e=>(hsc.noCell x _ e).2 rfl
  refine⟨fr.kind,fr.glob,fr.blt,λx k e=>fr.names x k (by refine rwG hs0 ?_;exact e),⟨mm,hns,λx p' e1' e2'=>?_⟩,⟨(if_neg (λq=>fr.locOk.2.1 q.1)).trans fr.locOk.1,λhm=>?_,fr.locOk.2.2⟩,λx p' e=>?_,λx e=>absurd e (nocell x),fr.inj,λz a e=>?_,λhq=>fr.shw (by refine rwG hρ.q ?_;exact hq)⟩
  ·have e2'':lk x [(nPen,PV.lst 0)]=some p':=e2'
   rw[lk_c]at e2''
   split at e2''
   ·rename_i hx
    have:=eqS_eq hx
    refine rwG this ?_;clear this
    cases e2''
    exact⟨_,hvp,.lst rfl⟩
   ·cases e2''
  ·have:c.locals=pen:=by simpa [GW.one]using hm
   exact fr.locOk.2.1 (this▸hpm)
  ·rcases e with⟨e,_⟩|⟨e,_⟩
   ·exact absurd e (nocell x)
   ·exact absurd e (nofree x)
  ·refine x0_3 (fr.all z a e) λh1 h2 h3=>?_
   refine⟨h1,λhm=>?_,h3⟩
   have:a=pen:=by simpa [GW.one]using hm
   exact h2 (this▸hpm)
theorem Draws.mono{X:Fix}{n f:Nat}{args:List PV}{c c' M:Nat}{out:PV→Prop}(h:Draws X n f args c M out)(hc:c≤c'):Draws X n f args c' M out:=by
 refine⟨?_⟩
 intro A fe outer F g s v vs I am hI hu R fs r q
 refine wpAny_mono (h.go am hI hu R fs r q) (λu s' ⟨g',t,R',ho⟩=>⟨g',t,?_,ho⟩) λ_ _ q=>q
 have hlen:=R'.len
 cases hla:g'.la with
 |nil=>rw[hla]at hlen;cases hlen
 |cons pn l=>
  have h0:g'.la[0]?=some pn:=by refine rwG hla ?_;rfl
  refine x1_2 (R'.lst 0 pn _ h0 rfl) λits hpl q=>?_
  exact R'.view (i:=0) h0 hpl (pen_of ((pen_to q).mono (by lia)))
noncomputable def orcPen(pa:Nat)(md:Int):Orc:=λf args σ k _=>poldK false f λa=>oneK false args λp=>pholeK false p λi=>Nat.beq a pa&&Nat.beq i 0&&σ.isEmpty&&pdec (∀z xs,k (.lst 1) [xs,[.int z,.int 0,.int (z.fmod md)]]=true)
theorem orcPen_ok{X:Fix}(O:FixOK X){G:GfD}(hG:GfOK X.B X.gf G){pa sl:Addr}{md:Int}(hP:PenRun X.T X.gf pa md){its:List Value}{ns:List Int}(hl:X.B.IsList sl its.toArray)(hi:PyProof.Rows.IntsAre its ns)(hη:∀Γ v,X.η 0 Γ v→v=.ref sl)(hn:ns.length≤64){d:Nat}:OrcOK X (d+1) (orcPen pa md):=by
 intro A fe outer F g σ s v c vs ps k kx am R fs r q h
 revert r
 refine poldE h fT λa h r=>?_
 revert q
 refine oneE h fT λp h=>pholeE h fT λi h q=>band4 h λh1 h2 h3 h4=>?_
 refine x1_2 r.iO λo he1=>?_;refine rwG he1 ?_;clear he1;intro e
 refine rwG (vB h1) ?_
 obtain rfl:=vB h2
 have e3:σ=[]:=List.isEmpty_iff.mp h3
 subst e3
 exact pen_call O hG hl hi hη hP am R fs q hn (pdec_iff.mp h4)
noncomputable def lvW(T:Top)(gf dr ir c:Nat)(ws:List Addr)(tab:List PV):Lvl:=lvl ⟨T,gf,tower T gf (spOr (spD dr) (spOr (spWay c ws) (spRight ir tab))) 5⟩ lvlMax
noncomputable def kTrue:KF:=λfl _ _=>match fl with
 |.ret (.bool b)=>b
 |_=>false
end
section
section
variable{X:Fix}{G:GfD}{dr ph br sb:Addr}{SS:ShP}(W:WOK X dr ph br sb SS)(hG:GfOK X.B X.gf G){sl:Addr}{c:Nat}{ws:List Addr}(D:∀w∈ws,Draws X 17 w [] c 500000 (rOut X))
  {ir:Addr} {SR:RiP} (hSR:RiIs X.T.K X.gf ir SR) (hirs:Nat.beq ir X.T.sh=false) (hrr:∀ok,riRun X.T X.gf SR ok=true) {tab:List PV} (htab:(tab.all λp=>clo p&&rightBS X.T X.gf (tabSp X.T.K X.T.sh (leafTab X.T.sh)) SS p)=true)
include W hG D hSR hirs hrr htab
theorem lvW_ok{I:Ins}(hI:InsOK I)(hu:I.u≤400000):ExOK ((FixW X sl).ins I) (bigN+5+5) (lvW X.T X.gf dr ir c ws tab):=by
 have O:=fixWI_ok (sl:=sl) W hI
 have hRa:∀d,RaiseOK ((FixW X sl).ins I) d:=λd=>raise_ok O (G:=G) hG d
 have h1a:SpOK ((FixW X sl).ins I) (10+1) (spD dr):=spD_ok (X:=FixW X sl) (d:=10) O hG W.hdr (by omega)
 have h1:SpOK ((FixW X sl).ins I) (bigN+5) (spD dr):=SpOK.mono h1a (by decide)
 have h2a:SpOK ((FixW X sl).ins I) 17 (spWay c ws):=spWay_ok (X:=X) (θ₀:=λ_=>[97]) (η₀:=etaW X sl) (M:=500000) W.B.O.byt (λJ hJ=>(W.B.ins hJ).O.byt) (λJ hJ=>(fixWI_ok (sl:=sl) W hJ).byt) D (λΓ v h=>by unfold etaW;refine rwG (if_pos rfl) ?_;exact h) hI (by omega)
 have h2:SpOK ((FixW X sl).ins I) (bigN+5) (spWay c ws):=SpOK.mono h2a (by decide)
 have h3:SpOK ((FixW X sl).ins I) (bigN+5) (spRight ir tab):=spRight_ok W hG hSR hirs hrr htab hI
 have ho:OrcOK ((FixW X sl).ins I) (bigN+5+5) (tower X.T X.gf (spOr (spD dr) (spOr (spWay c ws) (spRight ir tab))) 5):=tower_ok O hRa (spOr_ok h1 (spOr_ok h2 h3)) 5
 exact lvlX_ok O (hRa _) rfl rfl ho lvlMax
theorem law_all1{pa:Addr}(hP:PenRun X.T X.gf pa 999979){its:List Value}{ns:List Int}(hl:X.B.IsList sl its.toArray)(hi:PyProof.Rows.IntsAre its ns)(hn:ns.length≤64){L:LawFr}(hsc:ScOK L.sc){A:Around}{e:Env}{F:Addr}{d:Nat}(hd:320≤d)(am:Amb X d A e [] F e){nS:Str}{st0:Stmt}{rest:List Stmt}
  (lS:lk nPen [(nS,PV.hole 0),(nPen,PV.lst 1)]=some (PV.lst 1))
  (runA:∀(orc:Orc) k kx,Internal.execs (lvl ⟨X.T,X.gf,orc⟩ lvlMax) [st0] (L.fr [(nS,.hole 0)]) [] k kx=orc (.old pa) [.hole 0] [] (λp σ=>k .next (L.fr [(nS,.hole 0),(nPen,p)]) σ) kx)
  (runR:Internal.execs (lvW X.T X.gf dr ir c ws tab) rest (L.fr [(nPen,.lst 0)]) [penP 0] kTrue (λ_=>false)=true) {g:GW} {s:Shared} (w:Wh (FixW X sl) (L.fr [(nS,.hole 0)]) e [e] g [] s) :
  wpAny (model X.prog X.w) A (PySem.execs (st0::rest) e)
   (λf s'=>(∃b,f=.ret (.bool b)∧b=true)∧(∀b o,X.B.get? b=some o→s'.heap.get? b=some o)∧(∃ps,s'.heap.get? X.P=some (tabObj ps))∧s'.gens=s.gens∧s'.os=s.os) (λ_ _=>False) s:=by
 have O':=fixW_ok (sl:=sl) W
 have hO:OrcOK (FixW X sl) (20+1) (orcPen pa 999979):=orcPen_ok O' (G:=G) hG hP hl hi (λΓ v h=>by unfold FixW Fix.sw etaW at h;exact h) hn
 have HX:ExOK (FixW X sl) (20+1) (lvl ⟨X.T,X.gf,orcPen pa 999979⟩ lvlMax):=lvlX_ok O' (raise_ok O' (G:=G) hG _) rfl rfl hO lvlMax
 have r1:Internal.execs (lvl ⟨X.T,X.gf,orcPen pa 999979⟩ lvlMax) [st0] (L.fr [(nS,.hole 0)]) [] (λfl ρ σ=>pdec (fl=.next∧ρ=L.fr [(nS,.hole 0),(nPen,.lst 1)]∧∃z xs,σ=[xs,[.int z,.int 0,.int (z.fmod 999979)]])) (λ_=>false)=true:=by
  rw[runA]
  show(Nat.beq pa pa&&Nat.beq 0 0&&([]:Sto).isEmpty&&pdec _)=true
  rw[Nat.beq_refl,Nat.beq_refl]
  exact pdec_iff.mpr λz xs=>pdec_iff.mpr ⟨rfl,rfl,z,xs,rfl⟩
 have noPX:∀{Y:Fix} {S:Addr→Prop} {g:GW} {s s':Shared} {x:Value} {l:List Env} {F:Addr},PX Y S l F g s (λ_=>false) x s'→False:=λ{_ _ _ _ _ _ _ _} q=>by
  refine x1_1 (PX.kxs q) λ_ hq=>?_
  cases hq
 have amY:∀{Y:Fix} {d':Nat},d'≤d→Amb Y d' A e [] F e:=λhd'=>(am.le hd').sw
 refine execs_app (ss:=[st0]) (rest:=rest) HX (amY (by omega)) w r1 (λf s₁ q=>?_) λx s' q=>(noPX q).elim
 refine EPost.el q λg₁ σ₁ ρ₁ fp t₁ R₁ fr₁ same₁ hf₁ hk₁=>?_
 refine x0_3 (pdec_iff.mp hk₁) λhe0=>?_;subst he0;intro he1;subst he1;intro hq2;refine x2_1 hq2 λz xs he4=>?_;subst he4
 have w₁:=w.writes t₁ R₁ fr₁
 cases f with
 |ret v=>exact hf₁.elim
 |brk=>exact hf₁.elim
 |cont=>exact hf₁.elim
 |next=>
 obtain⟨g₂,w₂,x₂⟩:=p0_gen (Y:=FixW X sl) (J:=ins97 0) (L:=L) hsc (i0:=1) (xs0:=[.int z,.int 0,.int (z.fmod 999979)]) w₁ ⟨rfl,rfl,rfl,rfl⟩ lS rfl (λ{g' vs} x r=>by
  refine x3_4 r.three λ_ _ _ he3=>?_;refine rwG he3 ?_;clear he3;intro a b c
  refine x1_1 a.iI λ_ he1=>?_;refine rwG he1 ?_;clear he1
  refine x1_1 b.iI λ_ he1=>?_;refine rwG he1 ?_;clear he1
  refine x1_1 c.iI λ_ he1=>?_;refine rwG he1 ?_;clear he1
  have hz1:0≤z.fmod 999979:=by refine rwG (Int.fmod_eq_emod_of_nonneg z (by decide)) ?_;exact Int.emod_nonneg z (by decide)
  have hz2:z.fmod 999979<999979:=by refine rwG (Int.fmod_eq_emod_of_nonneg z (by decide)) ?_;exact Int.emod_lt_of_pos z (by decide)
  exact pen_of ⟨_,_,_,_,_,_,rfl,Int.le_refl _,by show(0:Int)≤((0+0:Nat):Int);omega,hz1,hz2⟩)
 have HW:=lvW_ok (sl:=sl) W hG D hSR hirs hrr htab (I:=ins97 0) (ins97_ok 0) (by show 0≤400000;omega)
 have fin:=execs_ok HW (amY (by unfold bigN;omega)) rest w₂ runR
 refine wpAny_mono fin (λf s₂ q=>?_) λx s' q=>(noPX q).elim
 refine EPost.el q λg₃ σ₃ ρ₃ fp t₃ R₃ _ _ hf₃ hk₃=>?_;clear q
 refine⟨?_,λb o h=>R₃.frz _ _ (R₃.base _ _ h),?_,t₃.gens.trans t₁.gens,t₃.os.trans t₁.os⟩
 ·cases fp with
  |next=>cases hk₃
  |ret p=>
   cases f with
   |ret v=>
    cases p with
    |bool b=>exact⟨b,by exact rwG (RepV.iB (b:=b) hf₃) rfl,hk₃⟩
    |_=>exact absF hk₃
   |next=>exact hf₃.elim
   |brk=>exact hf₃.elim
   |cont=>exact hf₃.elim
 ·refine x1_2 R₃.tab.tab λps h _=>?_
  exact⟨ps,h⟩
end
end
section
noncomputable def fixedP:List PV:=[.tup [.tup [.str [97,114,105,116,104],.tup [.str [114,101,102],.str [65],.tup [],.tup [],.none],.tup [.tup [.tup [.str [114,101,102],.str [65],.tup [],.tup [],.none],.bool false,.str [43]],.tup [.tup [.str [114,101,102],.str [66],.tup [.str [71]],.tup [],.none],.bool false,.str [61]]],.tup []],.none],
 .tup [.tup [.str [115,116,97,114,116],.str [70],.str [62],.none,.tup []],.none],
 .tup [.tup [.str [97,114,105,116,104],.tup [.str [114,101,102],.str [65],.tup [],.tup [],.none],.tup [.tup [.tup [.str [114,101,102],.str [66],.tup [.str [71]],.tup [],.none],.bool false,.str [43]]],.tup [.tup [.str [110,111,116,32,115,105,122,101],.tup [.tup [.str [101,120,105,116]]]],.tup [.str [115,105,122,101],.tup [.tup [.str [115,116,111,112]]]]]],.none],
 .tup [.tup [.str [114,101,97,100],.str [70],.bool false,.none,.none,.tup [.tup [.str [115,105,122,101],.tup [.tup [.str [101,120,105,116]]]]]],.none],
 .tup [.tup [.str [115,101,97,114,99,104],.tup [.str [114,101,102],.str [65],.tup [],.tup [],.none],.none,.tup [.tup [.str [110,97,109,101,100],.tup [.str [114,101,102],.str [66],.tup [.str [71]],.tup [],.none]],.tup [.str [110,97,109,101,100],.tup [.str [114,101,102],.str [65],.tup [],.tup [],.none]]],.tup [.tup [.str [119,104,101,110,32,49],.tup [.tup [.str [101,120,105,116]]]],.tup [.str [119,104,101,110,32,48],.tup [.tup [.str [115,116,111,112]]]]]],.none],
 .tup [.tup [.str [114,101,97,100],.str [70],.bool false,.none,.none,.tup [.tup [.str [101,110,100],.tup [.tup [.str [101,120,105,116]]]],.tup [.str [105,110,118,97,108,105,100],.tup [.tup [.str [115,116,111,112]]]]]],.str [82,69,65,68,32,70,32,82,69,67,79,82,68,32,65,84,32,69,78,68,32,69,88,73,84,32,73,78,86,65,76,73,68,32,75,69,89,32,83,84,79,80,32,82,85,78,32,69,78,68,45,82,69,65,68]]]
end
section
noncomputable def keyStr:Value→Str
 |.str x _=>x
 |_=>Str.ofString ""
noncomputable def isKeyStr:Value→Bool
 |.str _ _=>true
 |_=>false
noncomputable def esAt(K:Frag)(a:Addr):List DictEntry:=match K.lookup a with
 |some ⟨_,_,.dict es _,_⟩=>es.toList
 |_=>[]
noncomputable def epAt(K:Frag)(a:Addr):Nat:=match K.lookup a with
 |some ⟨_,_,.dict _ n,_⟩=>n
 |_=>0
noncomputable def isDictAt(K:Frag)(a:Addr):Bool:=match K.lookup a with
 |some ⟨_,_,.dict es _,_⟩=>es.toList.all λe=>isKeyStr e.key
 |_=>false
noncomputable def isPlainDict(K:Frag)(a:Addr):Bool:=match K.lookup a with
 |some ⟨c,d,.dict _ _,sl⟩=>(match c with|.type t=>t=="dict"|_=>false)&&d.isNone&&sl.size==0
 |_=>false
set_option tactic.hygienic true in
theorem dict_at{K:Frag}{a:Addr}(h:isDictAt K a=true):∃o,K.lookup a=some o∧o.data=.dict (esAt K a).toArray (epAt K a)∧StrKeys (esAt K a).toArray:=by
 unfold isDictAt at h
 split at h
 ·rename_i es n _ e
  refine⟨_,e,?_,?_⟩
  ·unfold esAt epAt;exact rwG e rfl
  ·unfold esAt;refine rwG e ?_
   intro en hen
   have hm:en∈es.toList:=by simpa using hen
   have:=(vF h) en hm
   cases hk:en.key with
   |str x t=>exact⟨x,t,rfl⟩
   |_=>rw[hk]at this;exact absF this
 ·exact absF h
theorem ns_at{K:Frag}{h:Heap}(X:K.In h){a:Addr}(e:isDictAt K a=true):h.Ns a (nsFind (esAt K a).toArray):=
 let ⟨o,h1,h2,h3⟩:=dict_at e;⟨o,_,_,X _ _ h1,h2,h3,λzz=>rfl⟩
theorem glob_at{K:Frag}(e:isDictAt K mainGlobals=true):∃o es ep,K.lookup mainGlobals=some o∧o.data=.dict es ep∧StrKeys es:=let ⟨o,h1,h2,h3⟩:=dict_at e;⟨o,_,_,h1,h2,h3⟩
theorem dictOf_at{prog:Program}{w:World}{K:Frag}{h:Heap}(X:K.In h){a:Addr}(e:isDictAt K a=true)(e2:isPlainDict K a=true)(e3:(esAt K a).map (·.hash)=(esAt K a).map λen=>PyData.keyHash w.params (keyStr en.key))(e4:distinctS ((esAt K a).map λen=>keyStr en.key)=true) :
  ∃kvs,h.DictOf (strKind prog w) a kvs:=by
 refine x1_3 (dict_at e) λo h1 h2 h3=>?_
 have hex:o.ExactDict:=by
  unfold isPlainDict at e2
  rw[h1]at e2
  obtain⟨c,d,dt,sl⟩:=o
  simp only at h2
  subst h2
  refine band3 e2 λq1 q2 q3=>?_;clear e2
  refine⟨?_,?_,?_⟩
  ·cases c with
   |type t=>
    have:t="dict":=eq_of_beq q1
    exact rwG this rfl
   |_=>exact absF q1
  ·simpa using q2
  ·have:sl.size=0:=eq_of_beq q3
   exact Array.eq_empty_of_size_eq_zero this
 refine⟨(esAt K a).map λen=>(keyStr en.key,en.val),o,(esAt K a).toArray,epAt K a,X _ _ h1,hex,h2,λen hen=>?_,?_,?_⟩
 ·refine x2_1 (h3 en hen) λx t hk=>?_
  refine⟨x,by refine rwG hk ?_;exact strKind_is prog w x t,?_⟩
  have hm:en∈esAt K a:=by simpa using hen
  refine x1_1 (List.getElem_of_mem hm) λi hq1=>?_;refine x1_1 hq1 λhi he2=>?_;subst he2
  have:=congrArg (·[i]?) e3
  simp only[List.getElem?_map,List.getElem?_eq_getElem hi,Option.map_some,Option.some.injEq]at this
  refine rwG this (rwG hk ?_)
  rfl
 ·have h3':∀en∈esAt K a,∃x t,en.key=.str x t:=λen hen=>h3 en (by simpa using hen)
  clear h2 h3 e3 e4
  show Pairs (strKind prog w) (esAt K a) _
  generalize esAt K a=l at h3'
  induction l with
  |nil=>exact .nil
  |cons en r ih=>
   refine x2_1 (h3' en (.head _)) λx t hk=>?_
   refine .cons ?_ rfl (ih λe' h'=>h3' e' (.tail _ h'))
   have e1:((λen:DictEntry=>(keyStr en.key,en.val)) en).fst=x:=by show keyStr en.key=x;refine rwG hk ?_;rfl
   refine rwG e1 (rwG hk ?_)
   exact strKind_is prog w x t
 ·refine rwG List.map_map ?_
  exact distinctS_ok e4
noncomputable def shOk(K:Frag)(sh cc:Addr)(q:Str):Bool:=match K.lookup sh with
 |some ⟨_,_,.func fd,_⟩=>(match fd.code with|.ref c=>Nat.beq c cc|_=>false)&&eqS ((fd.qualname++(".<locals>.":Str))++("<lambda>":Str)) q
 |_=>false
theorem shOk_ok{K:Frag}{sh cc:Addr}{q:Str}(h:shOk K sh cc q=true):∀o fd,K.lookup sh=some o→o.data=.func fd→fd.code=.ref cc∧(fd.qualname++(".<locals>.":Str))++("<lambda>":Str)=q:=by
 intro o fd e1 e2
 unfold shOk at h
 rw[e1]at h
 obtain⟨c,d,dt,sl⟩:=o
 simp only at e2
 subst e2
 refine band2 h λh1 h2=>?_;clear h
 refine⟨?_,eqS_eq h2⟩
 cases hc:fd.code with
 |ref c=>rw[hc]at h1;exact rwG (vB h1) rfl
 |_=>rw[hc]at h1;exact absF h1
theorem code_at{K:Frag}{h:Heap}(X:K.In h){fd:FuncData}(e:codeOk K fd=true):h.CodeRec fd.code fd.qualname:=by
 exact codeOk_ok e X
structure KGood(K:Frag)(P:Params)(D:List Nat)(sh tb cc:Addr)(q:Str):Prop where
 glob:isDictAt K mainGlobals=true
 dicts:∀a∈D,isDictAt K a=true∧isPlainDict K a=true∧(esAt K a).map (·.hash)=((esAt K a).map λen=>PyData.keyHash P (keyStr en.key))∧distinctS ((esAt K a).map λen=>keyStr en.key)=true∧(a==sysModules)=false
 sh:shOk K sh cc q=true
 gP:mainGlobals≠tb
theorem memN_ok{a:Nat}{l:List Nat}(h:memN a l=true):a∈l:=by
 unfold memN at h
 refine x1_2 (vG h) λb hb e=>?_
 refine rwG (vB e) ?_;exact hb
theorem fix_ok{prog:Program}{w:World}{K:Frag}{D:List Nat}{sh tb cc gf:Addr}{q:Str}{B:Heap}{p:Program}{loose:List Str}{mean:ExcName→Option Value}{mg mb:Str→Option Value}(G:KGood K w.params D sh tb cc q)
  (X:K.In B) (T:PyProof.Rows.Top p loose mean mg mb B) (hN:B.get? tb=none) (hC:CodeHd B cc tb) {θ:Nat→List Nat} (hθ:∀i,θ i≠[]∧(θ i).length≤4096) (hk:KyOK θ) {η:Nat→(Addr→Option Obj)→Value→Prop} (hb:BytEta η) (hcl:∀(Γ:Addr→Option Obj) (v:Value),η 998 Γ v→∃a o fd,v=.ref a∧Γ a=some o∧o.data=.func fd):FixOK ⟨prog,w,⟨K,D,sh⟩,B,tb,gf,cc,q,θ,η⟩ where
 byt:=hb
 cl:=hcl
 th:=hθ
 ky:=hk
 inK:=X
 noP:=hN
 glob:=glob_at G.glob
 blt:=⟨mb,T.b,T.builtins⟩
 nolimit:=T.nolimit
 nodigits:=T.nodigits
 dicts:=λa ha=>by
  refine x0_5 (G.dicts a (memN_ok ha)) λh1 h2 h3 h4 h5=>?_
  exact⟨h5,dictOf_at X h1 h2 h3 h4⟩
 code:=hC
 bmain:=by
  refine⟨mg,T.g,?_⟩
  refine x2_6 T.bmain λbm ob h1 h2 h3 h4 h5 h6=>?_
  refine⟨bm,ob,h1,h2,λe=>?_,λe=>?_,h3,h4,h5,h6⟩
  ·subst e
   refine x3_3 T.g λo es ep e1 e2 zz=>?_
   rw[h3]at e1;refine someI e1 ?_;clear e1;intro hx;subst hx
   rw[h6]at e2;cases e2
  ·have e':bm=tb:=e
   rw[e',hN]at h3;exact absN h3
 gP:=G.gP
 sh:=shOk_ok G.sh
end
section
noncomputable def exprStK{β:Type}(d:β)(e:Stmt)(k:Expr→Pos→β):β:=@Stmt.casesOn (λ_=>β) e (λa0 a1 a2 a3 a4 a5 a6 a7 a8 a9=>d) (λa0 a1 a2 a3 a4 a5 a6 a7 a8 a9=>d) (λa0 a1 a2 a3 a4 a5 a6 a7 a8 a9 a10=>d) (λa0 a1=>d) (λa0 a1=>d) (λa0 a1 a2=>d) (λa0 a1 a2 a3 a4 a5 a6=>d) (λa0 a1 a2 a3=>d) (λa0 a1 a2 a3 a4=>d) (λa0 a1 a2 a3 a4=>d) (λa0 a1 a2 a3 a4=>d) (λa0 a1 a2 a3=>d) (λa0 a1 a2 a3=>d) (λa0 a1 a2=>d) (λa0 a1 a2=>d) (λa0 a1 a2=>d) (λa0 a1 a2=>d) (λa0 a1 a2 a3 a4=>d) (λa0 a1 a2 a3 a4=>d) (λa0 a1 a2=>d) (λa0 a1=>d) (λa0 a1 a2 a3=>d) (λa0 a1=>d) (λa0 a1=>d) (λv p=>k v p) (λa0=>d) (λa0=>d) (λa0=>d)
noncomputable def assStK{β:Type}(d:β)(e:Stmt)(k:List Expr→Expr→Pos→β):β:=@Stmt.casesOn (λ_=>β) e (λa0 a1 a2 a3 a4 a5 a6 a7 a8 a9=>d) (λa0 a1 a2 a3 a4 a5 a6 a7 a8 a9=>d) (λa0 a1 a2 a3 a4 a5 a6 a7 a8 a9 a10=>d) (λa0 a1=>d) (λa0 a1=>d) (λts v p=>k ts v p) (λa0 a1 a2 a3 a4 a5 a6=>d) (λa0 a1 a2 a3=>d) (λa0 a1 a2 a3 a4=>d) (λa0 a1 a2 a3 a4=>d) (λa0 a1 a2 a3 a4=>d) (λa0 a1 a2 a3=>d) (λa0 a1 a2 a3=>d) (λa0 a1 a2=>d) (λa0 a1 a2=>d) (λa0 a1 a2=>d) (λa0 a1 a2=>d) (λa0 a1 a2 a3 a4=>d) (λa0 a1 a2 a3 a4=>d) (λa0 a1 a2=>d) (λa0 a1=>d) (λa0 a1 a2 a3=>d) (λa0 a1=>d) (λa0 a1=>d) (λa0 a1=>d) (λa0=>d) (λa0=>d) (λa0=>d)
noncomputable def attrK{β:Type}(d:β)(e:Expr)(k:Expr→Str→Pos→β):β:=@Expr.casesOn (λ_=>β) e (λa0 a1 a2=>d) (λa0 a1 a2=>d) (λa0 a1 a2 a3=>d) (λa0 a1 a2=>d) (λa0 a1 a2 a3=>d) (λa0 a1 a2 a3=>d) (λa0 a1 a2=>d) (λa0 a1 a2=>d) (λa0 a1 a2 a3=>d) (λa0 a1 a2 a3=>d) (λa0 a1 a2 a3 a4=>d) (λa0 a1 a2 a3=>d) (λa0 a1=>d) (λa0 a1=>d) (λa0 a1=>d) (λa0 a1 a2 a3=>d) (λa0 a1 a2 a3=>d) (λa0 a1 a2 a3=>d) (λa0 a1=>d) (λa0 a1 a2=>d) (λv x p=>k v x p) (λa0 a1 a2=>d) (λa0 a1=>d) (λa0 a1=>d) (λa0 a1=>d) (λa0 a1 a2=>d) (λa0 a1 a2 a3=>d)
noncomputable def asgP(s:Stmt)(k:Pos→Pos→Pos→Pos→List Pos):List Pos:=assStK [] s λts v p4=>oneK [] ts λt=>attrK [] t λo _ p2=>nameK [] o λ_ p1=>nameK [] v λ_ p3=>k p1 p2 p3 p4
noncomputable def initPos(l:List Stmt):List Pos:=threeK [] l λs1 s2 s3=>exprStK [] s1 λe p6=>call0K [] e λf as _ p5=>attrK [] f λo _ p2=>nameK [] o λ_ p1=>twoK [] as λa b=>nameK [] a λ_ p3=>nameK [] b λ_ p4=>
 asgP s2 λq1 q2 q3 q4=>asgP s3 λr1 r2 r3 r4=>[p1,p2,p3,p4,p5,p6,q1,q2,q3,q4,r1,r2,r3,r4]
noncomputable def fdOf(K:Frag)(a:Addr):FuncData:=match K.lookup a with
 |some ⟨_,_,.func fd,_⟩=>fd
 |_=>default
noncomputable def stmtsOf(fd:FuncData):List Stmt:=match fd.body with
 |.stmts b=>b
 |_=>[]
noncomputable def cldOf(K:Frag)(a:Addr):ClassData:=match K.lookup a with
 |some ⟨_,_,.cls c,_⟩=>c
 |_=>default
noncomputable def slOf(K:Frag)(a:Addr):Array (Option Value):=match K.lookup a with
 |some ⟨_,_,_,sl⟩=>sl
 |_=>#[]
noncomputable def dcOf(K:Frag)(a:Addr):Option Addr:=match K.lookup a with
 |some ⟨_,d,_,_⟩=>d
 |_=>none
noncomputable def csOf(K:Frag)(a:Addr):Value:=match K.lookup a with
 |some ⟨c,_,_,_⟩=>c
 |_=>.none
noncomputable def sqOf(K:Frag)(a:Addr):Array Value×Nat:=match K.lookup a with
 |some ⟨_,_,.seq vs n,_⟩=>(vs,n)
 |_=>(#[],0)
noncomputable def refOf:Value→Addr
 |.ref a=>a
 |_=>0
noncomputable def gfD(K:Frag)(gf L:Addr):GfD:=
 let c:=cldOf K gf
 let s:=slOf K gf
 let f:=refOf ((nsFind (esAt K (cldOf K L).ns).toArray ("__init__":Str)).getD .none)
 let fd:=fdOf K f
 { nm:=c.name,q:=c.qualname,N:=c.ns,L:=L,fI:=f,td:=refOf fd.defaults,bs:=c.bases,sn:=c.slotNames,sub:=c.subclasses,ab:=c.abstract,col:=c.collection,dd:=dcOf K gf,k0:=s.getD 0 none,k1:=s.getD 1 none,k2:=s.getD 2 none,k3:=s.getD 3 none,k5:=s.getD 5 none,c0:=csOf K L,dA:=dcOf K L,cd:=cldOf K L,sl:=slOf K L,oI:=⟨csOf K f,dcOf K f,.func fd,slOf K f⟩,fd:=fd,dv:=(sqOf K (refOf fd.defaults)).1.getD 0 .none,oD:=⟨csOf K (refOf fd.defaults),dcOf K (refOf fd.defaults),.seq (sqOf K (refOf fd.defaults)).1 (sqOf K (refOf fd.defaults)).2,slOf K (refOf fd.defaults)⟩,n:=(sqOf K (refOf fd.defaults)).2,ps:=initPos (stmtsOf fd) }
noncomputable def isN(K:Frag)(a:Addr)(x:Str):Bool:=(nsFind (esAt K a).toArray x).isNone
structure GfGood(K:Frag)(gf:Addr)(G:GfD):Prop where
 C:K.lookup gf=some (excClassObj G.nm G.q gf G.N G.bs (.ref G.L::excBm) true G.sn G.sub G.ab G.col G.dd G.k0 G.k1 G.k2 G.k3 G.k5 "Exception.__new__")
 N:isDictAt K G.N=true
 n1:isN K G.N "__init__"=true
 n2:isN K G.N "__setattr__"=true
 n3:isN K G.N "what"=true
 n4:isN K G.N "at"=true
 L:K.lookup G.L=some { cls:=G.c0,dict:=G.dA,data:=.cls G.cd,slots:=G.sl }
 NL:isDictAt K G.cd.ns=true
 l1:nsFind (esAt K G.cd.ns).toArray "__init__"=some (.ref G.fI)
 l2:isN K G.cd.ns "__setattr__"=true
 l3:isN K G.cd.ns "what"=true
 l4:isN K G.cd.ns "at"=true
 I:K.lookup G.fI=some G.oI
 Ic:G.oI.cls=.type "function"
 Id:G.oI.data=.func G.fd
 par:plainPar G.fd.params=true
 args:G.fd.params.args.map (·.arg)=([("self":Str),("what":Str),("at":Str)]:List Str)
 dfl:G.fd.defaults=.ref G.td
 D:K.lookup G.td=some G.oD
 Dd:G.oD.data=.seq #[G.dv] G.n
 body:G.fd.body=.stmts (initBody (G.ps.getD 0 default) (G.ps.getD 1 default) (G.ps.getD 2 default) (G.ps.getD 3 default) (G.ps.getD 4 default) (G.ps.getD 5 default) (G.ps.getD 6 default) (G.ps.getD 7 default) (G.ps.getD 8 default) (G.ps.getD 9 default) (G.ps.getD 10 default) (G.ps.getD 11 default) (G.ps.getD 12 default) (G.ps.getD 13 default))
 line:((G.ps.getD 1 default).endLine==(G.ps.getD 4 default).line)=true
 co:G.fd.scope.isCoroutine=false
 ge:G.fd.scope.isGenerator=false
 kind:isFun G.fd.scope=true
 cells:noCells G.fd.scope=true
 s1:isLc G.fd.scope "self"=true
 s2:isLc G.fd.scope "what"=true
 s3:isLc G.fd.scope "at"=true
 s4:isGl G.fd.scope "Exception"=true
 clo:G.fd.closure=[]
 code:codeOk K G.fd=true
 glob:Nat.beq G.fd.globals mainGlobals=true
 gx:isN K mainGlobals "Exception"=true
 blt:Nat.beq G.fd.builtins builtinsNs=true
 bx:bootBuiltins "Exception"=some (.type "Exception")
theorem isN_ok{K:Frag}{a:Addr}{x:Str}(h:isN K a x=true):nsFind (esAt K a).toArray x=none:=by
 unfold isN at h
 simpa using h
theorem isLc_ok{sc:Scope}{x:Str}(h:isLc sc x=true):sc.names.lookup x=some .local:=(lk_eq ..).symm.trans (isLc_eq h)
theorem isGl_ok{sc:Scope}{x:Str}(h:isGl sc x=true):sc.names.lookup x=some .globalImplicit:=(lk_eq ..).symm.trans (isGl_eq h)
theorem gf_ok{K:Frag}{gf:Addr}{G:GfD}(x:GfGood K gf G){B:Heap}(X:K.In B){p:Program}{loose:List Str}{mean:ExcName→Option Value}{mg mb:Str→Option Value}(T:PyProof.Rows.Top p loose mean mg mb B)(gm:isDictAt K mainGlobals=true):GfOK B gf G where
 C:=X _ _ x.C
 N:=⟨_,ns_at X x.N,isN_ok x.n1,isN_ok x.n2,isN_ok x.n3,isN_ok x.n4⟩
 L:=X _ _ x.L
 NL:=⟨_,ns_at X x.NL,x.l1,isN_ok x.l2,isN_ok x.l3,isN_ok x.l4⟩
 I:=X _ _ x.I
 Ic:=x.Ic
 Id:=x.Id
 par:=x.par
 args:=x.args
 dfl:=x.dfl
 D:=X _ _ x.D
 Dd:=x.Dd
 body:=⟨_,_,_,_,_,_,_,_,_,_,_,_,_,_,x.body,x.line⟩
 co:=x.co
 ge:=x.ge
 kind:=isFun_eq x.kind
 cells:=λe he hc=>noCells_ok x.cells (x:=e.1) (by refine rwS hc ?_;exact he)
 s1:=isLc_ok x.s1
 s2:=isLc_ok x.s2
 s3:=isLc_ok x.s3
 s4:=isGl_ok x.s4
 clo:=x.clo
 code:=code_at X x.code
 nolim:=T.nolimit
 g1:=⟨_,by rw[vB x.glob];exact ns_at X gm,isN_ok x.gx⟩
 b1:=⟨mb,by rw[vB x.blt];exact T.b,(T.builtins _ (by decide)).trans x.bx⟩
end
section
noncomputable def retK1{β:Type}(d:β)(e:Stmt)(k:Option Expr→Pos→β):β:=@Stmt.casesOn (λ_=>β) e (λ_ _ _ _ _ _ _ _ _ _=>d) (λ_ _ _ _ _ _ _ _ _ _=>d) (λ_ _ _ _ _ _ _ _ _ _ _=>d) k (λ_ _=>d) (λ_ _ _=>d) (λ_ _ _ _ _ _ _=>d) (λ_ _ _ _=>d) (λ_ _ _ _ _=>d) (λ_ _ _ _ _=>d) (λ_ _ _ _ _=>d) (λ_ _ _ _=>d) (λ_ _ _ _=>d) (λ_ _ _=>d) (λ_ _ _=>d) (λ_ _ _=>d) (λ_ _ _=>d) (λ_ _ _ _ _=>d) (λ_ _ _ _ _=>d) (λ_ _ _=>d) (λ_ _=>d) (λ_ _ _ _=>d) (λ_ _=>d) (λ_ _=>d) (λ_ _=>d) (λ_=>d) (λ_=>d) (λ_=>d)
noncomputable def forK1{β:Type}(d:β)(e:Stmt)(k:Expr→Expr→List Stmt→List Stmt→Pos→β):β:=@Stmt.casesOn (λ_=>β) e (λ_ _ _ _ _ _ _ _ _ _=>d) (λ_ _ _ _ _ _ _ _ _ _=>d) (λ_ _ _ _ _ _ _ _ _ _ _=>d) (λ_ _=>d) (λ_ _=>d) (λ_ _ _=>d) (λ_ _ _ _ _ _ _=>d) (λ_ _ _ _=>d) (λ_ _ _ _ _=>d) k (λ_ _ _ _ _=>d) (λ_ _ _ _=>d) (λ_ _ _ _=>d) (λ_ _ _=>d) (λ_ _ _=>d) (λ_ _ _=>d) (λ_ _ _=>d) (λ_ _ _ _ _=>d) (λ_ _ _ _ _=>d) (λ_ _ _=>d) (λ_ _=>d) (λ_ _ _ _=>d) (λ_ _=>d) (λ_ _=>d) (λ_ _=>d) (λ_=>d) (λ_=>d) (λ_=>d)
noncomputable def tryK1{β:Type}(d:β)(e:Stmt)(k:List Stmt→List ExceptHandler→List Stmt→List Stmt→Pos→β):β:=@Stmt.casesOn (λ_=>β) e (λ_ _ _ _ _ _ _ _ _ _=>d) (λ_ _ _ _ _ _ _ _ _ _=>d) (λ_ _ _ _ _ _ _ _ _ _ _=>d) (λ_ _=>d) (λ_ _=>d) (λ_ _ _=>d) (λ_ _ _ _ _ _ _=>d) (λ_ _ _ _=>d) (λ_ _ _ _ _=>d) (λ_ _ _ _ _=>d) (λ_ _ _ _ _=>d) (λ_ _ _ _=>d) (λ_ _ _ _=>d) (λ_ _ _=>d) (λ_ _ _=>d) (λ_ _ _=>d) (λ_ _ _=>d) k (λ_ _ _ _ _=>d) (λ_ _ _=>d) (λ_ _=>d) (λ_ _ _ _=>d) (λ_ _=>d) (λ_ _=>d) (λ_ _=>d) (λ_=>d) (λ_=>d) (λ_=>d)
noncomputable def cmpK1{β:Type}(d:β)(e:Expr)(k:Expr→List CmpOp→List Expr→Pos→β):β:=@Expr.casesOn (λ_=>β) e (λ_ _ _=>d) (λ_ _ _=>d) (λ_ _ _ _=>d) (λ_ _ _=>d) (λ_ _ _ _=>d) (λ_ _ _ _=>d) (λ_ _ _=>d) (λ_ _ _=>d) (λ_ _ _ _=>d) (λ_ _ _ _=>d) (λ_ _ _ _ _=>d) (λ_ _ _ _=>d) (λ_ _=>d) (λ_ _=>d) (λ_ _=>d) k (λ_ _ _ _=>d) (λ_ _ _ _=>d) (λ_ _=>d) (λ_ _ _=>d) (λ_ _ _=>d) (λ_ _ _=>d) (λ_ _=>d) (λ_ _=>d) (λ_ _=>d) (λ_ _ _=>d) (λ_ _ _ _=>d)
noncomputable def sliK1{β:Type}(d:β)(e:Expr)(k:Option Expr→Option Expr→Option Expr→Pos→β):β:=@Expr.casesOn (λ_=>β) e (λ_ _ _=>d) (λ_ _ _=>d) (λ_ _ _ _=>d) (λ_ _ _=>d) (λ_ _ _ _=>d) (λ_ _ _ _=>d) (λ_ _ _=>d) (λ_ _ _=>d) (λ_ _ _ _=>d) (λ_ _ _ _=>d) (λ_ _ _ _ _=>d) (λ_ _ _ _=>d) (λ_ _=>d) (λ_ _=>d) (λ_ _=>d) (λ_ _ _ _=>d) (λ_ _ _ _=>d) (λ_ _ _ _=>d) (λ_ _=>d) (λ_ _ _=>d) (λ_ _ _=>d) (λ_ _ _=>d) (λ_ _=>d) (λ_ _=>d) (λ_ _=>d) (λ_ _ _=>d) k
section
variable(kk:Params→Frag)(P:Params)
noncomputable def TT:Top:=⟨kk P,[29,61,198,199,200,201],542⟩
noncomputable def objAt(a:Addr):Obj:=match(kk P).lookup a with|some o=>o|none=>default
noncomputable def fdAt(a:Addr):FuncData:=match(objAt kk P a).data with|.func fd=>fd|_=>default
noncomputable def stsAt(a:Addr):List Stmt:=match(fdAt kk P a).body with|.stmts b=>b|_=>[]
noncomputable def forP(s:Stmt):Pos×Pos×Expr×List Stmt:=forK1 (default,default,default,[]) s λn i b _ q=>nameK (default,default,default,[]) n λ_ p=>(p,q,i,b)
noncomputable def kSS:ShP:=⟨objAt kk P 542,fdAt kk P 542,stsAt kk P 542⟩
noncomputable def at0{α:Type}[Inhabited α](l:List α)(i:Nat):α:=l.getD i default
noncomputable def RiP.no:RiP:=⟨default,default,default,default,default,default,default,default,default,default,default,default,default,default,default,default,default⟩
noncomputable def PenP.no:PenP:=⟨default,default,default,default,default,0,default,default,default,default,default,default,default,default,default⟩
noncomputable def rightS:RiP:=tryK1 .no (at0 (stsAt kk P 633) 0) λb hs _ _ q10=>retK1 .no (at0 b 0) λe1 q1=>oneK .no hs λh=>@ExceptHandler.casesOn (λ_=>RiP) h λty _ hb q9=>ifS .no ty λty=>nameK .no ty λgn q2=>retK1 .no (at0 hb 0) λe2 q8=>ifS .no e1 λe1=>ifS .no e2 λe2=>cmpK1 .no e2 λl _ rs q7=>subK .no l λpn i q5=>nameK .no pn λpn q3=>constK .no i λ_ u1 q4=>constK .no (at0 rs 0) λ_ u2 q6=>
 ⟨objAt kk P 633,fdAt kk P 633,e1,gn,pn,u1,u2,q1,q2,q3,q4,q5,q6,q7,q8,q9,q10⟩
noncomputable def penS:PenP:=let b:=stsAt kk P 566;forK1 .no (at0 b 1) λn i body _ p6=>nameK .no n λnC p1=>subK .no i λx c p5=>nameK .no x λnS p2=>sliK1 .no c λ_ hi _ p4=>ifS .no hi λhi=>constK .no hi λz u p3=>cintK .no z λcut=>
 ⟨objAt kk P 566,fdAt kk P 566,at0 b 0,nC,nS,cut,body,at0 b 2,u,p1,p2,p3,p4,p5,p6⟩
noncomputable def kPh:PhP:=let b:=stsAt kk P 592;let f:=forP (b.getD 1 default);⟨objAt kk P 592,fdAt kk P 592,b.take 1,f.1,f.2.1,f.2.2.1,f.2.2.2,b.drop 2⟩
noncomputable def kAr:ArP:=let b:=stsAt kk P 597;let f:=forP (b.getD 1 default);⟨objAt kk P 597,fdAt kk P 597,b.take 1,f.1,f.2.1,f.2.2.1,f.2.2.2,(b.drop 2).take 2,b.getD 4 default,b.drop 5⟩
noncomputable def kSe:SeP:=let b:=stsAt kk P 602;⟨objAt kk P 602,fdAt kk P 602,b.take 2,b.getD 2 default,(b.drop 3).take 1,(b.drop 4).take 2,(b.drop 6).take 1,b.drop 7⟩
noncomputable def kRe:WyP:=let b:=stsAt kk P 609;⟨objAt kk P 609,fdAt kk P 609,b.take 2,b.getD 2 default,b.drop 3⟩
noncomputable def kJo:WyP:=let b:=stsAt kk P 614;⟨objAt kk P 614,fdAt kk P 614,b.take 1,b.getD 1 default,b.drop 2⟩
noncomputable def kEv:EvP:=let b:=stsAt kk P 619;let f:=forP (b.getD 3 default);let f2:=forP (f.2.2.2.getD 1 default);⟨objAt kk P 619,fdAt kk P 619,b.take 3,f.1,f.2.1,f.2.2.1,f.2.2.2.take 1,f2.1,f2.2.1,f2.2.2.1,f2.2.2.2.take 1,f2.2.2.2.drop 1,f.2.2.2.drop 2,b.drop 4⟩
end
noncomputable def kF:EvF:=⟨434,439,253⟩
noncomputable def drawEnd(m z b c:Int)(τ:Sto)(k:KV):Bool:=if smallP m=true then k (.int (z.fmod m)) ([.int (z.fdiv m),.int b,.int c]::τ)else false
noncomputable abbrev R_draw_eq(kk:Params→Frag):Prop:=∀(P:Params) (orc:Orc) (a b c m:Int) (τ:Sto) (k:KV) (kx:KX),
 callP (TT kk P) 170 orc (.old 573) [.lst 0,.int m] ([.int a,.int b,.int c]::τ) k kx =
  (if(a==0)=true then
   (if(smallF 9949&&nonNegM (22+(b+1)))=true then(if(smallF (2*c+3)||smallF (9949 ^ (22+(b+1)).toNat))=true then drawEnd m (((2*c+3)*9949 ^ (22+(b+1)).toNat).fdiv 78125) (b+1) c τ k else false)else false)
  else drawEnd m a b c τ k)
noncomputable abbrev R_body_eq(kk:Params→Frag):Prop:=∀(P:Params) (orc:Orc) (σ:Sto) (k:KV) (kx:KX),callP (TT kk P) 170 orc (.old 587) [.lst 0] σ k kx=orc (.old 580) [.lst 0,.tup bodyC] σ k kx
noncomputable abbrev R_pick_eq(kk:Params→Frag):Prop:=∀(P:Params) (orc:Orc) (σ:Sto) (k:KV) (kx:KX),callP (TT kk P) 170 orc (.old 580) [.lst 0,.tup bodyC] σ k kx=orc (.old 573) [.lst 0,.int 4] σ (λp σ=>ifS false (itemP (TT kk P) (.tup bodyC) p σ) λv=>k v σ) kx
noncomputable abbrev R_right_isS(kk:Params→Frag):Prop:=∀(P:Params),RiIs (kk P) 170 633 (rightS kk P)
noncomputable abbrev R_right_run(kk:Params→Frag):Prop:=∀(P:Params) (ok:Bool),riRun (TT kk P) 170 (rightS kk P) ok=true
noncomputable abbrev R_pen_isS(kk:Params→Frag):Prop:=∀(P:Params),PenIs (kk P) 566 (penS kk P)
noncomputable def nNum:Str:=Str.ofString "number"
noncomputable abbrev R_pen_cut(kk:Params→Frag):Prop:=∀(P:Params),(penS kk P).cut=30
noncomputable abbrev R_pen_bind(kk:Params→Frag):Prop:=∀(P:Params),bindP (argsOf (penS kk P).fd) [.hole 0]=some [((penS kk P).nS,.hole 0)]
noncomputable abbrev R_pen_r0(kk:Params→Frag):Prop:=∀(P:Params) (q:Bool) (z:Int) (orc:Orc),nameP ⟨TT kk P,170,orc⟩ (penS kk P).nS (penFr (penS kk P).fd q (penBase (penS kk P).nS nNum z++[]))=some (.hole 0)
noncomputable abbrev R_pen_r0'(kk:Params→Frag):Prop:=∀(P:Params) (q:Bool) (z y:Int) (orc:Orc),nameP ⟨TT kk P,170,orc⟩ (penS kk P).nS (penFr (penS kk P).fd q (penBase (penS kk P).nS nNum z++[((penS kk P).nC,.int y)]))=some (.hole 0)
noncomputable abbrev R_pen_r1(kk:Params→Frag):Prop:=∀(P:Params) (q:Bool) (orc:Orc) (k:KF) (kx:KX),Internal.execs (lvl ⟨TT kk P,170,orc⟩ lvlMax) [(penS kk P).s1] (penFr (penS kk P).fd q [((penS kk P).nS,.hole 0)]) [] k kx=k .next (penFr (penS kk P).fd q (penBase (penS kk P).nS nNum 13)) []
noncomputable abbrev R_pen_r3(kk:Params→Frag):Prop:=∀(P:Params) (q:Bool) (orc:Orc) (z:Int) (xs:List PV) (k:KF) (kx:KX),Internal.execs (lvl ⟨TT kk P,170,orc⟩ lvlMax) [(penS kk P).ret] (penFr (penS kk P).fd q (penBase (penS kk P).nS nNum z++[])) [xs] k kx=k (.ret (.lst 1)) (penFr (penS kk P).fd q (penBase (penS kk P).nS nNum z++[])) [xs,[.int z,.int 0,.int (z.fmod 999979)]]
noncomputable abbrev R_pen_r3'(kk:Params→Frag):Prop:=∀(P:Params) (q:Bool) (orc:Orc) (z y:Int) (xs:List PV) (k:KF) (kx:KX),Internal.execs (lvl ⟨TT kk P,170,orc⟩ lvlMax) [(penS kk P).ret] (penFr (penS kk P).fd q (penBase (penS kk P).nS nNum z++[((penS kk P).nC,.int y)])) [xs] k kx=k (.ret (.lst 1)) (penFr (penS kk P).fd q (penBase (penS kk P).nS nNum z++[((penS kk P).nC,.int y)])) [xs,[.int z,.int 0,.int (z.fmod 999979)]]
noncomputable def penZ(z y:Int):Int:=z*2053+(2*((y.natAbs:Nat):Int)+(if decide (y<0)=true then 1 else 0)).fmod (10 ^ (80:Nat))
noncomputable abbrev R_pen_r2(kk:Params→Frag):Prop:=∀(P:Params) (q:Bool) (orc:Orc) (z y:Int) (p1:Pos) (σ:Sto) (k:KF) (kx:KX),assT (.Name (penS kk P).nC p1) (.int y) (penFr (penS kk P).fd q (penBase (penS kk P).nS nNum z++[])) (λρ=>Internal.execs (lvl ⟨TT kk P,170,orc⟩ lvlMax) (penS kk P).body ρ σ k kx) =
  (if(smallF z||smallF 2053)=true then k .next (penFr (penS kk P).fd q (penBase (penS kk P).nS nNum (penZ z y)++[((penS kk P).nC,.int y)])) σ else false)
noncomputable abbrev R_pen_r2'(kk:Params→Frag):Prop:=∀(P:Params) (q:Bool) (orc:Orc) (z y y':Int) (p1:Pos) (σ:Sto) (k:KF) (kx:KX),assT (.Name (penS kk P).nC p1) (.int y) (penFr (penS kk P).fd q (penBase (penS kk P).nS nNum z++[((penS kk P).nC,.int y')])) (λρ=>Internal.execs (lvl ⟨TT kk P,170,orc⟩ lvlMax) (penS kk P).body ρ σ k kx) =
  (if(smallF z||smallF 2053)=true then k .next (penFr (penS kk P).fd q (penBase (penS kk P).nS nNum (penZ z y)++[((penS kk P).nC,.int y)])) σ else false)
noncomputable def RT(f:Params→Bool):Prop:=∀P,f P=true
theorem Trie.all_intro:∀{T:Trie} {p:List Nat→Bool},(∀c,T.mem c=true→p c=true)→T.all p=true
 |.nil,p,h=>h [] rfl
 |.or a b,p,h=>Bool.and_eq_true_iff.mpr ⟨all_intro λc q=>h c (Bool.or_eq_true_iff.mpr (.inl q)),all_intro λc q=>h c (Bool.or_eq_true_iff.mpr (.inr q))⟩
 |.node ds f,p,h=>List.all_eq_true.mpr λd hd=>all_intro λr hr=>h (d::r) (Bool.and_eq_true_iff.mpr ⟨List.any_eq_true.mpr ⟨d,hd,Nat.beq_refl d⟩,hr⟩)
theorem all_cut{W:Trie}{F:List Nat→Bool}{g:List Nat→Nat}{n:Nat}(hc:(W.all λc=>Nat.blt (g c) n)=true)(h:∀k,k<n→(W.all λc=>!(Nat.beq (g c) k)||F c)=true):W.all F=true:=
 Trie.all_intro λc hm=>(vK (Trie.all_mem (h (g c) (vA (Trie.all_mem hc hm))) hm)).elim (λe=>absT ((congrArg (λb=>!b) (Nat.beq_refl (g c))).symm.trans e).symm) id
noncomputable def nth3(c:List Nat):Nat:=c.getD 3 0
section
variable(kk:Params→Frag)
noncomputable abbrev R_fn(a:Addr)(o:Params→Obj)(fd:Params→FuncData)(as:List Str)(body:Params→List Stmt):Prop:=∀P,FnIs (kk P) a (o P) (fd P) as (body P)
noncomputable abbrev R_q(fd:Params→FuncData)(st:Params→Stmt)(z:Nat)(x:Str)(s:St):Prop:=∀P,callEq (TT kk P) 170 573 592 (fd P) 13 (st P) z x s.vars s.sto
noncomputable def b_leaf(P:Params):Bool:=(leafTab 542).all λe=>tower (TT kk P) 170 (tabSp (kk P) 542 []) 30 (.old e.f) e.args [] (kG e.res) (kxG e.res)
noncomputable def b_body(P:Params):Bool:=(bodyBase 253).all (baseB (TT kk P) 170)
noncomputable def aPh(z:Nat)(P:Params):Auto:=phA (TT kk P) 170 573 265 253 (kPh kk P).fd z
noncomputable def b_ph_gd(P:Params):Bool:=notSet (kPh kk P).iter&&isLc (kPh kk P).fd.scope nTurn
noncomputable def b_ph_0(z:Nat)(P:Params):Bool:=startW.all ((aPh kk z P).run (phW z 0) 0 0 phM0 id (kPh kk P).s0)
noncomputable def b_ph_1(z:Nat)(P:Params):Bool:=(phW z 0).all ((aPh kk z P).src 3 1 0 (kPh kk P).iter)
noncomputable def b_ph_2(z j:Nat)(P:Params):Bool:=(phW z j).all ((aPh kk z P).run (phW z (j+1)) 4 1 (phM1 z) (put nTurn (.int (j:Int))) (kPh kk P).body)
noncomputable def b_ph_3(z:Nat)(P:Params):Bool:=(Trie.ors ((List.range 4).map (phW z))).all ((aPh kk z P).run .none 0 0 (λ_ _ _=>[]) id (kPh kk P).s2)
noncomputable def R_sh_is:Prop:=∀(P:Params),ShIs (kk P) 542 (kSS kk P)
noncomputable def aAr(P:Params):Auto:=arA (TT kk P) 170 573 265 253 282 (kSS kk P) (kAr kk P)
noncomputable def b_ar_gd(P:Params):Bool:=notSet (kAr kk P).iter&&isLc (kAr kk P).fd.scope nTurn
noncomputable def b_ar_0(P:Params):Bool:=startW.all ((aAr kk P).run (arW1 0) 2 0 arM0 id (kAr kk P).s0)
noncomputable def b_ar_1(P:Params):Bool:=(arW1 0).all ((aAr kk P).src 2 2 0 (kAr kk P).iter)
noncomputable def b_ar_2(j:Nat)(P:Params):Bool:=(arW1 j).all ((aAr kk P).run (arW1 (j+1)) 6 1 arM1 (put nTurn (.int (j:Int))) (kAr kk P).body)
noncomputable def b_ar_4(P:Params):Bool:=arW2.all ((aAr kk P).run arW3 2 0 arM2 id (kAr kk P).s2)
noncomputable def b_ar_8(n c:Nat)(P:Params):Bool:=(arW5 n c).all ((aAr kk P).run .none 0 0 (λ_ _ _=>[]) id (kAr kk P).s5)
noncomputable def aWy(f:Params→WyP)(Q:WySt)(P:Params):Auto:=wyA (TT kk P) 170 573 (kSS kk P) (f P).fd Q.st [] []
noncomputable def b_wy_0(f:Params→WyP)(Q:WySt)(k:Nat)(P:Params):Bool:=startW.all ((aWy kk f Q P).run Q.W1 k 0 (λ_ _ _=>Q.ms) id (f P).s0)
noncomputable def b_wy_2(f:Params→WyP)(Q:WySt)(k c:Nat)(P:Params):Bool:=(Q.W2 c).all ((aWy kk f Q P).run .none k 0 (λ_ _ _=>[]) id (f P).s2)
noncomputable def aSe(P:Params):Auto:=seA (TT kk P) 170 573 265 253 (kSe kk P)
noncomputable def b_se_0(P:Params):Bool:=startW.all ((aSe kk P).run seW1 2 0 smv0 id (kSe kk P).s0)
noncomputable def b_se_3(m:Nat)(P:Params):Bool:=(seW2 m).all ((aSe kk P).run (all4 seW3) 1 0 smv3 id (kSe kk P).s3)
noncomputable def b_se_4(m k:Nat)(P:Params):Bool:=(seW3 m).all λc=>!(Nat.beq (nth3 c) k)||(aSe kk P).run (all4 seW4) 3 0 smv4 id (kSe kk P).s4 c
noncomputable def b_se_6(m:Nat)(P:Params):Bool:=(seW4 m).all ((aSe kk P).run (all4 seW5) 1 0 smv6 id (kSe kk P).s6)
noncomputable def b_se_7(m:Nat)(P:Params):Bool:=(seW5 m).all ((aSe kk P).run .none 0 0 (λ_ _ _=>[]) id (kSe kk P).s7)
noncomputable def b_se_8(m:Nat)(P:Params):Bool:=(seW5 m).all λc=>!(eqL (seRed c) c)||rightBS (TT kk P) 170 (tabSp (kk P) 542 (seSt 265 253 c).fs) (kSS kk P) (sePair c)
noncomputable def aEv(P:Params):Auto:=evA (TT kk P) 170 573 (kSS kk P) (kEv kk P) kF
noncomputable def b_ev_gd(P:Params):Bool:=(notSet (kEv kk P).i1&&isLc (kEv kk P).fd.scope nTurn)&&(notSet (kEv kk P).i2&&isLc (kEv kk P).fd.scope nAgain)
noncomputable def b_ev_b(P:Params):Bool:=(evBase kF).all (baseB (TT kk P) 170)
noncomputable def b_ev_p(P:Params):Bool:=(evBaseP kF).all (basePB (TT kk P) 170)
noncomputable def b_ev_0(P:Params):Bool:=startW.all ((aEv kk P).run (headW 0) 4 0 mvs0 id (kEv kk P).s0)
noncomputable def b_ev_1(P:Params):Bool:=(headW 0).all ((aEv kk P).src 2 2 0 (kEv kk P).i1)
noncomputable def b_ev_2(i:Nat)(P:Params):Bool:=(headW i).all ((aEv kk P).run (inW i 0) 0 2 mvsB (put nTurn (.int i)) (kEv kk P).b0)
noncomputable def b_ev_3(i:Nat)(P:Params):Bool:=(inW i 0).all ((aEv kk P).src 2 2 2 (kEv kk P).i2)
noncomputable def b_ev_4(i j:Nat)(P:Params):Bool:=(inW i j).all ((aEv kk P).run (rowW i j) 4 3 mvsR (put nAgain (.int j)) (kEv kk P).c0)
noncomputable def b_ev_5(i j:Nat)(P:Params):Bool:=(rowW i j).all ((aEv kk P).run (inW i (j+1)) 0 3 mvsT id (kEv kk P).c1)
noncomputable def b_ev_6(i:Nat)(P:Params):Bool:=(Trie.ors ((List.range 3).map (inW i))).all ((aEv kk P).run (headW (i+1)) 2 2 mvsE id (kEv kk P).b2)
noncomputable def b_ev_7(P:Params):Bool:=(Trie.ors ((List.range 3).map headW)).all ((aEv kk P).run Trie.none 0 0 (λ_ _ _=>[]) id (kEv kk P).s4)
noncomputable def b_li(P:Params):Bool:=startW.all ((wyA (TT kk P) 170 573 (kSS kk P) (fdAt kk P 626) (λ_=>stS) [] []).run .none 6 0 (λ_ _ _=>[]) id (stsAt kk P 626))
end
noncomputable def lawF(kk:Params→Frag)(P:Params):LawFr:=⟨(fdAt kk P 638).scope,true,false⟩
noncomputable def nScr:Str:=Str.ofString "script"
noncomputable def kWs:List Addr:=[597,602,609,614,619,626]
noncomputable def R_law_b(kk:Params→Frag):Prop:=∀(P:Params),stsAt kk P 638=(stsAt kk P 638).getD 0 default::(stsAt kk P 638).drop 1
noncomputable def R_law_A(kk:Params→Frag):Prop:=∀(P:Params) (orc:Orc) (k:KF) (kx:KX),Internal.execs (lvl ⟨TT kk P,170,orc⟩ lvlMax) [(stsAt kk P 638).getD 0 default] ((lawF kk P).fr [(nScr,.hole 0)]) [] k kx=orc (.old 566) [.hole 0] [] (λp σ=>k .next ((lawF kk P).fr [(nScr,.hole 0),(nPen,p)]) σ) kx
noncomputable def R_law_R(kk:Params→Frag):Prop:=∀(P:Params),Internal.execs (lvW (TT kk P) 170 573 633 60 kWs fixedP) ((stsAt kk P 638).drop 1) ((lawF kk P).fr [(nPen,.lst 0)]) [penP 0] kTrue (λ_=>false)=true
noncomputable def R_fix(kk:Params→Frag):Prop:=∀(P:Params),(fixedP.all λp=>clo p&&rightBS (TT kk P) 170 (tabSp (kk P) 542 (leafTab 542)) (kSS kk P) p)=true
noncomputable def R_kg(kk:Params→Frag)(a:Nat):Prop:=∀(P:Params),(isDictAt (kk P) a&&isPlainDict (kk P) a&&distinctS ((esAt (kk P) a).map λen=>keyStr en.key))=true
noncomputable def R_kgh(kk:Params→Frag)(a:Nat):Prop:=∀(P:Params),(esAt (kk P) a).map (·.hash)=((esAt (kk P) a).map λen=>PyData.keyHash P (keyStr en.key))
noncomputable def shQ:Str:=Str.ofString "show_statement.<locals>.<lambda>"
noncomputable def R_kg_glob(kk:Params→Frag):Prop:=∀(P:Params),isDictAt (kk P) mainGlobals=true
noncomputable def R_kg_sh(kk:Params→Frag):Prop:=∀(P:Params),shOk (kk P) 542 541 shQ=true
noncomputable def gG(kk:Params→Frag)(P:Params):GfD:=gfD (kk P) 170 157
noncomputable def R_gf_good(kk:Params→Frag):Prop:=∀P:Params,GfGood (kk P) 170 (gG kk P)
noncomputable def scGood(sc:Scope):Bool:=(sc.names.all λx=>match x.2 with|.cell=>false|.free=>false|_=>true)&&isLc sc nPen
noncomputable def R_scg(kk:Params→Frag):Prop:=∀P:Params,scGood (lawF kk P).sc=true
noncomputable abbrev R_hkind(kk:Params→Frag):Prop:=∀P:Params,(fdAt kk P 638).scope.kind=.function
structure Runs(kk:Params→Frag):Prop where
 draw_eq:R_draw_eq kk
 body_eq:R_body_eq kk
 pick_eq:R_pick_eq kk
 right_isS:R_right_isS kk
 right_run:R_right_run kk
 pen_isS:R_pen_isS kk
 pen_cut:R_pen_cut kk
 pen_bind:R_pen_bind kk
 pen_r0:R_pen_r0 kk
 pen_r0':R_pen_r0' kk
 pen_r1:R_pen_r1 kk
 pen_r3:R_pen_r3 kk
 pen_r3':R_pen_r3' kk
 pen_r2:R_pen_r2 kk
 pen_r2':R_pen_r2' kk
 leaf:RT (b_leaf kk)
 body:RT (b_body kk)
 ph_is:R_fn kk 592 (λP=>(kPh kk P).o) (λP=>(kPh kk P).fd) [nPen,nKeys] λP=>(kPh kk P).s0++([.For (.Name nTurn (kPh kk P).pD) (kPh kk P).iter (kPh kk P).body [] (kPh kk P).pos]++(kPh kk P).s2)
 ph_gd:RT (b_ph_gd kk)
 ph_0:∀z,z<7→RT (b_ph_0 kk z)
 ph_1:∀z,z<7→RT (b_ph_1 kk z)
 ph_2:∀z,z<7→∀j,j<3→RT (b_ph_2 kk z j)
 ph_3:∀z,z<7→RT (b_ph_3 kk z)
 sh_is:R_sh_is kk
 ar_is:R_fn kk 597 (λP=>(kAr kk P).o) (λP=>(kAr kk P).fd) [nPen] λP=>(kAr kk P).s0++[.For (.Name nTurn (kAr kk P).pD) (kAr kk P).iter (kAr kk P).body [] (kAr kk P).pos]++([]++((kAr kk P).s2++([(kAr kk P).st]++([]++(kAr kk P).s5))))
 ar_gd:RT (b_ar_gd kk)
 ar_0:RT (b_ar_0 kk)
 ar_1:RT (b_ar_1 kk)
 ar_2:∀j,j<2→RT (b_ar_2 kk j)
 ar_4:RT (b_ar_4 kk)
 ar_5:∀n,n<3→R_q kk (λP=>(kAr kk P).fd) (λP=>(kAr kk P).st) 0 nBr (arS3 282 n)
 ar_8:∀n,n<3→∀c,c<3→RT (b_ar_8 kk n c)
 re_is:R_fn kk 609 (λP=>(kRe kk P).o) (λP=>(kRe kk P).fd) [nPen] λP=>(kRe kk P).s0++([(kRe kk P).st]++(kRe kk P).s2)
 re_0:RT (b_wy_0 kk (kRe kk) (reQ 265 253) 1)
 re_q:∀w,w<5→R_q kk (λP=>(kRe kk P).fd) (λP=>(kRe kk P).st) (reK w) nBr (reS1 w)
 re_2:∀c,c<3→RT (b_wy_2 kk (kRe kk) (reQ 265 253) 2 c)
 jo_is:R_fn kk 614 (λP=>(kJo kk P).o) (λP=>(kJo kk P).fd) [nPen] λP=>(kJo kk P).s0++([(kJo kk P).st]++(kJo kk P).s2)
 jo_0:RT (b_wy_0 kk (kJo kk) (joQ 265 253) 2)
 jo_q:∀w,w<3→∀m,m<3→R_q kk (λP=>(kJo kk P).fd) (λP=>(kJo kk P).st) (joK w) nBr (joS1 w m)
 jo_2:∀c,c<3→RT (b_wy_2 kk (kJo kk) (joQ 265 253) 5 c)
 se_is:R_fn kk 602 (λP=>(kSe kk P).o) (λP=>(kSe kk P).fd) [nPen] λP=>(kSe kk P).s0++([(kSe kk P).st]++((kSe kk P).s3++((kSe kk P).s4++((kSe kk P).s6++(kSe kk P).s7))))
 se_0:RT (b_se_0 kk)
 se_q:∀m,m<4→∀a,a<2→R_q kk (λP=>(kSe kk P).fd) (λP=>(kSe kk P).st) 2 nEarly (se1 m a)
 se_3:∀m,m<4→RT (b_se_3 kk m)
 se_4:∀m,m<4→∀k,k<6→RT (b_se_4 kk m k)
 se_6:∀m,m<4→RT (b_se_6 kk m)
 se_7:∀m,m<4→RT (b_se_7 kk m)
 se_8:∀m,m<4→RT (b_se_8 kk m)
 ev_is:R_fn kk 619 (λP=>(kEv kk P).o) (λP=>(kEv kk P).fd) [nPen] λP=>(kEv kk P).s0++([.For (.Name nTurn (kEv kk P).p1) (kEv kk P).i1 ((kEv kk P).b0++([.For (.Name nAgain (kEv kk P).p2) (kEv kk P).i2 ((kEv kk P).c0++(kEv kk P).c1) [] (kEv kk P).q2]++(kEv kk P).b2)) [] (kEv kk P).q1]++(kEv kk P).s4)
 ev_gd:RT (b_ev_gd kk)
 ev_b:RT (b_ev_b kk)
 ev_p:RT (b_ev_p kk)
 ev_0:RT (b_ev_0 kk)
 ev_1:RT (b_ev_1 kk)
 ev_2:∀i,i<2→RT (b_ev_2 kk i)
 ev_3:∀i,i<2→RT (b_ev_3 kk i)
 ev_4:∀i,i<2→∀j,j<2→RT (b_ev_4 kk i j)
 ev_5:∀i,i<2→∀j,j<2→RT (b_ev_5 kk i j)
 ev_6:∀i,i<2→RT (b_ev_6 kk i)
 ev_7:RT (b_ev_7 kk)
 li_is:R_fn kk 626 (λP=>objAt kk P 626) (λP=>fdAt kk P 626) [nPen] λP=>stsAt kk P 626
 li:RT (b_li kk)
 law_b:R_law_b kk
 law_A:R_law_A kk
 law_R:R_law_R kk
 fix:R_fix kk
 kg:∀a∈[29,61,198,199,200,201],R_kg kk a∧R_kgh kk a
 kg_glob:R_kg_glob kk
 kg_sh:R_kg_sh kk
 gf_good:R_gf_good kk
 scg:R_scg kk
 hkind:R_hkind kk
theorem ltS{p:Nat→Prop}{n:Nat}(h:∀i,i<n→p i)(hn:p n)(i:Nat)(hi:i<n+1):p i:=by
 rcases Nat.lt_or_ge i n with q|q
 ·exact h i q
 ·obtain rfl:i=n:=by omega
  exact hn
theorem lt2{p:Nat→Prop}(h0:p 0)(h1:p 1):∀i,i<2→p i:=ltS (ltS (λi h=>absurd h (Nat.not_lt_zero i)) h0) h1
theorem lt3{p:Nat→Prop}(h0:p 0)(h1:p 1)(h2:p 2):∀i,i<3→p i:=ltS (lt2 h0 h1) h2
section
variable{kk:Params→Frag}(H:Runs kk)
theorem drawEnd_ok{m z b0 b c:Int}{τ:Sto}{k:KV}(h1:1≤m)(h16:m≤16)(hb:b0≤b)(hb':b≤b0+1)
  (hk:∀a' b' d,0≤d→d<m→b0≤b'→b'≤b0+1→k (.int d) ([.int a',.int b',.int c]::τ)=true):drawEnd m z b c τ k=true:=by
 unfold drawEnd
 have hs:smallP m=true:=by
  unfold smallP posI
  rw[Bool.and_eq_true]
  exact⟨decide_eq_true (by omega),Nat.ble_eq_true_of_le (by omega)⟩
 rw[if_pos hs]
 refine hk _ _ _ ?_ ?_ hb hb'
 ·rw[Int.fmod_eq_emod_of_nonneg z (by omega)];exact Int.emod_nonneg z (by omega)
 ·rw[Int.fmod_eq_emod_of_nonneg z (by omega)];exact Int.emod_lt_of_pos z (by omega)
include H
theorem draw_run(P:Params):DrawRun (TT kk P) 170 573:=by
 intro orc a b c m τ k kx hb0 hb1 hc0 hc1 hm0 hm1 hk
 rw[H.draw_eq]
 by_cases ha:(a==0)=true
 ·rw[if_pos ha]
  have h1:(smallF 9949&&nonNegM (22+(b+1)))=true:=by
   rw[Bool.and_eq_true]
   refine⟨by decide,?_⟩
   unfold nonNegM
   rw[Bool.and_eq_true,decide_eq_true_eq,decide_eq_true_eq]
   omega
  have h2:(smallF (2*c+3)||smallF (9949 ^ (22+(b+1)).toNat))=true:=by
   rw[Bool.or_eq_true]
   left
   exact Nat.ble_eq_true_of_le (by omega)
  rw[if_pos h1,if_pos h2]
  exact drawEnd_ok hm0 hm1 (by omega) (by omega) hk
 ·rw[if_neg ha]
  exact drawEnd_ok hm0 hm1 (by omega) (by omega) hk
theorem body_run(P:Params):BodyRun (TT kk P) 170 573:=λσ k kx h=>by
 have e:tower (TT kk P) 170 (spD 573) 3 (.old 587) [.lst 0] σ k kx=drawT 4 σ (λp σ=>ifS false (itemP (TT kk P) (.tup bodyC) p σ) λv=>k v σ) kx:=
  (H.body_eq P (tower (TT kk P) 170 (spD 573) 2) σ k kx).trans (H.pick_eq P (tower (TT kk P) 170 (spD 573) 1) σ k kx)
 refine rwG e ?_
 refine consE h fT λxs τ h=>ifE' h fT λt et h=>band2 h λh0 h=>band2 h λh1 h=>band2 h λh2 h3=>?_
 show ifS false (penAt xs) _=true
 refine rwG et (Bool.and_eq_true_iff.mpr ⟨h0,List.all_eq_true.mpr λd hd=>?_⟩)
 have hd:=List.mem_range.mp hd
 match d,hd with
 |0,_=>exact h1
 |1,_=>exact h2
 |2,_=>exact h1
 |3,_=>exact h3
theorem pen_run(P:Params):PenRun (TT kk P) 170 566 999979:=by
 refine⟨penS kk P,nNum,13,H.pen_isS P,by rw[H.pen_cut];decide,by rw[H.pen_cut];decide,H.pen_bind P,?_,H.pen_r1 P,?_,?_⟩
 ·rintro q z cs orc (rfl|⟨y,rfl⟩)
  ·exact H.pen_r0 P q z orc
  ·exact H.pen_r0' P q z y orc
 ·rintro q orc z cs y p1 σ k kx hc
  have h2:(smallF z||smallF 2053)=true:=by rw[Bool.or_eq_true];exact .inr (by decide)
  refine⟨penZ z y,?_⟩
  rcases hc with rfl|⟨y',rfl⟩
  ·exact(H.pen_r2 P q orc z y p1 σ k kx).trans (if_pos h2)
  ·exact(H.pen_r2' P q orc z y y' p1 σ k kx).trans (if_pos h2)
 ·rintro q orc z cs xs k kx (rfl|⟨y,rfl⟩)
  ·exact H.pen_r3 P q orc z xs k kx
  ·exact H.pen_r3' P q orc z y xs k kx
theorem k_good(P:Params):KGood (kk P) P [29,61,198,199,200,201] 542 537 541 shQ where
 glob:=H.kg_glob P
 dicts:=λa ha=>by
  refine x0_2 (H.kg a ha) λh1 h2=>?_
  refine band3 (h1 P) λk1 k2 k3=>⟨k1,k2,h2 P,k3,?_⟩
  have:∀a∈[29,61,198,199,200,201],(a==sysModules)=false:=by decide
  exact this a ha
 sh:=H.kg_sh P
 gP:=by decide
theorem law_sc(P:Params):ScOK (lawF kk P).sc:=by
 refine band2 (H.scg P) λh1 h2=>?_
 refine⟨λx k e=>?_,isLc_eq h2⟩
 have:=(vF h1) _ (lk_mem e)
 refine⟨λq=>?_,λq=>?_⟩ <;> · rw[show k=_ from q]at this;exact absF this
omit H in
theorem etaB_show{X0:Fix}{Γ:Addr→Option Obj}{v:Value}(h:ShowV X0 Γ v):∃a o fd,v=.ref a∧Γ a=some o∧o.data=.func fd:=by
 refine x4_3 h λag body sc x r _ _=>?_;clear h
 refine x7_1 r.iC λa oc od fd osl c co hq7=>?_;refine x1_2 hq7 λu he8=>?_;subst he8;intro e
 exact⟨a,_,fd,rfl,e.e1,rfl⟩
omit H in
theorem lr_lS:lk nPen [(nScr,PV.hole 0),(nPen,PV.lst 1)]=some (PV.lst 1):=by kernel_rfl
noncomputable def etaB(X0:Fix)(i:Nat)(Γ:Addr→Option Obj)(v:Value):Prop:=if i=998 then ShowV X0 Γ v else if 1000≤i then ∃t,v=.bytes #[(i-1000).toUInt8] t else False
omit H in
theorem etaB_byt(X0:Fix):BytEta (etaB X0):=λc Γ v hc=>by
 unfold etaB
 rw[if_neg (by omega),if_pos (by omega),Nat.add_sub_cancel_left]
omit H in
theorem ar_r3:((tri3 arW1).all (splB (arSt 282 265 253) arW2 0 arSel arTc))=true:=by kernel_rfl
omit H in
theorem ar_r6:(arW3.all (callB phR (phSh 265 253) (arSt 282 265 253) arW4 0 nBr (λ_=>0) arCn))=true:=by kernel_rfl
omit H in
theorem ar_r7:(arW4.all (splB (arSt 282 265 253) arW5a 0 arSel2 arTc2))=true:=by kernel_rfl
omit H in
theorem re_r1:((reQ 265 253).W1.all λc=>Nat.blt ((reQ 265 253).z c) 7&&callB phR (phSh 265 253) (reQ 265 253).st (tri3 (reQ 265 253).W2) 0 nBr (reQ 265 253).z (reQ 265 253).cn c)=true:=by kernel_rfl
omit H in
theorem jo_r1:((joQ 265 253).W1.all λc=>Nat.blt ((joQ 265 253).z c) 7&&callB phR (phSh 265 253) (joQ 265 253).st (tri3 (joQ 265 253).W2) 0 nBr (joQ 265 253).z (joQ 265 253).cn c)=true:=by kernel_rfl
omit H in
theorem se_r1:(seW1.all (callB phR (phSh 265 253) (seSt 265 253) (all4 seW2) 0 nEarly (λ_=>2) callCn))=true:=by kernel_rfl
omit H in
theorem se_c4:∀m,m<4→((seW3 m).all λc=>Nat.blt (nth3 c) 6)=true:=ltS (ltS (ltS (ltS (λi h=>absurd h (Nat.not_lt_zero i)) (by kernel_rfl)) (by kernel_rfl)) (by kernel_rfl)) (by kernel_rfl)
omit H in
theorem se_r9:∀m,m<4→((seW5 m).all λc=>(all4 seW5).mem (seRed c)&&eqL (seRed (seRed c)) (seRed c)&&(seSt 265 253 (seRed c)).fs.all λe=>(seSt 265 253 c).fs.any (entB e))=true:=ltS (ltS (ltS (ltS (λi h=>absurd h (Nat.not_lt_zero i)) (by kernel_rfl)) (by kernel_rfl)) (by kernel_rfl)) (by kernel_rfl)
theorem ways_ok{P:Params}{X:Fix}(W:WOK X 573 592 265 253 (kSS kk P))(hT:X.T=TT kk P)(hg:X.gf=170):∀w∈kWs,Draws X 17 w [] 60 500000 (rOut X):=by
 obtain⟨prog,w0,T,B,P0,gf,cc,shq,θ,η⟩:=X
 subst hT;subst hg
 have d01:∀d∈[0,1],d<2:=by decide
 intro w hw
 rcases vI hw with rfl|hw
 ·exact(arith_draws W (S:=kAr kk P) rfl ⟨H.ar_is P,H.ar_gd P⟩ ⟨H.ar_0 P,H.ar_1 P,λj hj=>H.ar_2 j hj P,ar_r3,H.ar_4 P,λn hn=>H.ar_5 n hn P,ar_r6,ar_r7,λn hn c hc=>H.ar_8 n hn c hc P⟩).mono (by decide)
 rcases vI hw with rfl|hw
 ·exact(search_draws W (S:=kSe kk P) rfl (H.se_is P) ⟨H.body P,H.se_0 P,λd hd m hm a ha=>by rw[vM hd];exact H.se_q m (List.mem_range.mp hm) a (d01 a ha) P,se_r1,λm hm=>H.se_3 m hm P,λm hm=>all_cut (se_c4 m hm) λk hk=>H.se_4 m hm k hk P,λm hm=>H.se_6 m hm P,λm hm=>H.se_7 m hm P,λm hm=>H.se_8 m hm P,se_r9⟩).mono (by decide)
 rcases vI hw with rfl|hw
 ·exact(way_ph W (S:=kRe kk P) (Q:=reQ 265 253) rfl (H.re_is P) rfl (k0:=1) (k2:=2) (by decide) ⟨H.re_0 P,λd hd w hw=>by rw[vM hd];exact H.re_q w (List.mem_range.mp hw) P,re_r1,λc hc=>H.re_2 c hc P⟩).mono (by decide)
 rcases vI hw with rfl|hw
 ·exact(way_ph W (S:=kJo kk P) (Q:=joQ 265 253) rfl (H.jo_is P) rfl (k0:=2) (k2:=5) (by decide) ⟨H.jo_0 P,λd hd w hw m hm=>by rw[vM hd];exact H.jo_q w (List.mem_range.mp hw) m (List.mem_range.mp hm) P,jo_r1,λc hc=>H.jo_2 c hc P⟩).mono (by decide)
 rcases vI hw with rfl|hw
 ·exact(evaluate_draws W (S:=kEv kk P) (F:=kF) rfl ⟨H.ev_is P,H.ev_gd P⟩ ⟨H.ev_b P,H.ev_p P,H.ev_0 P,H.ev_1 P,λi hi=>H.ev_2 i hi P,λi hi=>H.ev_3 i hi P,λi hi j hj=>H.ev_4 i hi j hj P,λi hi j hj=>H.ev_5 i hi j hj P,λi hi=>H.ev_6 i hi P,H.ev_7 P⟩).mono (by decide)
 rcases vI hw with rfl|hw
 ·exact(way_run W rfl (H.li_is P) (k:=6) (by decide) (H.li P)).mono (by decide)
 exact(List.not_mem_nil hw).elim
theorem law_final{prog:Program}{w:World}{B:Heap}{L fa sl:Addr}{cd:Value}{its:List Value}{nums:List Int}{mg mb:Str→Option Value}{p:Program}{loose:List Str}{mean:ExcName→Option Value}{name:Str}{scope:Scope}{body:List Stmt}{Q:Flow→Shared→Prop}{E:Value→Shared→Prop}{s:Shared}
  (X':(kk w.params).In B) (T':PyProof.Rows.Top p loose mean mg mb B) (F':PyProof.Rows.Fr B L s.heap (λx=>List.lookup x [(nScr,Value.ref sl)].reverse)) (hl:B.IsList sl its.toArray) (hC:CodeHd B 541 537) (N':PyProof.Rows.News B L s.heap [(537,tabObj #[])])
  (hI:PyProof.Rows.IntsAre its nums) (hn:nums.length≤64) (hb:body=stsAt kk w.params 638) (hs:scope=(fdAt kk w.params 638).scope)
  (hQ:∀s',(∀b o,B.get? b=some o→s'.heap.get? b=some o)→(∃ps,s'.heap.get? 537=some (tabObj ps))→s'.gens=s.gens→s'.os=s.os→Q (.ret (.bool true)) s') :
  wpAny (model prog w) (callerA.deeper (PyProof.Rows.envOf name scope L fa cd)) (PySem.execs body (PyProof.Rows.envOf name scope L fa cd)) Q E s:=by
 subst hb;subst hs
 refine x0_3 (N' _ (.head _)) λhN1 hN2 hN3=>?_
 dsimp only at hN1 hN2 hN3
 let X0:Fix:=⟨prog,w,TT kk w.params,B,537,170,541,shQ,λ_=>[97],λ_ _ _=>False⟩
 let X:Fix:=⟨prog,w,TT kk w.params,B,537,170,541,shQ,λ_=>[97],etaB X0⟩
 have O:FixOK X:=fix_ok (k_good H w.params) X' T' hN3 hC (λ_=>⟨a97.1,a97.2.1⟩) ky97 (etaB_byt X0) λΓ v h=>by
  unfold etaB at h
  rw[if_pos rfl]at h
  exact etaB_show h
 have BX:BaseOK X:=⟨O,λΓ v=>by
  show etaB X0 998 Γ v↔_
  unfold etaB
  rw[if_pos rfl];exact Iff.rfl⟩
 have hG:GfOK X.B X.gf (gG kk w.params):=gf_ok (H.gf_good w.params) X' T' (H.kg_glob w.params)
 have W:WOK X 573 592 265 253 (kSS kk w.params):=⟨BX,⟨_,hG⟩,H.leaf w.params,draw_run H w.params,body_run H w.params,H.sh_is w.params,λz hz=>phrases_draws BX hG (H.leaf w.params) (draw_run H w.params) (body_run H w.params) (H.body w.params) (S:=kPh kk w.params) ⟨H.ph_is w.params,H.ph_gd w.params⟩ rfl ⟨H.ph_0 z hz w.params,H.ph_1 z hz w.params,λj hj=>H.ph_2 z hz j hj w.params,H.ph_3 z hz w.params⟩ hz⟩
 have hsc:ScOK (lawF kk w.params).sc:=law_sc H w.params
 have am:Amb X 505 (callerA.deeper (PyProof.Rows.envOf name (fdAt kk w.params 638).scope L fa cd)) (PyProof.Rows.envOf name (fdAt kk w.params 638).scope L fa cd) [] L (PyProof.Rows.envOf name (fdAt kk w.params 638).scope L fa cd):=
  ⟨rfl,rfl,rfl,rfl,vA rfl,vA rfl⟩
 have hkind:(fdAt kk w.params 638).scope.kind=.function:=H.hkind w.params
 have hBL:B.get? L=none:=by
  cases hq:B.get? L with
  |none=>rfl
  |some o=>exact absurd (Nat.lt_of_lt_of_le (Heap.lt_size hq) F'.above) (Nat.lt_irrefl _)
 have hk1:∀x,lk x (lawF kk w.params).sc.names≠some .cell:=λx e=>(hsc.noCell x _ e).1 rfl
 have hk2:∀x,lk x (lawF kk w.params).sc.names≠some .free:=λx e=>(hsc.noCell x _ e).2 rfl
 have R:HR (FixW X sl) ⟨λa=>B.get? a,[]⟩ [] s.heap:=by
  refine⟨F'.keep,λa o e=>e,rfl,λi a xs e=>(nomatch e),List.nodup_nil,λa ha=>(nomatch ha),⟨⟨#[],hN1,trivial,λpos c' e=>?_⟩⟩,hN3⟩
  cases e
 have wh:Wh (FixW X sl) ((lawF kk w.params).fr [(nScr,.hole 0)]) (PyProof.Rows.envOf name (fdAt kk w.params 638).scope L fa cd) [PyProof.Rows.envOf name (fdAt kk w.params 638).scope L fa cd] ⟨λa=>B.get? a,[]⟩ [] s:=by
  refine⟨R,?_,?_⟩
  ·intro env he
   obtain rfl:=vM he
   refine x3_2 (Ns.dict F'.ns) λo es n e1 e2=>?_
   exact⟨by show(fdAt kk w.params 638).scope.kind≠.module;rw[hkind];decide,L,o,rfl,hBL,(λh=>nomatch h),λe=>hN2 e.symm,e1,es,n,e2⟩
  ·refine⟨hkind,rfl,rfl,λx k e=>.inl ?_,⟨_,F'.ns,λx q e1 e2=>?_⟩,⟨hBL,(λh=>nomatch h),λe=>hN2 e.symm⟩,λx q e=>?_,λx e=>absurd e (hk1 x),λx y a e=>(nomatch e),λz a e=>(nomatch e),λhq=>(nomatch hq)⟩
   ·show(fdAt kk w.params 638).scope.names.lookup x=_
    rw[←lk_eq];exact e
   ·refine iteS (lk_c.symm.trans (show lk x [(nScr,PV.hole 0)]=some q from e2)) (λhx e2=>?_) λ_ e2=>absS e2.symm
    obtain rfl:=eqS_eq hx
    obtain rfl:=vC e2
    refine⟨.ref sl,?_,.hole (Γ₀:=λ_=>none) 0 (show etaW X sl 0 (λ_=>none) (Value.ref sl)from rfl) λ_ _ e=>nomatch e⟩
    show List.lookup nScr [(nScr,Value.ref sl)]=_
    rw[List.lookup_cons];simp
   ·rcases e with⟨e,_⟩|⟨e,_⟩
    ·exact absurd e (hk1 x)
    ·exact absurd e (hk2 x)
 rw[H.law_b w.params]
 refine wpAny_mono (law_all1 W hG (sl:=sl) (ways_ok H W rfl rfl) (H.right_isS w.params) rfl (H.right_run w.params) (H.fix w.params) (pen_run H w.params) hl hI hn hsc (by decide) am lr_lS (H.law_A w.params) (H.law_R w.params) wh) (λf s' q=>?_) λ_ _ q=>q.elim
 refine x0_5 q λho1 q2 q3 q4 q5=>?_;clear q;refine x1_2 ho1 λb he1=>?_;subst he1;intro he2;subst he2;clear ho1
 exact hQ s' q2 q3 q4 q5
end
end
end Mine.Internal
namespace Mine.hdx
theorem tw1005318883390151209:True:=⟨⟩
theorem tw10121793167571375384:True:=⟨⟩
theorem tw10138009557510111992:True:=⟨⟩
theorem tw10173641090952190540:True:=⟨⟩
theorem tw1017974057990222321:True:=⟨⟩
theorem tw1019153260373610705:True:=⟨⟩
theorem tw10205543830944778134:True:=⟨⟩
theorem tw10217665054196928255:True:=⟨⟩
theorem tw10227702916350360140:True:=⟨⟩
theorem tw10283324217907189409:True:=⟨⟩
theorem tw10297514276478950717:True:=⟨⟩
theorem tw10390044250589280487:True:=⟨⟩
theorem tw10393715042703082164:True:=⟨⟩
theorem tw10406150872936748529:True:=⟨⟩
theorem tw10435778481059651003:True:=⟨⟩
theorem tw10441041258344599749:True:=⟨⟩
theorem tw1044675440534995279:True:=⟨⟩
theorem tw10483683298503720317:True:=⟨⟩
theorem tw10492940953153682118:True:=⟨⟩
theorem tw10512982094722640820:True:=⟨⟩
theorem tw10518538433653634186:True:=⟨⟩
theorem tw10553677277013272664:True:=⟨⟩
theorem tw10589443168317414825:True:=⟨⟩
theorem tw10598149449993524125:True:=⟨⟩
theorem tw10599505467878662238:True:=⟨⟩
theorem tw10602525772430000673:True:=⟨⟩
theorem tw10639831933788940429:True:=⟨⟩
theorem tw10641399845043899351:True:=⟨⟩
theorem tw10655919233723434686:True:=⟨⟩
theorem tw10669027340675136436:True:=⟨⟩
theorem tw10697293497772795115:True:=⟨⟩
theorem tw10733114353479128645:True:=⟨⟩
theorem tw10740176006691553143:True:=⟨⟩
theorem tw10745151996192879246:True:=⟨⟩
theorem tw10782033364253952957:True:=⟨⟩
theorem tw1082102485769527193:True:=⟨⟩
theorem tw10830873270671683514:True:=⟨⟩
theorem tw10901133129360472794:True:=⟨⟩
theorem tw10905740778352272335:True:=⟨⟩
theorem tw10906071288286292882:True:=⟨⟩
theorem tw10951607000393433550:True:=⟨⟩
theorem tw10986133607004362639:True:=⟨⟩
theorem tw11022615646088314183:True:=⟨⟩
theorem tw11031618622515954054:True:=⟨⟩
theorem tw11065668779459185880:True:=⟨⟩
theorem tw11078147574864786731:True:=⟨⟩
theorem tw11078440211413924588:True:=⟨⟩
theorem tw11098343013482919944:True:=⟨⟩
theorem tw11120789928380168263:True:=⟨⟩
theorem tw11175419437428041417:True:=⟨⟩
theorem tw11185148042668281505:True:=⟨⟩
theorem tw11212344799848542372:True:=⟨⟩
theorem tw11233821810271452931:True:=⟨⟩
theorem tw11251772360296863781:True:=⟨⟩
theorem tw11297766345722585413:True:=⟨⟩
theorem tw11353802047059617677:True:=⟨⟩
theorem tw11364332641633417625:True:=⟨⟩
theorem tw11371883911050253117:True:=⟨⟩
theorem tw113851431961856068:True:=⟨⟩
theorem tw11388591071182995016:True:=⟨⟩
theorem tw11392472635708369757:True:=⟨⟩
theorem tw1143833212419383424:True:=⟨⟩
theorem tw11495857418718629223:True:=⟨⟩
theorem tw1151294674959624821:True:=⟨⟩
theorem tw11515147229649130612:True:=⟨⟩
theorem tw11522366763458423193:True:=⟨⟩
theorem tw1153378650706184211:True:=⟨⟩
theorem tw11575508544117185540:True:=⟨⟩
theorem tw11578074195871968587:True:=⟨⟩
theorem tw11584205359766472284:True:=⟨⟩
theorem tw11602720935865930676:True:=⟨⟩
theorem tw11629336433674813117:True:=⟨⟩
theorem tw11648436998082993521:True:=⟨⟩
theorem tw11657417026846058629:True:=⟨⟩
theorem tw11660785440787077306:True:=⟨⟩
theorem tw11675466698208403116:True:=⟨⟩
theorem tw11697588484477342707:True:=⟨⟩
theorem tw11737843829205802642:True:=⟨⟩
theorem tw11841441347127782364:True:=⟨⟩
theorem tw11912576296457597252:True:=⟨⟩
theorem tw11921755595414039708:True:=⟨⟩
theorem tw1192885790850840728:True:=⟨⟩
theorem tw11936222721406477323:True:=⟨⟩
theorem tw11952018256116778510:True:=⟨⟩
theorem tw12023012282133076722:True:=⟨⟩
theorem tw12030032759238858242:True:=⟨⟩
theorem tw12052765825483242615:True:=⟨⟩
theorem tw12053415283062446998:True:=⟨⟩
theorem tw12074549039828777048:True:=⟨⟩
theorem tw12088185286174886481:True:=⟨⟩
theorem tw12134989247200065487:True:=⟨⟩
theorem tw12166505169460555372:True:=⟨⟩
theorem tw12178819382366083031:True:=⟨⟩
theorem tw12206552368688933907:True:=⟨⟩
theorem tw1220838349044446691:True:=⟨⟩
theorem tw12221982039647465232:True:=⟨⟩
theorem tw12234156127385616618:True:=⟨⟩
theorem tw1226167070130839840:True:=⟨⟩
theorem tw12281017881881923306:True:=⟨⟩
theorem tw12297036065839558367:True:=⟨⟩
theorem tw12297376541529781043:True:=⟨⟩
theorem tw12313045728619779818:True:=⟨⟩
theorem tw12325224503386750664:True:=⟨⟩
theorem tw12331383661426589313:True:=⟨⟩
theorem tw12357616504132851930:True:=⟨⟩
theorem tw12408425119642934642:True:=⟨⟩
theorem tw12426778202675754560:True:=⟨⟩
theorem tw12445566163321100736:True:=⟨⟩
theorem tw12452461576265453900:True:=⟨⟩
theorem tw12478788136511962927:True:=⟨⟩
theorem tw12504418809960602757:True:=⟨⟩
theorem tw1251214050578072604:True:=⟨⟩
theorem tw12529615375237876898:True:=⟨⟩
theorem tw12572793683898010428:True:=⟨⟩
theorem tw12634603101130419267:True:=⟨⟩
theorem tw12635588955759496997:True:=⟨⟩
theorem tw1276945570879339878:True:=⟨⟩
theorem tw12801157613744815678:True:=⟨⟩
theorem tw12841369549841986740:True:=⟨⟩
theorem tw12900576416758664460:True:=⟨⟩
theorem tw1294143798949084492:True:=⟨⟩
theorem tw1301301611952875276:True:=⟨⟩
theorem tw13019106578233858662:True:=⟨⟩
theorem tw13020444556575899353:True:=⟨⟩
theorem tw13104435317923764781:True:=⟨⟩
theorem tw13112909101138109313:True:=⟨⟩
theorem tw1327123236212026893:True:=⟨⟩
theorem tw13290664575460695550:True:=⟨⟩
theorem tw13331389132668992040:True:=⟨⟩
theorem tw13338566791733452661:True:=⟨⟩
theorem tw13344463455011972175:True:=⟨⟩
theorem tw13406769057357949175:True:=⟨⟩
theorem tw13421030162668030679:True:=⟨⟩
theorem tw13536076783097482858:True:=⟨⟩
theorem tw13584252402403289962:True:=⟨⟩
theorem tw13595457875619926604:True:=⟨⟩
theorem tw13600512375935098893:True:=⟨⟩
theorem tw13616904415746744921:True:=⟨⟩
theorem tw13619925001237774164:True:=⟨⟩
theorem tw13643438856615710283:True:=⟨⟩
theorem tw13717530880629798888:True:=⟨⟩
theorem tw1371935854870039326:True:=⟨⟩
theorem tw13764250393621081002:True:=⟨⟩
theorem tw13788798177580229246:True:=⟨⟩
theorem tw13831238418414082649:True:=⟨⟩
theorem tw13853881831057575859:True:=⟨⟩
theorem tw13914514510331185930:True:=⟨⟩
theorem tw13948280008848169235:True:=⟨⟩
theorem tw13980627672819631719:True:=⟨⟩
theorem tw13987880881672528783:True:=⟨⟩
theorem tw14012388058838257954:True:=⟨⟩
theorem tw14015681384436167552:True:=⟨⟩
theorem tw14046126503405127149:True:=⟨⟩
theorem tw14060117346847164662:True:=⟨⟩
theorem tw14129734848064291003:True:=⟨⟩
theorem tw14171576231795867107:True:=⟨⟩
theorem tw14175279773360419805:True:=⟨⟩
theorem tw14187988087963037607:True:=⟨⟩
theorem tw1421185643081942070:True:=⟨⟩
theorem tw14228575590624932211:True:=⟨⟩
theorem tw14281804178665591459:True:=⟨⟩
theorem tw14293364945665918447:True:=⟨⟩
theorem tw14303011803390168540:True:=⟨⟩
theorem tw1434740809948872380:True:=⟨⟩
theorem tw14396167701775469794:True:=⟨⟩
theorem tw14433594377317562107:True:=⟨⟩
theorem tw14446847391066253762:True:=⟨⟩
theorem tw14478423609326988682:True:=⟨⟩
theorem tw14503582180840072560:True:=⟨⟩
theorem tw14509752947792529248:True:=⟨⟩
theorem tw14531365210256918122:True:=⟨⟩
theorem tw14554661646721776809:True:=⟨⟩
theorem tw14561308196119246927:True:=⟨⟩
theorem tw14570875228864844752:True:=⟨⟩
theorem tw14575163931095405474:True:=⟨⟩
theorem tw14592057729090274143:True:=⟨⟩
theorem tw14632186484594187632:True:=⟨⟩
theorem tw14633853578810120593:True:=⟨⟩
theorem tw14671661956866447733:True:=⟨⟩
theorem tw14702973994033459314:True:=⟨⟩
theorem tw14779928052246003348:True:=⟨⟩
theorem tw14788442302693946358:True:=⟨⟩
theorem tw1479831794059858176:True:=⟨⟩
theorem tw14815508001251243138:True:=⟨⟩
theorem tw14879570061441484778:True:=⟨⟩
theorem tw14913751445013925080:True:=⟨⟩
theorem tw14988176743841305062:True:=⟨⟩
theorem tw15017546778802412356:True:=⟨⟩
theorem tw15031074178914213187:True:=⟨⟩
theorem tw15034822990241770971:True:=⟨⟩
theorem tw15054851881666351047:True:=⟨⟩
theorem tw15109564932040989350:True:=⟨⟩
theorem tw1513042972267033221:True:=⟨⟩
theorem tw15174282228005035574:True:=⟨⟩
theorem tw15174859790031509801:True:=⟨⟩
theorem tw15315506500063428510:True:=⟨⟩
theorem tw15339568893446973742:True:=⟨⟩
theorem tw15345905408385276938:True:=⟨⟩
theorem tw15368086413713276134:True:=⟨⟩
theorem tw15388619720748698437:True:=⟨⟩
theorem tw1539625948423359316:True:=⟨⟩
theorem tw15398732277716625270:True:=⟨⟩
theorem tw15417473800259947083:True:=⟨⟩
theorem tw15431676669900571147:True:=⟨⟩
theorem tw15434174308006810282:True:=⟨⟩
theorem tw15508324094980408293:True:=⟨⟩
theorem tw1552349599394581083:True:=⟨⟩
theorem tw15571987202388652198:True:=⟨⟩
theorem tw15608445591738812951:True:=⟨⟩
theorem tw15655447965020286064:True:=⟨⟩
theorem tw15659053357762973569:True:=⟨⟩
theorem tw15671598221465228534:True:=⟨⟩
theorem tw15687922160928513878:True:=⟨⟩
theorem tw15717791139924200532:True:=⟨⟩
theorem tw15786365921260868098:True:=⟨⟩
theorem tw15831210970691702606:True:=⟨⟩
theorem tw15833562081031671975:True:=⟨⟩
theorem tw15834383266715129711:True:=⟨⟩
theorem tw15898304069716857738:True:=⟨⟩
theorem tw15931822841783123622:True:=⟨⟩
theorem tw15954137024335739287:True:=⟨⟩
theorem tw15999719632867723441:True:=⟨⟩
theorem tw1600260125458631901:True:=⟨⟩
theorem tw16024769431262477413:True:=⟨⟩
theorem tw16127838427017963456:True:=⟨⟩
theorem tw16155006655965795993:True:=⟨⟩
theorem tw16184355267210269843:True:=⟨⟩
theorem tw16196218814506653375:True:=⟨⟩
theorem tw16221956571819373800:True:=⟨⟩
theorem tw16236336449791144082:True:=⟨⟩
theorem tw16250584863293933076:True:=⟨⟩
theorem tw16252849800747116556:True:=⟨⟩
theorem tw16253362753593719779:True:=⟨⟩
theorem tw16281044257968913310:True:=⟨⟩
theorem tw16286876664219943258:True:=⟨⟩
theorem tw16302159872891563146:True:=⟨⟩
theorem tw16305224850675296298:True:=⟨⟩
theorem tw16362415112987247143:True:=⟨⟩
theorem tw16379262867650043668:True:=⟨⟩
theorem tw16408230632488777019:True:=⟨⟩
theorem tw16433662872426479686:True:=⟨⟩
theorem tw16442587381078774434:True:=⟨⟩
theorem tw16473633714598866148:True:=⟨⟩
theorem tw16507055148385005355:True:=⟨⟩
theorem tw16518533654873897811:True:=⟨⟩
theorem tw16535174256780669495:True:=⟨⟩
theorem tw16548396513794135620:True:=⟨⟩
theorem tw16596626063930379043:True:=⟨⟩
theorem tw16625623742985165887:True:=⟨⟩
theorem tw16678223327191222261:True:=⟨⟩
theorem tw16747530929944400022:True:=⟨⟩
theorem tw16839776992042190373:True:=⟨⟩
theorem tw16845448632455812324:True:=⟨⟩
theorem tw16895206672942312801:True:=⟨⟩
theorem tw16964379784204986463:True:=⟨⟩
theorem tw16969194809569077371:True:=⟨⟩
theorem tw17023795833525534565:True:=⟨⟩
theorem tw17025480645992061100:True:=⟨⟩
theorem tw17073587688187394439:True:=⟨⟩
theorem tw17075150009419757640:True:=⟨⟩
theorem tw17077628385286525834:True:=⟨⟩
theorem tw17129212331664630177:True:=⟨⟩
theorem tw17129738948143370946:True:=⟨⟩
theorem tw17133872157284343099:True:=⟨⟩
theorem tw17134451673777903396:True:=⟨⟩
theorem tw17177135075555610597:True:=⟨⟩
theorem tw1721904051972012981:True:=⟨⟩
theorem tw17232349515195586196:True:=⟨⟩
theorem tw17232792962541694011:True:=⟨⟩
theorem tw17233892330436412615:True:=⟨⟩
theorem tw17258631066955539169:True:=⟨⟩
theorem tw17282606970882144060:True:=⟨⟩
theorem tw1728778503900741014:True:=⟨⟩
theorem tw17292223344690839085:True:=⟨⟩
theorem tw17350970143641343967:True:=⟨⟩
theorem tw17410701255328271796:True:=⟨⟩
theorem tw17448138482231332884:True:=⟨⟩
theorem tw17568867728482003588:True:=⟨⟩
theorem tw17595401478614777575:True:=⟨⟩
theorem tw17601081035908215487:True:=⟨⟩
theorem tw1761263280457242910:True:=⟨⟩
theorem tw17665737474999353408:True:=⟨⟩
theorem tw17675035837370099154:True:=⟨⟩
theorem tw1768644057870189812:True:=⟨⟩
theorem tw17711619165454217612:True:=⟨⟩
theorem tw17723654121137702211:True:=⟨⟩
theorem tw17728282227100375583:True:=⟨⟩
theorem tw17729327682716250715:True:=⟨⟩
theorem tw17748507856745667594:True:=⟨⟩
theorem tw17795344055291574978:True:=⟨⟩
theorem tw17806877144198043587:True:=⟨⟩
theorem tw17847513712020367905:True:=⟨⟩
theorem tw17901021365655696678:True:=⟨⟩
theorem tw17915636754408615973:True:=⟨⟩
theorem tw17972888412607548890:True:=⟨⟩
theorem tw17987786931945679596:True:=⟨⟩
theorem tw18019414548722637370:True:=⟨⟩
theorem tw18026616946130045295:True:=⟨⟩
theorem tw18066169103088537129:True:=⟨⟩
theorem tw18068904174802206907:True:=⟨⟩
theorem tw18209906880494095197:True:=⟨⟩
theorem tw18322439672212781402:True:=⟨⟩
theorem tw18350826734470016196:True:=⟨⟩
theorem tw1837063588802439824:True:=⟨⟩
theorem tw18390342758081890369:True:=⟨⟩
theorem tw18400836527100259688:True:=⟨⟩
theorem tw18415692690662700267:True:=⟨⟩
theorem tw18431967259697351972:True:=⟨⟩
theorem tw1862717869766461714:True:=⟨⟩
theorem tw1877876918177034313:True:=⟨⟩
theorem tw1901344546337730168:True:=⟨⟩
theorem tw1918623227336427407:True:=⟨⟩
theorem tw1986813212416632876:True:=⟨⟩
theorem tw1995874101337085491:True:=⟨⟩
theorem tw2021590716094956370:True:=⟨⟩
theorem tw2025775356248764573:True:=⟨⟩
theorem tw205849958853153482:True:=⟨⟩
theorem tw2103475244264289173:True:=⟨⟩
theorem tw2162575927991523003:True:=⟨⟩
theorem tw2166871309037259046:True:=⟨⟩
theorem tw2178676106264117391:True:=⟨⟩
theorem tw2219696233899069123:True:=⟨⟩
theorem tw2285309917084211378:True:=⟨⟩
theorem tw2304138374814652540:True:=⟨⟩
theorem tw2332179854472702555:True:=⟨⟩
theorem tw2432956855527770927:True:=⟨⟩
theorem tw245516377530447115:True:=⟨⟩
theorem tw2487067324442346970:True:=⟨⟩
theorem tw2496722450284120459:True:=⟨⟩
theorem tw2524096817800104532:True:=⟨⟩
theorem tw2541719386938028574:True:=⟨⟩
theorem tw2600615399674085866:True:=⟨⟩
theorem tw2697347771269182058:True:=⟨⟩
theorem tw2751376245015142808:True:=⟨⟩
theorem tw2783006680324142839:True:=⟨⟩
theorem tw2799840060570126813:True:=⟨⟩
theorem tw280175094144319643:True:=⟨⟩
theorem tw2804849314950835914:True:=⟨⟩
theorem tw2814366135791808946:True:=⟨⟩
theorem tw2843142823915918097:True:=⟨⟩
theorem tw2853013744300066921:True:=⟨⟩
theorem tw2854212090634251903:True:=⟨⟩
theorem tw2872614075417793213:True:=⟨⟩
theorem tw2896291089745512870:True:=⟨⟩
theorem tw2903084700506450444:True:=⟨⟩
theorem tw2973805921160463874:True:=⟨⟩
theorem tw2984043997054306990:True:=⟨⟩
theorem tw3024545019654037646:True:=⟨⟩
theorem tw3027028101811844097:True:=⟨⟩
theorem tw3047724923153992773:True:=⟨⟩
theorem tw3056725880364335713:True:=⟨⟩
theorem tw3072020050476928665:True:=⟨⟩
theorem tw3086717137963139412:True:=⟨⟩
theorem tw3116137049477036863:True:=⟨⟩
theorem tw314171226279846428:True:=⟨⟩
theorem tw3192341236944561261:True:=⟨⟩
theorem tw319792305991530512:True:=⟨⟩
theorem tw3221327863354945574:True:=⟨⟩
theorem tw3264581142493689951:True:=⟨⟩
theorem tw3298644383375554705:True:=⟨⟩
theorem tw3299699113575154979:True:=⟨⟩
theorem tw3333921720041338052:True:=⟨⟩
theorem tw3373635521702540245:True:=⟨⟩
theorem tw3391634660313547014:True:=⟨⟩
theorem tw3399416878058748289:True:=⟨⟩
theorem tw3416068452288525512:True:=⟨⟩
theorem tw3433789176290687875:True:=⟨⟩
theorem tw347545360391822463:True:=⟨⟩
theorem tw3476281904440942352:True:=⟨⟩
theorem tw3492761726097555513:True:=⟨⟩
theorem tw3499749315779059354:True:=⟨⟩
theorem tw3501709826607874653:True:=⟨⟩
theorem tw3564287663811300862:True:=⟨⟩
theorem tw3593019715707843614:True:=⟨⟩
theorem tw3603241132631158879:True:=⟨⟩
theorem tw3608922110835600088:True:=⟨⟩
theorem tw3610616616002092444:True:=⟨⟩
theorem tw3627049306912117131:True:=⟨⟩
theorem tw3665795802926786903:True:=⟨⟩
theorem tw370734680809381548:True:=⟨⟩
theorem tw373604258484869727:True:=⟨⟩
theorem tw3745256487264532980:True:=⟨⟩
theorem tw3764027531234394611:True:=⟨⟩
theorem tw3828815567933556792:True:=⟨⟩
theorem tw3865062840064598990:True:=⟨⟩
theorem tw3875636689961763025:True:=⟨⟩
theorem tw3893663342687946865:True:=⟨⟩
theorem tw3916052703709344891:True:=⟨⟩
theorem tw3944584140546403621:True:=⟨⟩
theorem tw3952931942233925166:True:=⟨⟩
theorem tw3985868190832041663:True:=⟨⟩
theorem tw398990832647445966:True:=⟨⟩
theorem tw3997312034694123959:True:=⟨⟩
theorem tw3997858350130704898:True:=⟨⟩
theorem tw4005153839263176976:True:=⟨⟩
theorem tw4126602148679785629:True:=⟨⟩
theorem tw4141054045944905157:True:=⟨⟩
theorem tw4232028495543588384:True:=⟨⟩
theorem tw4238795522253843017:True:=⟨⟩
theorem tw4250239842518720443:True:=⟨⟩
theorem tw4290668688557327210:True:=⟨⟩
theorem tw4309283326998007063:True:=⟨⟩
theorem tw4331486450797567762:True:=⟨⟩
theorem tw4332073541344451168:True:=⟨⟩
theorem tw4334273201533730655:True:=⟨⟩
theorem tw4346060600591594223:True:=⟨⟩
theorem tw4355560026944110611:True:=⟨⟩
theorem tw4360049065904520443:True:=⟨⟩
theorem tw4370342527003257976:True:=⟨⟩
theorem tw4438100243816028883:True:=⟨⟩
theorem tw4452458946475927053:True:=⟨⟩
theorem tw4465250232988750101:True:=⟨⟩
theorem tw4512557399437772770:True:=⟨⟩
theorem tw4530994747041326639:True:=⟨⟩
theorem tw4537693066537608264:True:=⟨⟩
theorem tw4556465615819868078:True:=⟨⟩
theorem tw4622647316577264954:True:=⟨⟩
theorem tw4627526434441176054:True:=⟨⟩
theorem tw4815461082525084633:True:=⟨⟩
theorem tw4838250552842157455:True:=⟨⟩
theorem tw4849328358135419483:True:=⟨⟩
theorem tw4904516898885561357:True:=⟨⟩
theorem tw4913432917359815903:True:=⟨⟩
theorem tw4950585254653031142:True:=⟨⟩
theorem tw5150076709410974968:True:=⟨⟩
theorem tw5150263924199064817:True:=⟨⟩
theorem tw5161685149751793296:True:=⟨⟩
theorem tw5165046168425032473:True:=⟨⟩
theorem tw5181138376618889655:True:=⟨⟩
theorem tw5231109205170973173:True:=⟨⟩
theorem tw5328674648101353959:True:=⟨⟩
theorem tw5350543311230756584:True:=⟨⟩
theorem tw5354003688027962353:True:=⟨⟩
theorem tw5406008801441316737:True:=⟨⟩
theorem tw5427716679311760638:True:=⟨⟩
theorem tw5432043993808433227:True:=⟨⟩
theorem tw5440585394920044528:True:=⟨⟩
theorem tw549711235211712834:True:=⟨⟩
theorem tw5512165072077216697:True:=⟨⟩
theorem tw5518913457677203722:True:=⟨⟩
theorem tw558471867837405187:True:=⟨⟩
theorem tw5596014489341926746:True:=⟨⟩
theorem tw5630239216004255137:True:=⟨⟩
theorem tw5638325719076014852:True:=⟨⟩
theorem tw5672938064666031709:True:=⟨⟩
theorem tw5693888961822732430:True:=⟨⟩
theorem tw570916967911013960:True:=⟨⟩
theorem tw5733060583114533983:True:=⟨⟩
theorem tw5736788719038591171:True:=⟨⟩
theorem tw5841831902796037256:True:=⟨⟩
theorem tw5985232166639502999:True:=⟨⟩
theorem tw5989147006930209765:True:=⟨⟩
theorem tw6001971561257207051:True:=⟨⟩
theorem tw6071306460606938908:True:=⟨⟩
theorem tw6110739654953736741:True:=⟨⟩
theorem tw6130610383737089894:True:=⟨⟩
theorem tw6132807933449460935:True:=⟨⟩
theorem tw6253104955452660297:True:=⟨⟩
theorem tw6253187992163815031:True:=⟨⟩
theorem tw6304145221730877894:True:=⟨⟩
theorem tw6308484492327671887:True:=⟨⟩
theorem tw635593893913733454:True:=⟨⟩
theorem tw6358438401086547049:True:=⟨⟩
theorem tw637591128139111178:True:=⟨⟩
theorem tw6392203597269669241:True:=⟨⟩
theorem tw6415178732456536823:True:=⟨⟩
theorem tw6417378638471410451:True:=⟨⟩
theorem tw6433729911373238517:True:=⟨⟩
theorem tw6445625679090876641:True:=⟨⟩
theorem tw6489065641804638096:True:=⟨⟩
theorem tw6519302922686130849:True:=⟨⟩
theorem tw654902100672316387:True:=⟨⟩
theorem tw6641574594802563731:True:=⟨⟩
theorem tw664719115154260126:True:=⟨⟩
theorem tw6649976812566562612:True:=⟨⟩
theorem tw665676548010448371:True:=⟨⟩
theorem tw66766952702724116:True:=⟨⟩
theorem tw6683635303357953826:True:=⟨⟩
theorem tw6697547145641553894:True:=⟨⟩
theorem tw6748099376715480053:True:=⟨⟩
theorem tw682936352443621598:True:=⟨⟩
theorem tw6909020301817934674:True:=⟨⟩
theorem tw6967703748595865944:True:=⟨⟩
theorem tw6982377764206668994:True:=⟨⟩
theorem tw6991466536931224953:True:=⟨⟩
theorem tw7036709933530115285:True:=⟨⟩
theorem tw7085692536553069320:True:=⟨⟩
theorem tw7094753472643904059:True:=⟨⟩
theorem tw711315453752034009:True:=⟨⟩
theorem tw7121131041633636536:True:=⟨⟩
theorem tw7182978999254074707:True:=⟨⟩
theorem tw7207175147274332784:True:=⟨⟩
theorem tw7208240509209418578:True:=⟨⟩
theorem tw7239578808068180993:True:=⟨⟩
theorem tw7251834755087763782:True:=⟨⟩
theorem tw7279435788598742158:True:=⟨⟩
theorem tw7293290728455054780:True:=⟨⟩
theorem tw7296498190447973751:True:=⟨⟩
theorem tw7318471463460347990:True:=⟨⟩
theorem tw7343337105669707364:True:=⟨⟩
theorem tw7382874535813935119:True:=⟨⟩
theorem tw7384631429328008645:True:=⟨⟩
theorem tw7451896852629062016:True:=⟨⟩
theorem tw7486210639920459629:True:=⟨⟩
theorem tw7493400405481521187:True:=⟨⟩
theorem tw752177461007384568:True:=⟨⟩
theorem tw752417536282047045:True:=⟨⟩
theorem tw7571156155765739828:True:=⟨⟩
theorem tw7590559157060905207:True:=⟨⟩
theorem tw7604527684314998777:True:=⟨⟩
theorem tw7654691229531048268:True:=⟨⟩
theorem tw7662359130371279450:True:=⟨⟩
theorem tw7679074778234120773:True:=⟨⟩
theorem tw7767355764584403046:True:=⟨⟩
theorem tw7828176740706068276:True:=⟨⟩
theorem tw7904908634351195939:True:=⟨⟩
theorem tw7929344018686475116:True:=⟨⟩
theorem tw7938622847886757993:True:=⟨⟩
theorem tw7992554359472909536:True:=⟨⟩
theorem tw8015430348058212607:True:=⟨⟩
theorem tw8022705790335907359:True:=⟨⟩
theorem tw803973511626003325:True:=⟨⟩
theorem tw8087485324176767001:True:=⟨⟩
theorem tw8108097299347669977:True:=⟨⟩
theorem tw8119540684395119108:True:=⟨⟩
theorem tw8126802645191832046:True:=⟨⟩
theorem tw81533254705911265:True:=⟨⟩
theorem tw8212705579055854512:True:=⟨⟩
theorem tw8228918394181964798:True:=⟨⟩
theorem tw8294542176271583782:True:=⟨⟩
theorem tw8335194943170384599:True:=⟨⟩
theorem tw8352499636815896096:True:=⟨⟩
theorem tw8366657424049280243:True:=⟨⟩
theorem tw841801336619253232:True:=⟨⟩
theorem tw8441336199095553518:True:=⟨⟩
theorem tw8442850642371093264:True:=⟨⟩
theorem tw8449628116929862086:True:=⟨⟩
theorem tw8461092197124555767:True:=⟨⟩
theorem tw8516185388746235783:True:=⟨⟩
theorem tw851837672301890471:True:=⟨⟩
theorem tw8536179944795569344:True:=⟨⟩
theorem tw8555955137914357800:True:=⟨⟩
theorem tw857393026579069334:True:=⟨⟩
theorem tw8594426482672012323:True:=⟨⟩
theorem tw8600207202693503665:True:=⟨⟩
theorem tw8604352893467490280:True:=⟨⟩
theorem tw8754884766819145787:True:=⟨⟩
theorem tw8772693229765227635:True:=⟨⟩
theorem tw8858098354521700199:True:=⟨⟩
theorem tw8914680256476178774:True:=⟨⟩
theorem tw8949156082118663419:True:=⟨⟩
theorem tw8980818605159307037:True:=⟨⟩
theorem tw8984759374764534557:True:=⟨⟩
theorem tw9128519100761775124:True:=⟨⟩
theorem tw9155806303806056320:True:=⟨⟩
theorem tw925031321715413513:True:=⟨⟩
theorem tw925623105258950868:True:=⟨⟩
theorem tw9277130088594696219:True:=⟨⟩
theorem tw9317015632607213815:True:=⟨⟩
theorem tw9337238921331946697:True:=⟨⟩
theorem tw940491495621676967:True:=⟨⟩
theorem tw9409537567691438086:True:=⟨⟩
theorem tw9412919941992487337:True:=⟨⟩
theorem tw9432352663938641985:True:=⟨⟩
theorem tw9454522652109817695:True:=⟨⟩
theorem tw9483073152180089429:True:=⟨⟩
theorem tw9523951570799740007:True:=⟨⟩
theorem tw9550864123062989849:True:=⟨⟩
theorem tw9589576453962272374:True:=⟨⟩
theorem tw9593306784295756071:True:=⟨⟩
theorem tw9615590616997732661:True:=⟨⟩
theorem tw9739498329565824639:True:=⟨⟩
theorem tw9810292845843084826:True:=⟨⟩
theorem tw9835677451396285755:True:=⟨⟩
theorem tw9840267665152315539:True:=⟨⟩
theorem tw9896213848734680689:True:=⟨⟩
theorem tw9949679171357851691:True:=⟨⟩
theorem tw9992148659755696557:True:=⟨⟩
end Mine.hdx
section
open Mine
set_option tactic.hygienic true
set_option Elab.async true
set_option maxRecDepth 100000 in
set_option maxHeartbeats 16000000 in
theorem Mine.hdx:PySem.Challenge.rw_pq0634_01.Holds:=by
 w_on;o_law;k_head;(case hw=>w_witness2)
 have mine_h:Internal.Runs Mine.hdx.heap_1_39:={
    draw_eq:=(λP orc a b c m τ k kx=>by kernel_rfl),
    body_eq:=(by grind [(show Internal.R_body_eq Mine.hdx.heap_1_39 fromλP orc σ k kx=>by kernel_rfl)]),
    pick_eq:=(by grind [(show Internal.R_pick_eq Mine.hdx.heap_1_39 fromλP orc σ k kx=>by kernel_rfl)]),
    right_isS:=(λP=>⟨by kernel_rfl,by kernel_rfl,by kernel_rfl,by kernel_rfl,by kernel_rfl⟩),
    right_run:=(by grind [(show Internal.R_right_run Mine.hdx.heap_1_39 fromλP ok=>match ok with|true=>by kernel_rfl|false=>by kernel_rfl)]),
    pen_isS:=(λP=>⟨by kernel_rfl,by kernel_rfl,by kernel_rfl,by kernel_rfl⟩),
    pen_cut:=(λP=>by kernel_rfl),
    pen_bind:=(λP=>by kernel_rfl),
    pen_r0:=(λP q z orc=>by kernel_rfl),
    pen_r0':=(λP q z y orc=>by kernel_rfl),
    pen_r1:=(λP q orc k kx=>by kernel_rfl),
    pen_r3:=(λP q orc z xs k kx=>by kernel_rfl),
    pen_r3':=(λP q orc z y xs k kx=>by kernel_rfl),
    pen_r2:=(λP q orc z y p1 σ k kx=>by kernel_rfl),
    pen_r2':=(λP q orc z y y' p1 σ k kx=>by kernel_rfl),
    leaf:=(by grind [(show Internal.RT (Internal.b_leaf Mine.hdx.heap_1_39) fromλP=>by kernel_rfl)]),
    body:=(by grind [(show Internal.RT (Internal.b_body Mine.hdx.heap_1_39) fromλP=>by kernel_rfl)]),
    ph_is:=(λP=>⟨by kernel_rfl,by kernel_rfl,by kernel_rfl,by kernel_rfl,by kernel_rfl⟩),
    ph_gd:=(by grind [(show Internal.RT (Internal.b_ph_gd Mine.hdx.heap_1_39) fromλP=>by kernel_rfl)]),
    ph_0:=Internal.ltS (Internal.ltS (Internal.ltS (Internal.ltS (Internal.lt3 (by grind [(show Internal.RT (Internal.b_ph_0 Mine.hdx.heap_1_39 0) fromλP=>by kernel_rfl)]) (by grind [(show Internal.RT (Internal.b_ph_0 Mine.hdx.heap_1_39 1) fromλP=>by kernel_rfl)]) (by grind [(show Internal.RT (Internal.b_ph_0 Mine.hdx.heap_1_39 2) fromλP=>by kernel_rfl)])) (by grind [(show Internal.RT (Internal.b_ph_0 Mine.hdx.heap_1_39 3) fromλP=>by kernel_rfl)])) (by grind [(show Internal.RT (Internal.b_ph_0 Mine.hdx.heap_1_39 4) fromλP=>by kernel_rfl)])) (by grind [(show Internal.RT (Internal.b_ph_0 Mine.hdx.heap_1_39 5) fromλP=>by kernel_rfl)])) (by grind [(show Internal.RT (Internal.b_ph_0 Mine.hdx.heap_1_39 6) fromλP=>by kernel_rfl)]),
    ph_1:=Internal.ltS (Internal.ltS (Internal.ltS (Internal.ltS (Internal.lt3 (by grind [(show Internal.RT (Internal.b_ph_1 Mine.hdx.heap_1_39 0) fromλP=>by kernel_rfl)]) (by grind [(show Internal.RT (Internal.b_ph_1 Mine.hdx.heap_1_39 1) fromλP=>by kernel_rfl)]) (by grind [(show Internal.RT (Internal.b_ph_1 Mine.hdx.heap_1_39 2) fromλP=>by kernel_rfl)])) (by grind [(show Internal.RT (Internal.b_ph_1 Mine.hdx.heap_1_39 3) fromλP=>by kernel_rfl)])) (by grind [(show Internal.RT (Internal.b_ph_1 Mine.hdx.heap_1_39 4) fromλP=>by kernel_rfl)])) (by grind [(show Internal.RT (Internal.b_ph_1 Mine.hdx.heap_1_39 5) fromλP=>by kernel_rfl)])) (by grind [(show Internal.RT (Internal.b_ph_1 Mine.hdx.heap_1_39 6) fromλP=>by kernel_rfl)]),
    ph_2:=Internal.ltS (Internal.ltS (Internal.ltS (Internal.ltS (Internal.lt3 (Internal.lt3 (by grind [(show Internal.RT (Internal.b_ph_2 Mine.hdx.heap_1_39 0 0) fromλP=>by kernel_rfl)]) (by grind [(show Internal.RT (Internal.b_ph_2 Mine.hdx.heap_1_39 0 1) fromλP=>by kernel_rfl)]) (by grind [(show Internal.RT (Internal.b_ph_2 Mine.hdx.heap_1_39 0 2) fromλP=>by kernel_rfl)])) (Internal.lt3 (by grind [(show Internal.RT (Internal.b_ph_2 Mine.hdx.heap_1_39 1 0) fromλP=>by kernel_rfl)]) (by grind [(show Internal.RT (Internal.b_ph_2 Mine.hdx.heap_1_39 1 1) fromλP=>by kernel_rfl)]) (by grind [(show Internal.RT (Internal.b_ph_2 Mine.hdx.heap_1_39 1 2) fromλP=>by kernel_rfl)])) (Internal.lt3 (by grind [(show Internal.RT (Internal.b_ph_2 Mine.hdx.heap_1_39 2 0) fromλP=>by kernel_rfl)]) (by grind [(show Internal.RT (Internal.b_ph_2 Mine.hdx.heap_1_39 2 1) fromλP=>by kernel_rfl)]) (by grind [(show Internal.RT (Internal.b_ph_2 Mine.hdx.heap_1_39 2 2) fromλP=>by kernel_rfl)]))) (Internal.lt3 (by grind [(show Internal.RT (Internal.b_ph_2 Mine.hdx.heap_1_39 3 0) fromλP=>by kernel_rfl)]) (by grind [(show Internal.RT (Internal.b_ph_2 Mine.hdx.heap_1_39 3 1) fromλP=>by kernel_rfl)]) (by grind [(show Internal.RT (Internal.b_ph_2 Mine.hdx.heap_1_39 3 2) fromλP=>by kernel_rfl)]))) (Internal.lt3 (by grind [(show Internal.RT (Internal.b_ph_2 Mine.hdx.heap_1_39 4 0) fromλP=>by kernel_rfl)]) (by grind [(show Internal.RT (Internal.b_ph_2 Mine.hdx.heap_1_39 4 1) fromλP=>by kernel_rfl)]) (by grind [(show Internal.RT (Internal.b_ph_2 Mine.hdx.heap_1_39 4 2) fromλP=>by kernel_rfl)]))) (Internal.lt3 (by grind [(show Internal.RT (Internal.b_ph_2 Mine.hdx.heap_1_39 5 0) fromλP=>by kernel_rfl)]) (by grind [(show Internal.RT (Internal.b_ph_2 Mine.hdx.heap_1_39 5 1) fromλP=>by kernel_rfl)]) (by grind [(show Internal.RT (Internal.b_ph_2 Mine.hdx.heap_1_39 5 2) fromλP=>by kernel_rfl)]))) (Internal.lt3 (by grind [(show Internal.RT (Internal.b_ph_2 Mine.hdx.heap_1_39 6 0) fromλP=>by kernel_rfl)]) (by grind [(show Internal.RT (Internal.b_ph_2 Mine.hdx.heap_1_39 6 1) fromλP=>by kernel_rfl)]) (by grind [(show Internal.RT (Internal.b_ph_2 Mine.hdx.heap_1_39 6 2) fromλP=>by kernel_rfl)])),
    ph_3:=Internal.ltS (Internal.ltS (Internal.ltS (Internal.ltS (Internal.lt3 (by grind [(show Internal.RT (Internal.b_ph_3 Mine.hdx.heap_1_39 0) fromλP=>by kernel_rfl)]) (by grind [(show Internal.RT (Internal.b_ph_3 Mine.hdx.heap_1_39 1) fromλP=>by kernel_rfl)]) (by grind [(show Internal.RT (Internal.b_ph_3 Mine.hdx.heap_1_39 2) fromλP=>by kernel_rfl)])) (by grind [(show Internal.RT (Internal.b_ph_3 Mine.hdx.heap_1_39 3) fromλP=>by kernel_rfl)])) (by grind [(show Internal.RT (Internal.b_ph_3 Mine.hdx.heap_1_39 4) fromλP=>by kernel_rfl)])) (by grind [(show Internal.RT (Internal.b_ph_3 Mine.hdx.heap_1_39 5) fromλP=>by kernel_rfl)])) (by grind [(show Internal.RT (Internal.b_ph_3 Mine.hdx.heap_1_39 6) fromλP=>by kernel_rfl)]),
    sh_is:=(by grind [(show Internal.R_sh_is Mine.hdx.heap_1_39 fromλP=>⟨by kernel_rfl,by kernel_rfl,by kernel_rfl,by kernel_rfl⟩)]),
    ar_is:=(λP=>⟨by kernel_rfl,by kernel_rfl,by kernel_rfl,by kernel_rfl,by kernel_rfl⟩),
    ar_gd:=(by grind [(show Internal.RT (Internal.b_ar_gd Mine.hdx.heap_1_39) fromλP=>by kernel_rfl)]),
    ar_0:=(by grind [(show Internal.RT (Internal.b_ar_0 Mine.hdx.heap_1_39) fromλP=>by kernel_rfl)]),
    ar_1:=(by grind [(show Internal.RT (Internal.b_ar_1 Mine.hdx.heap_1_39) fromλP=>by kernel_rfl)]),
    ar_4:=(by grind [(show Internal.RT (Internal.b_ar_4 Mine.hdx.heap_1_39) fromλP=>by kernel_rfl)]),
    ar_2:=Internal.lt2 (by grind [(show Internal.RT (Internal.b_ar_2 Mine.hdx.heap_1_39 0) fromλP=>by kernel_rfl)]) (by grind [(show Internal.RT (Internal.b_ar_2 Mine.hdx.heap_1_39 1) fromλP=>by kernel_rfl)]),
    ar_8:=Internal.lt3 (Internal.lt3 (by grind [(show Internal.RT (Internal.b_ar_8 Mine.hdx.heap_1_39 0 0) fromλP=>by kernel_rfl)]) (by grind [(show Internal.RT (Internal.b_ar_8 Mine.hdx.heap_1_39 0 1) fromλP=>by kernel_rfl)]) (by grind [(show Internal.RT (Internal.b_ar_8 Mine.hdx.heap_1_39 0 2) fromλP=>by kernel_rfl)])) (Internal.lt3 (by grind [(show Internal.RT (Internal.b_ar_8 Mine.hdx.heap_1_39 1 0) fromλP=>by kernel_rfl)]) (by grind [(show Internal.RT (Internal.b_ar_8 Mine.hdx.heap_1_39 1 1) fromλP=>by kernel_rfl)]) (by grind [(show Internal.RT (Internal.b_ar_8 Mine.hdx.heap_1_39 1 2) fromλP=>by kernel_rfl)])) (Internal.lt3 (by grind [(show Internal.RT (Internal.b_ar_8 Mine.hdx.heap_1_39 2 0) fromλP=>by kernel_rfl)]) (by grind [(show Internal.RT (Internal.b_ar_8 Mine.hdx.heap_1_39 2 1) fromλP=>by kernel_rfl)]) (by grind [(show Internal.RT (Internal.b_ar_8 Mine.hdx.heap_1_39 2 2) fromλP=>by kernel_rfl)])),
    ar_5:=Internal.lt3 (λP out k=>by kernel_rfl) (λP out k=>by kernel_rfl) (λP out k=>by kernel_rfl),
    re_is:=(λP=>⟨by kernel_rfl,by kernel_rfl,by kernel_rfl,by kernel_rfl,by kernel_rfl⟩),
    re_0:=(by grind [(show Internal.RT (Internal.b_wy_0 Mine.hdx.heap_1_39 (Internal.kRe Mine.hdx.heap_1_39) (Internal.reQ 265 253) 1) fromλP=>by kernel_rfl)]),
    re_q:=Internal.ltS (Internal.ltS (Internal.lt3 (λP out k=>by kernel_rfl) (λP out k=>by kernel_rfl) (λP out k=>by kernel_rfl)) (λP out k=>by kernel_rfl)) (λP out k=>by kernel_rfl),
    re_2:=Internal.lt3 (by grind [(show Internal.RT (Internal.b_wy_2 Mine.hdx.heap_1_39 (Internal.kRe Mine.hdx.heap_1_39) (Internal.reQ 265 253) 2 0) fromλP=>by kernel_rfl)]) (by grind [(show Internal.RT (Internal.b_wy_2 Mine.hdx.heap_1_39 (Internal.kRe Mine.hdx.heap_1_39) (Internal.reQ 265 253) 2 1) fromλP=>by kernel_rfl)]) (by grind [(show Internal.RT (Internal.b_wy_2 Mine.hdx.heap_1_39 (Internal.kRe Mine.hdx.heap_1_39) (Internal.reQ 265 253) 2 2) fromλP=>by kernel_rfl)]),
    jo_is:=(λP=>⟨by kernel_rfl,by kernel_rfl,by kernel_rfl,by kernel_rfl,by kernel_rfl⟩),
    jo_0:=(by grind [(show Internal.RT (Internal.b_wy_0 Mine.hdx.heap_1_39 (Internal.kJo Mine.hdx.heap_1_39) (Internal.joQ 265 253) 2) fromλP=>by kernel_rfl)]),
    jo_q:=Internal.lt3 (Internal.lt3 (λP out k=>by kernel_rfl) (λP out k=>by kernel_rfl) (λP out k=>by kernel_rfl)) (Internal.lt3 (λP out k=>by kernel_rfl) (λP out k=>by kernel_rfl) (λP out k=>by kernel_rfl)) (Internal.lt3 (λP out k=>by kernel_rfl) (λP out k=>by kernel_rfl) (λP out k=>by kernel_rfl)),
    jo_2:=Internal.lt3 (by grind [(show Internal.RT (Internal.b_wy_2 Mine.hdx.heap_1_39 (Internal.kJo Mine.hdx.heap_1_39) (Internal.joQ 265 253) 5 0) fromλP=>by kernel_rfl)]) (by grind [(show Internal.RT (Internal.b_wy_2 Mine.hdx.heap_1_39 (Internal.kJo Mine.hdx.heap_1_39) (Internal.joQ 265 253) 5 1) fromλP=>by kernel_rfl)]) (by grind [(show Internal.RT (Internal.b_wy_2 Mine.hdx.heap_1_39 (Internal.kJo Mine.hdx.heap_1_39) (Internal.joQ 265 253) 5 2) fromλP=>by kernel_rfl)]),
    se_is:=(λP=>⟨by kernel_rfl,by kernel_rfl,by kernel_rfl,by kernel_rfl,by kernel_rfl⟩),
    se_0:=(by grind [(show Internal.RT (Internal.b_se_0 Mine.hdx.heap_1_39) fromλP=>by kernel_rfl)]),
    se_q:=Internal.ltS (Internal.lt3 (Internal.lt2 (λP out k=>by kernel_rfl) (λP out k=>by kernel_rfl)) (Internal.lt2 (λP out k=>by kernel_rfl) (λP out k=>by kernel_rfl)) (Internal.lt2 (λP out k=>by kernel_rfl) (λP out k=>by kernel_rfl))) (Internal.lt2 (λP out k=>by kernel_rfl) (λP out k=>by kernel_rfl)),
    se_3:=Internal.ltS (Internal.lt3 (by grind [(show Internal.RT (Internal.b_se_3 Mine.hdx.heap_1_39 0) fromλP=>by kernel_rfl)]) (by grind [(show Internal.RT (Internal.b_se_3 Mine.hdx.heap_1_39 1) fromλP=>by kernel_rfl)]) (by grind [(show Internal.RT (Internal.b_se_3 Mine.hdx.heap_1_39 2) fromλP=>by kernel_rfl)])) (by grind [(show Internal.RT (Internal.b_se_3 Mine.hdx.heap_1_39 3) fromλP=>by kernel_rfl)]),
    se_4:=Internal.ltS (Internal.lt3 (Internal.ltS (Internal.ltS (Internal.ltS (Internal.lt3 (by grind [(show Internal.RT (Internal.b_se_4 Mine.hdx.heap_1_39 0 0) fromλP=>by kernel_rfl)]) (by grind [(show Internal.RT (Internal.b_se_4 Mine.hdx.heap_1_39 0 1) fromλP=>by kernel_rfl)]) (by grind [(show Internal.RT (Internal.b_se_4 Mine.hdx.heap_1_39 0 2) fromλP=>by kernel_rfl)])) (by grind [(show Internal.RT (Internal.b_se_4 Mine.hdx.heap_1_39 0 3) fromλP=>by kernel_rfl)])) (by grind [(show Internal.RT (Internal.b_se_4 Mine.hdx.heap_1_39 0 4) fromλP=>by kernel_rfl)])) (by grind [(show Internal.RT (Internal.b_se_4 Mine.hdx.heap_1_39 0 5) fromλP=>by kernel_rfl)])) (Internal.ltS (Internal.ltS (Internal.ltS (Internal.lt3 (by grind [(show Internal.RT (Internal.b_se_4 Mine.hdx.heap_1_39 1 0) fromλP=>by kernel_rfl)]) (by grind [(show Internal.RT (Internal.b_se_4 Mine.hdx.heap_1_39 1 1) fromλP=>by kernel_rfl)]) (by grind [(show Internal.RT (Internal.b_se_4 Mine.hdx.heap_1_39 1 2) fromλP=>by kernel_rfl)])) (by grind [(show Internal.RT (Internal.b_se_4 Mine.hdx.heap_1_39 1 3) fromλP=>by kernel_rfl)])) (by grind [(show Internal.RT (Internal.b_se_4 Mine.hdx.heap_1_39 1 4) fromλP=>by kernel_rfl)])) (by grind [(show Internal.RT (Internal.b_se_4 Mine.hdx.heap_1_39 1 5) fromλP=>by kernel_rfl)])) (Internal.ltS (Internal.ltS (Internal.ltS (Internal.lt3 (by grind [(show Internal.RT (Internal.b_se_4 Mine.hdx.heap_1_39 2 0) fromλP=>by kernel_rfl)]) (by grind [(show Internal.RT (Internal.b_se_4 Mine.hdx.heap_1_39 2 1) fromλP=>by kernel_rfl)]) (by grind [(show Internal.RT (Internal.b_se_4 Mine.hdx.heap_1_39 2 2) fromλP=>by kernel_rfl)])) (by grind [(show Internal.RT (Internal.b_se_4 Mine.hdx.heap_1_39 2 3) fromλP=>by kernel_rfl)])) (by grind [(show Internal.RT (Internal.b_se_4 Mine.hdx.heap_1_39 2 4) fromλP=>by kernel_rfl)])) (by grind [(show Internal.RT (Internal.b_se_4 Mine.hdx.heap_1_39 2 5) fromλP=>by kernel_rfl)]))) (Internal.ltS (Internal.ltS (Internal.ltS (Internal.lt3 (by grind [(show Internal.RT (Internal.b_se_4 Mine.hdx.heap_1_39 3 0) fromλP=>by kernel_rfl)]) (by grind [(show Internal.RT (Internal.b_se_4 Mine.hdx.heap_1_39 3 1) fromλP=>by kernel_rfl)]) (by grind [(show Internal.RT (Internal.b_se_4 Mine.hdx.heap_1_39 3 2) fromλP=>by kernel_rfl)])) (by grind [(show Internal.RT (Internal.b_se_4 Mine.hdx.heap_1_39 3 3) fromλP=>by kernel_rfl)])) (by grind [(show Internal.RT (Internal.b_se_4 Mine.hdx.heap_1_39 3 4) fromλP=>by kernel_rfl)])) (by grind [(show Internal.RT (Internal.b_se_4 Mine.hdx.heap_1_39 3 5) fromλP=>by kernel_rfl)])),
    se_6:=Internal.ltS (Internal.lt3 (by grind [(show Internal.RT (Internal.b_se_6 Mine.hdx.heap_1_39 0) fromλP=>by kernel_rfl)]) (by grind [(show Internal.RT (Internal.b_se_6 Mine.hdx.heap_1_39 1) fromλP=>by kernel_rfl)]) (by grind [(show Internal.RT (Internal.b_se_6 Mine.hdx.heap_1_39 2) fromλP=>by kernel_rfl)])) (by grind [(show Internal.RT (Internal.b_se_6 Mine.hdx.heap_1_39 3) fromλP=>by kernel_rfl)]),
    se_7:=Internal.ltS (Internal.lt3 (by grind [(show Internal.RT (Internal.b_se_7 Mine.hdx.heap_1_39 0) fromλP=>by kernel_rfl)]) (by grind [(show Internal.RT (Internal.b_se_7 Mine.hdx.heap_1_39 1) fromλP=>by kernel_rfl)]) (by grind [(show Internal.RT (Internal.b_se_7 Mine.hdx.heap_1_39 2) fromλP=>by kernel_rfl)])) (by grind [(show Internal.RT (Internal.b_se_7 Mine.hdx.heap_1_39 3) fromλP=>by kernel_rfl)]),
    se_8:=Internal.ltS (Internal.lt3 (by grind [(show Internal.RT (Internal.b_se_8 Mine.hdx.heap_1_39 0) fromλP=>by kernel_rfl)]) (by grind [(show Internal.RT (Internal.b_se_8 Mine.hdx.heap_1_39 1) fromλP=>by kernel_rfl)]) (by grind [(show Internal.RT (Internal.b_se_8 Mine.hdx.heap_1_39 2) fromλP=>by kernel_rfl)])) (by grind [(show Internal.RT (Internal.b_se_8 Mine.hdx.heap_1_39 3) fromλP=>by kernel_rfl)]),
    ev_is:=(λP=>⟨by kernel_rfl,by kernel_rfl,by kernel_rfl,by kernel_rfl,by kernel_rfl⟩),
    ev_gd:=(by grind [(show Internal.RT (Internal.b_ev_gd Mine.hdx.heap_1_39) fromλP=>by kernel_rfl)]),
    ev_b:=(by grind [(show Internal.RT (Internal.b_ev_b Mine.hdx.heap_1_39) fromλP=>by kernel_rfl)]),
    ev_p:=(by grind [(show Internal.RT (Internal.b_ev_p Mine.hdx.heap_1_39) fromλP=>by kernel_rfl)]),
    ev_0:=(by grind [(show Internal.RT (Internal.b_ev_0 Mine.hdx.heap_1_39) fromλP=>by kernel_rfl)]),
    ev_1:=(by grind [(show Internal.RT (Internal.b_ev_1 Mine.hdx.heap_1_39) fromλP=>by kernel_rfl)]),
    ev_7:=(by grind [(show Internal.RT (Internal.b_ev_7 Mine.hdx.heap_1_39) fromλP=>by kernel_rfl)]),
    ev_2:=Internal.lt2 (by grind [(show Internal.RT (Internal.b_ev_2 Mine.hdx.heap_1_39 0) fromλP=>by kernel_rfl)]) (by grind [(show Internal.RT (Internal.b_ev_2 Mine.hdx.heap_1_39 1) fromλP=>by kernel_rfl)]),
    ev_3:=Internal.lt2 (by grind [(show Internal.RT (Internal.b_ev_3 Mine.hdx.heap_1_39 0) fromλP=>by kernel_rfl)]) (by grind [(show Internal.RT (Internal.b_ev_3 Mine.hdx.heap_1_39 1) fromλP=>by kernel_rfl)]),
    ev_6:=Internal.lt2 (by grind [(show Internal.RT (Internal.b_ev_6 Mine.hdx.heap_1_39 0) fromλP=>by kernel_rfl)]) (by grind [(show Internal.RT (Internal.b_ev_6 Mine.hdx.heap_1_39 1) fromλP=>by kernel_rfl)]),
    ev_4:=Internal.lt2 (Internal.lt2 (by grind [(show Internal.RT (Internal.b_ev_4 Mine.hdx.heap_1_39 0 0) fromλP=>by kernel_rfl)]) (by grind [(show Internal.RT (Internal.b_ev_4 Mine.hdx.heap_1_39 0 1) fromλP=>by kernel_rfl)])) (Internal.lt2 (by grind [(show Internal.RT (Internal.b_ev_4 Mine.hdx.heap_1_39 1 0) fromλP=>by kernel_rfl)]) (by grind [(show Internal.RT (Internal.b_ev_4 Mine.hdx.heap_1_39 1 1) fromλP=>by kernel_rfl)])),
    ev_5:=Internal.lt2 (Internal.lt2 (by grind [(show Internal.RT (Internal.b_ev_5 Mine.hdx.heap_1_39 0 0) fromλP=>by kernel_rfl)]) (by grind [(show Internal.RT (Internal.b_ev_5 Mine.hdx.heap_1_39 0 1) fromλP=>by kernel_rfl)])) (Internal.lt2 (by grind [(show Internal.RT (Internal.b_ev_5 Mine.hdx.heap_1_39 1 0) fromλP=>by kernel_rfl)]) (by grind [(show Internal.RT (Internal.b_ev_5 Mine.hdx.heap_1_39 1 1) fromλP=>by kernel_rfl)])),
    li_is:=(λP=>⟨by kernel_rfl,by kernel_rfl,by kernel_rfl,by kernel_rfl,by kernel_rfl⟩),
    li:=(by grind [(show Internal.RT (Internal.b_li Mine.hdx.heap_1_39) fromλP=>by kernel_rfl)]),
    law_b:=(by grind [(show Internal.R_law_b Mine.hdx.heap_1_39 fromλP=>by kernel_rfl)]),
    law_A:=(by grind [(show Internal.R_law_A Mine.hdx.heap_1_39 fromλP orc k kx=>by kernel_rfl)]),
    law_R:=(by grind [(show Internal.R_law_R Mine.hdx.heap_1_39 fromλP=>by kernel_rfl)]),
    fix:=(by grind [(show Internal.R_fix Mine.hdx.heap_1_39 fromλP=>by kernel_rfl)]),
    kg:=List.forall_mem_cons.mpr ⟨⟨(by grind [(show Internal.R_kg Mine.hdx.heap_1_39 29 fromλP=>by kernel_rfl)]),(by grind [(show Internal.R_kgh Mine.hdx.heap_1_39 29 fromλP=>by kernel_rfl)])⟩,List.forall_mem_cons.mpr ⟨⟨(by grind [(show Internal.R_kg Mine.hdx.heap_1_39 61 fromλP=>by kernel_rfl)]),(by grind [(show Internal.R_kgh Mine.hdx.heap_1_39 61 fromλP=>by kernel_rfl)])⟩,List.forall_mem_cons.mpr ⟨⟨(by grind [(show Internal.R_kg Mine.hdx.heap_1_39 198 fromλP=>by kernel_rfl)]),(by grind [(show Internal.R_kgh Mine.hdx.heap_1_39 198 fromλP=>by kernel_rfl)])⟩,List.forall_mem_cons.mpr ⟨⟨(by grind [(show Internal.R_kg Mine.hdx.heap_1_39 199 fromλP=>by kernel_rfl)]),(by grind [(show Internal.R_kgh Mine.hdx.heap_1_39 199 fromλP=>by kernel_rfl)])⟩,List.forall_mem_cons.mpr ⟨⟨(by grind [(show Internal.R_kg Mine.hdx.heap_1_39 200 fromλP=>by kernel_rfl)]),(by grind [(show Internal.R_kgh Mine.hdx.heap_1_39 200 fromλP=>by kernel_rfl)])⟩,List.forall_mem_cons.mpr ⟨⟨(by grind [(show Internal.R_kg Mine.hdx.heap_1_39 201 fromλP=>by kernel_rfl)]),(by grind [(show Internal.R_kgh Mine.hdx.heap_1_39 201 fromλP=>by kernel_rfl)])⟩,λ_ h=>nomatch h⟩⟩⟩⟩⟩⟩,
    kg_glob:=(by grind [(show Internal.R_kg_glob Mine.hdx.heap_1_39 fromλP=>by kernel_rfl)]),
    kg_sh:=(by grind [(show Internal.R_kg_sh Mine.hdx.heap_1_39 fromλP=>by kernel_rfl)]),
    gf_good:=(by grind [(show Internal.R_gf_good Mine.hdx.heap_1_39 fromλP=>{ C:=by kernel_rfl,N:=by kernel_rfl,n1:=by kernel_rfl,n2:=by kernel_rfl,n3:=by kernel_rfl,n4:=by kernel_rfl,L:=by kernel_rfl,NL:=by kernel_rfl,l1:=by kernel_rfl,l2:=by kernel_rfl,l3:=by kernel_rfl,l4:=by kernel_rfl,I:=by kernel_rfl,Ic:=by kernel_rfl,Id:=by kernel_rfl,par:=by kernel_rfl,args:=by kernel_rfl,dfl:=by kernel_rfl,D:=by kernel_rfl,Dd:=by kernel_rfl,body:=by kernel_rfl,line:=by kernel_rfl,co:=by kernel_rfl,ge:=by kernel_rfl,kind:=by kernel_rfl,cells:=by kernel_rfl,s1:=by kernel_rfl,s2:=by kernel_rfl,s3:=by kernel_rfl,s4:=by kernel_rfl,clo:=by kernel_rfl,code:=by kernel_rfl,glob:=by kernel_rfl,gx:=by kernel_rfl,blt:=by kernel_rfl,bx:=by kernel_rfl })]),
    scg:=(by grind [(show Internal.R_scg Mine.hdx.heap_1_39 fromλP=>by kernel_rfl)]),
    hkind:=(λP=>by kernel_rfl) }
 w_strict (
  k_go0
  refine' Internal.law_final (H:=mine_h) (F':=?mine_f) (X':=?mine_x) (T':=?mine_t) (hl:=?mine_l) (hC:=?mine_c) (N':=?mine_n) (hI:=?mine_i) (hn:=?mine_len) (hb:=?mine_b) (hs:=?mine_s) (hQ:=?mine_q)
  case mine_f=>assumption
  case mine_x=>assumption
  case mine_t=>assumption
  case mine_l=>assumption
  case mine_c=>assumption
  case mine_n=>assumption
  case mine_i=>assumption
  case mine_len=>omega
  case mine_b=>kernel_rfl
  case mine_s=>kernel_rfl
  case mine_q=>
   intro s' h1 h2 h3 h4
   refine⟨⟨.inl ⟨.bool true,.bool true,[],rfl,λ_=>rfl,.bool true,by kernel_rfl,λ_=>⟨List.nodup_nil,λ_ h=>nomatch h⟩⟩,h1,h4,h3.trans (by assumption)⟩,h2,trivial⟩)
theorem PySem.Challenge.cw_pq0634_01_holds : PySem.Challenge.rw_pq0634_01.Holds :=
  Mine.hdx
end
