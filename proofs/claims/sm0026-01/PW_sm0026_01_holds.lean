import PyProof.Rows.All
import KE.KStar
import KE.KTryMore
import Open.Line
import Wide.FinOn
import Lean
import PySem.Challenge.RW_sm0026_01
open PySem PySem.W PyProof.Rows
set_option Elab.async false
set_option maxRecDepth 100000
set_option linter.unusedVariables false
set_option genSizeOfSpec false
set_option genSizeOf false
set_option genInjectivity false
set_option tactic.hygienic false
set_option maxHeartbeats 4000000
namespace Mine
abbrev pw:Program:=PySem.Challenge.pw_sm0026_01
def Ev(st:SharedT→Thread→Option (SharedT×Thread))(n₀:Nat)(ann:Option Value):Nat→SharedT→Thread→Option SharedT
 | 0,_,_=>none
 | n+1,s,t=>match through t with
  | true=>some s
  | false=>match stepOk n₀ ann t with
   | false=>none
   | true=>match st s t with
    | some (s',t')=>Ev st n₀ ann n s' t'
    | none=>none
theorem Vf{tb:String→Option Builtin}{p:Program}{w:World}{n₀:Nat}{ann:Option Value}:∀ {n:Nat} {s s':SharedT} {t:Thread},
  Ev (stepT (denote tb) p w) n₀ ann n s t=some s'→topRun tb p w n₀ ann n s.abs t=some s'.abs
 | 0,_,_,_,h=>by cases h
 | n+1,s,s',t,h=>by
  unfold Ev at h
  unfold topRun
  cases ht:through t with
  | true=>rw [ht] at h;cases h;rfl
  | false =>
   rw [ht] at h
   cases hk:stepOk n₀ ann t with
   | false=>rw [hk] at h;cases h
   | true =>
    rw [hk] at h
    cases hs:stepT (denote tb) p w s t with
    | none=>rw [hs] at h;cases h
    | some r=>obtain ⟨s₂,t₂⟩:=r;rw [hs] at h;dsimp only;rw [stepT_spec hs];exact Vf h
noncomputable def NF(w:World):SharedT→Thread→Option (SharedT×Thread) :=
 PySem.W.Fast.tw10156331382660048174 (PySem.W.Fast.tw11892475500146522536 PySem.W.Fast.tw14364793385576792824) pw w
theorem Az(w:World):stepT (denote treeTable) pw w=NF w:=by
 unfold NF
 rw [←PySem.W.Fast.te14364793385576792824,←PySem.W.Fast.te11892475500146522536,←PySem.W.Fast.te10156331382660048174]
noncomputable def T0(P:Params):BT:=(boot_heap P).objs.toList.zipIdx.foldl (fun t x=>t.ins x.2 x.1) .nil
theorem OF(P:Params):absHeap (T0 P) 11 (boot_heap P).life=boot_heap P:=by kernel_rfl
theorem AC(P:Params):(boot_heap P).objs.size=11:=by kernel_rfl
theorem PF(P:Params):((boot_heap P).isNs mainGlobals&&(Array.mk []:Array GenState).size==0,(boot_heap P).nsMap mainGlobals "__annotations__")=(true,some (.ref 6)):=by kernel_rfl
noncomputable def K5(w:World)(os:OsState):Option SharedT :=
 Ev (NF w) 11 (some (.ref 6)) 20000 ⟨T0 w.params,11,(boot_heap w.params).life,Array.mk [],boot_drawn,boot_toks,os⟩ (topStub pw)
def qv:Program:=view pw [107]
def xa:List Str:=pw.boundNames.filter fun x=>!(x==("law":Str))
abbrev row:OpenRow:=PySem.Challenge.rw_sm0026_01.row
def Xt(s:Shared):Bool:=xlAt qv [] s&&recOk (RowW.records row.toRowW) s
noncomputable def Bz(Y:Shared→Bool)(w:World)(sT:SharedT) :=
 (staticsOk (importedModules pw.main.body) (boot_heap w.params) sT.abs.heap&&namesBound pw sT.abs.heap&&gensDone sT.abs&&laidKept (boot_heap w.params) sT.abs.heap,
  PySem.W.Fast.tw4187177175401517315 qv xa (importedModules pw.main.body) Xt true sT.abs,Y sT.abs)
@[elab_as_elim] theorem f0{α:Sort u}{P:α→Prop}{a b:α}(h:a=b)(k:P b):P a:=h▸k
@[elab_as_elim] theorem P5{α:Sort u}{P:α→Prop}{a b:α}(h:a=b)(k:P a):P b:=h▸k
theorem V0  {p1 p2 p3:Prop}  (h1:p1)(h2:p2)(h3:p3):p1∧p2∧p3:=⟨h1,h2,h3⟩
theorem E3  {p1 p2 p3 p4:Prop}  (h1:p1)(h2:p2)(h3:p3)(h4:p4):p1∧p2∧p3∧p4:=⟨h1,h2,h3,h4⟩
theorem Yq  {p1 p2 p3 p4 p5:Prop}  (h1:p1)(h2:p2)(h3:p3)(h4:p4)(h5:p5):p1∧p2∧p3∧p4∧p5:=⟨h1,h2,h3,h4,h5⟩
theorem BC  {p1 p2 p3 p4 p5 p6:Prop}  (h1:p1)(h2:p2)(h3:p3)(h4:p4)(h5:p5)(h6:p6):p1∧p2∧p3∧p4∧p5∧p6:=⟨h1,h2,h3,h4,h5,h6⟩
theorem C0{α1:Sort u1}{p1 p2:α1→Prop}(a1:α1)(h1:p1 a1)(h2:p2 a1):∃ a1,p1 a1∧p2 a1:=⟨a1,h1,h2⟩
theorem A2{α1:Sort u1}{p1 p2 p3:α1→Prop}(a1:α1)(h1:p1 a1)(h2:p2 a1)(h3:p3 a1):∃ a1,p1 a1∧p2 a1∧p3 a1:=⟨a1,h1,h2,h3⟩
theorem i5{α1:Sort u1}{p1 p2 p3 p4:α1→Prop}(a1:α1)(h1:p1 a1)(h2:p2 a1)(h3:p3 a1)(h4:p4 a1):∃ a1,p1 a1∧p2 a1∧p3 a1∧p4 a1:=⟨a1,h1,h2,h3,h4⟩
theorem V8{α1:Sort u1}{α2:Sort u2}{p1:α1→α2→Prop}(a1:α1)(a2:α2)(h1:p1 a1 a2):∃ a1 a2,p1 a1 a2:=⟨a1,a2,h1⟩
theorem W4{α1:Sort u1}{α2:Sort u2}{p1 p2:α1→α2→Prop}(a1:α1)(a2:α2)(h1:p1 a1 a2)(h2:p2 a1 a2):∃ a1 a2,p1 a1 a2∧p2 a1 a2:=⟨a1,a2,h1,h2⟩
theorem L1{α1:Sort u1}{α2:Sort u2}{p1 p2 p3:α1→α2→Prop}(a1:α1)(a2:α2)(h1:p1 a1 a2)(h2:p2 a1 a2)(h3:p3 a1 a2):∃ a1 a2,p1 a1 a2∧p2 a1 a2∧p3 a1 a2:=⟨a1,a2,h1,h2,h3⟩
theorem aa{α1:Sort u1}{α2:Sort u2}{p1 p2 p3 p4:α1→α2→Prop}(a1:α1)(a2:α2)(h1:p1 a1 a2)(h2:p2 a1 a2)(h3:p3 a1 a2)(h4:p4 a1 a2):∃ a1 a2,p1 a1 a2∧p2 a1 a2∧p3 a1 a2∧p4 a1 a2:=⟨a1,a2,h1,h2,h3,h4⟩
theorem O6{α1:Sort u1}{α2:Sort u2}{p1 p2 p3 p4 p5:α1→α2→Prop}(a1:α1)(a2:α2)(h1:p1 a1 a2)(h2:p2 a1 a2)(h3:p3 a1 a2)(h4:p4 a1 a2)(h5:p5 a1 a2):∃ a1 a2,p1 a1 a2∧p2 a1 a2∧p3 a1 a2∧p4 a1 a2∧p5 a1 a2:=⟨a1,a2,h1,h2,h3,h4,h5⟩
theorem DC{α1:Sort u1}{α2:Sort u2}{p1 p2 p3 p4 p5 p6:α1→α2→Prop}(a1:α1)(a2:α2)(h1:p1 a1 a2)(h2:p2 a1 a2)(h3:p3 a1 a2)(h4:p4 a1 a2)(h5:p5 a1 a2)(h6:p6 a1 a2):∃ a1 a2,p1 a1 a2∧p2 a1 a2∧p3 a1 a2∧p4 a1 a2∧p5 a1 a2∧p6 a1 a2:=⟨a1,a2,h1,h2,h3,h4,h5,h6⟩
theorem Cz{α1:Sort u1}{α2:Sort u2}{α3:Sort u3}{p1:α1→α2→α3→Prop}(a1:α1)(a2:α2)(a3:α3)(h1:p1 a1 a2 a3):∃ a1 a2 a3,p1 a1 a2 a3:=⟨a1,a2,a3,h1⟩
theorem Fv{α1:Sort u1}{α2:Sort u2}{α3:Sort u3}{p1 p2:α1→α2→α3→Prop}(a1:α1)(a2:α2)(a3:α3)(h1:p1 a1 a2 a3)(h2:p2 a1 a2 a3):∃ a1 a2 a3,p1 a1 a2 a3∧p2 a1 a2 a3:=⟨a1,a2,a3,h1,h2⟩
theorem Gv{α1:Sort u1}{α2:Sort u2}{α3:Sort u3}{p1 p2 p3:α1→α2→α3→Prop}(a1:α1)(a2:α2)(a3:α3)(h1:p1 a1 a2 a3)(h2:p2 a1 a2 a3)(h3:p3 a1 a2 a3):∃ a1 a2 a3,p1 a1 a2 a3∧p2 a1 a2 a3∧p3 a1 a2 a3:=⟨a1,a2,a3,h1,h2,h3⟩
theorem X4{α1:Sort u1}{α2:Sort u2}{α3:Sort u3}{p1 p2 p3 p4:α1→α2→α3→Prop}(a1:α1)(a2:α2)(a3:α3)(h1:p1 a1 a2 a3)(h2:p2 a1 a2 a3)(h3:p3 a1 a2 a3)(h4:p4 a1 a2 a3):∃ a1 a2 a3,p1 a1 a2 a3∧p2 a1 a2 a3∧p3 a1 a2 a3∧p4 a1 a2 a3:=⟨a1,a2,a3,h1,h2,h3,h4⟩
theorem W8{α1:Sort u1}{α2:Sort u2}{α3:Sort u3}{p1 p2 p3 p4 p5:α1→α2→α3→Prop}(a1:α1)(a2:α2)(a3:α3)(h1:p1 a1 a2 a3)(h2:p2 a1 a2 a3)(h3:p3 a1 a2 a3)(h4:p4 a1 a2 a3)(h5:p5 a1 a2 a3):∃ a1 a2 a3,p1 a1 a2 a3∧p2 a1 a2 a3∧p3 a1 a2 a3∧p4 a1 a2 a3∧p5 a1 a2 a3:=⟨a1,a2,a3,h1,h2,h3,h4,h5⟩
theorem Zq{α1:Sort u1}{α2:Sort u2}{α3:Sort u3}{p1 p2 p3 p4 p5 p6:α1→α2→α3→Prop}(a1:α1)(a2:α2)(a3:α3)(h1:p1 a1 a2 a3)(h2:p2 a1 a2 a3)(h3:p3 a1 a2 a3)(h4:p4 a1 a2 a3)(h5:p5 a1 a2 a3)(h6:p6 a1 a2 a3):∃ a1 a2 a3,p1 a1 a2 a3∧p2 a1 a2 a3∧p3 a1 a2 a3∧p4 a1 a2 a3∧p5 a1 a2 a3∧p6 a1 a2 a3:=⟨a1,a2,a3,h1,h2,h3,h4,h5,h6⟩
theorem EC{α1:Sort u1}{α2:Sort u2}{α3:Sort u3}{p1 p2 p3 p4 p5 p6 p7:α1→α2→α3→Prop}(a1:α1)(a2:α2)(a3:α3)(h1:p1 a1 a2 a3)(h2:p2 a1 a2 a3)(h3:p3 a1 a2 a3)(h4:p4 a1 a2 a3)(h5:p5 a1 a2 a3)(h6:p6 a1 a2 a3)(h7:p7 a1 a2 a3):∃ a1 a2 a3,p1 a1 a2 a3∧p2 a1 a2 a3∧p3 a1 a2 a3∧p4 a1 a2 a3∧p5 a1 a2 a3∧p6 a1 a2 a3∧p7 a1 a2 a3:=⟨a1,a2,a3,h1,h2,h3,h4,h5,h6,h7⟩
theorem cr{α1:Sort u1}{α2:Sort u2}{α3:Sort u3}{α4:Sort u4}{p1 p2 p3:α1→α2→α3→α4→Prop}(a1:α1)(a2:α2)(a3:α3)(a4:α4)(h1:p1 a1 a2 a3 a4)(h2:p2 a1 a2 a3 a4)(h3:p3 a1 a2 a3 a4):∃ a1 a2 a3 a4,p1 a1 a2 a3 a4∧p2 a1 a2 a3 a4∧p3 a1 a2 a3 a4:=⟨a1,a2,a3,a4,h1,h2,h3⟩
theorem Df{α1:Sort u1}{α2:Sort u2}{α3:Sort u3}{α4:Sort u4}{p1 p2 p3 p4:α1→α2→α3→α4→Prop}(a1:α1)(a2:α2)(a3:α3)(a4:α4)(h1:p1 a1 a2 a3 a4)(h2:p2 a1 a2 a3 a4)(h3:p3 a1 a2 a3 a4)(h4:p4 a1 a2 a3 a4):∃ a1 a2 a3 a4,p1 a1 a2 a3 a4∧p2 a1 a2 a3 a4∧p3 a1 a2 a3 a4∧p4 a1 a2 a3 a4:=⟨a1,a2,a3,a4,h1,h2,h3,h4⟩
theorem FC{α1:Sort u1}{α2:Sort u2}{α3:Sort u3}{α4:Sort u4}{p1 p2 p3 p4 p5 p6 p7:α1→α2→α3→α4→Prop}(a1:α1)(a2:α2)(a3:α3)(a4:α4)(h1:p1 a1 a2 a3 a4)(h2:p2 a1 a2 a3 a4)(h3:p3 a1 a2 a3 a4)(h4:p4 a1 a2 a3 a4)(h5:p5 a1 a2 a3 a4)(h6:p6 a1 a2 a3 a4)(h7:p7 a1 a2 a3 a4):∃ a1 a2 a3 a4,p1 a1 a2 a3 a4∧p2 a1 a2 a3 a4∧p3 a1 a2 a3 a4∧p4 a1 a2 a3 a4∧p5 a1 a2 a3 a4∧p6 a1 a2 a3 a4∧p7 a1 a2 a3 a4:=⟨a1,a2,a3,a4,h1,h2,h3,h4,h5,h6,h7⟩
theorem QF{α1:Sort u1}{α2:Sort u2}{α3:Sort u3}{α4:Sort u4}{α5:Sort u5}{p1:α1→α2→α3→α4→α5→Prop}(a1:α1)(a2:α2)(a3:α3)(a4:α4)(a5:α5)(h1:p1 a1 a2 a3 a4 a5):∃ a1 a2 a3 a4 a5,p1 a1 a2 a3 a4 a5:=⟨a1,a2,a3,a4,a5,h1⟩
theorem ir{α1:Sort u1}{α2:Sort u2}{α3:Sort u3}{α4:Sort u4}{α5:Sort u5}{p1 p2 p3 p4 p5:α1→α2→α3→α4→α5→Prop}(a1:α1)(a2:α2)(a3:α3)(a4:α4)(a5:α5)(h1:p1 a1 a2 a3 a4 a5)(h2:p2 a1 a2 a3 a4 a5)(h3:p3 a1 a2 a3 a4 a5)(h4:p4 a1 a2 a3 a4 a5)(h5:p5 a1 a2 a3 a4 a5):∃ a1 a2 a3 a4 a5,p1 a1 a2 a3 a4 a5∧p2 a1 a2 a3 a4 a5∧p3 a1 a2 a3 a4 a5∧p4 a1 a2 a3 a4 a5∧p5 a1 a2 a3 a4 a5:=⟨a1,a2,a3,a4,a5,h1,h2,h3,h4,h5⟩
theorem HC{α1:Sort u1}{α2:Sort u2}{α3:Sort u3}{α4:Sort u4}{α5:Sort u5}{p1 p2 p3 p4 p5 p6 p7 p8 p9:α1→α2→α3→α4→α5→Prop}(a1:α1)(a2:α2)(a3:α3)(a4:α4)(a5:α5)(h1:p1 a1 a2 a3 a4 a5)(h2:p2 a1 a2 a3 a4 a5)(h3:p3 a1 a2 a3 a4 a5)(h4:p4 a1 a2 a3 a4 a5)(h5:p5 a1 a2 a3 a4 a5)(h6:p6 a1 a2 a3 a4 a5)(h7:p7 a1 a2 a3 a4 a5)(h8:p8 a1 a2 a3 a4 a5)(h9:p9 a1 a2 a3 a4 a5):∃ a1 a2 a3 a4 a5,p1 a1 a2 a3 a4 a5∧p2 a1 a2 a3 a4 a5∧p3 a1 a2 a3 a4 a5∧p4 a1 a2 a3 a4 a5∧p5 a1 a2 a3 a4 a5∧p6 a1 a2 a3 a4 a5∧p7 a1 a2 a3 a4 a5∧p8 a1 a2 a3 a4 a5∧p9 a1 a2 a3 a4 a5:=⟨a1,a2,a3,a4,a5,h1,h2,h3,h4,h5,h6,h7,h8,h9⟩
theorem Dz{α1:Sort u1}{α2:Sort u2}{α3:Sort u3}{α4:Sort u4}{α5:Sort u5}{α6:Sort u6}{α7:Sort u7}{p1 p2 p3 p4 p5 p6 p7:α1→α2→α3→α4→α5→α6→α7→Prop}(a1:α1)(a2:α2)(a3:α3)(a4:α4)(a5:α5)(a6:α6)(a7:α7)(h1:p1 a1 a2 a3 a4 a5 a6 a7)(h2:p2 a1 a2 a3 a4 a5 a6 a7)(h3:p3 a1 a2 a3 a4 a5 a6 a7)(h4:p4 a1 a2 a3 a4 a5 a6 a7)(h5:p5 a1 a2 a3 a4 a5 a6 a7)(h6:p6 a1 a2 a3 a4 a5 a6 a7)(h7:p7 a1 a2 a3 a4 a5 a6 a7):∃ a1 a2 a3 a4 a5 a6 a7,p1 a1 a2 a3 a4 a5 a6 a7∧p2 a1 a2 a3 a4 a5 a6 a7∧p3 a1 a2 a3 a4 a5 a6 a7∧p4 a1 a2 a3 a4 a5 a6 a7∧p5 a1 a2 a3 a4 a5 a6 a7∧p6 a1 a2 a3 a4 a5 a6 a7∧p7 a1 a2 a3 a4 a5 a6 a7:=⟨a1,a2,a3,a4,a5,a6,a7,h1,h2,h3,h4,h5,h6,h7⟩
universe u1 u2 u3 u4 u5 u6 u7 u8 u9 u10 u11 u12
theorem IC{α:Type u}{P:Prop}(f:α→Nat){a b:α}(h:a=b)(k:Nat.beq (f a) (f b)=false):P:=by subst h;rw [Nat.beq_refl] at k;exact Bool.noConfusion k
theorem i4  {p1 p2 p3:Prop}{G:Prop}(h:p1∧p2∧p3)(k:p1→p2→p3→G):G:=k h.1 h.2.1 h.2.2
theorem R7  {p1 p2 p3 p4:Prop}{G:Prop}(h:p1∧p2∧p3∧p4)(k:p1→p2→p3→p4→G):G:=k h.1 h.2.1 h.2.2.1 h.2.2.2
theorem Hv  {p1 p2 p3 p4 p5:Prop}{G:Prop}(h:p1∧p2∧p3∧p4∧p5)(k:p1→p2→p3→p4→p5→G):G:=k h.1 h.2.1 h.2.2.1 h.2.2.2.1 h.2.2.2.2
theorem RF  {p1 p2 p3 p4 p5 p6:Prop}{G:Prop}(h:p1∧p2∧p3∧p4∧p5∧p6)(k:p1→p2→p3→p4→p5→p6→G):G:=k h.1 h.2.1 h.2.2.1 h.2.2.2.1 h.2.2.2.2.1 h.2.2.2.2.2
theorem Ez  {p1 p2 p3 p4 p5 p6 p7:Prop}{G:Prop}(h:p1∧p2∧p3∧p4∧p5∧p6∧p7)(k:p1→p2→p3→p4→p5→p6→p7→G):G:=k h.1 h.2.1 h.2.2.1 h.2.2.2.1 h.2.2.2.2.1 h.2.2.2.2.2.1 h.2.2.2.2.2.2
theorem A0{α1:Sort u1}{p1 p2:α1→Prop}{G:Prop}(h:∃ a1,p1 a1∧p2 a1)(k:∀ a1,p1 a1→p2 a1→G):G:=h.elim fun a1 h=>k a1 h.1 h.2
theorem F1{α1:Sort u1}{p1 p2 p3:α1→Prop}{G:Prop}(h:∃ a1,p1 a1∧p2 a1∧p3 a1)(k:∀ a1,p1 a1→p2 a1→p3 a1→G):G:=h.elim fun a1 h=>k a1 h.1 h.2.1 h.2.2
theorem fe{α1:Sort u1}{p1 p2 p3 p4:α1→Prop}{G:Prop}(h:∃ a1,p1 a1∧p2 a1∧p3 a1∧p4 a1)(k:∀ a1,p1 a1→p2 a1→p3 a1→p4 a1→G):G:=h.elim fun a1 h=>k a1 h.1 h.2.1 h.2.2.1 h.2.2.2
theorem TF{α1:Sort u1}{p1 p2 p3 p4 p5 p6:α1→Prop}{G:Prop}(h:∃ a1,p1 a1∧p2 a1∧p3 a1∧p4 a1∧p5 a1∧p6 a1)(k:∀ a1,p1 a1→p2 a1→p3 a1→p4 a1→p5 a1→p6 a1→G):G:=h.elim fun a1 h=>k a1 h.1 h.2.1 h.2.2.1 h.2.2.2.1 h.2.2.2.2.1 h.2.2.2.2.2
theorem jh{α1:Sort u1}{α2:Sort u2}{p1:α1→α2→Prop}{G:Prop}(h:∃ a1 a2,p1 a1 a2)(k:∀ a1 a2,p1 a1 a2→G):G:=h.elim fun a1 h=>h.elim fun a2 h=>k a1 a2 h
theorem Y1{α1:Sort u1}{α2:Sort u2}{p1 p2:α1→α2→Prop}{G:Prop}(h:∃ a1 a2,p1 a1 a2∧p2 a1 a2)(k:∀ a1 a2,p1 a1 a2→p2 a1 a2→G):G:=h.elim fun a1 h=>h.elim fun a2 h=>k a1 a2 h.1 h.2
theorem Z0{α1:Sort u1}{α2:Sort u2}{p1 p2 p3:α1→α2→Prop}{G:Prop}(h:∃ a1 a2,p1 a1 a2∧p2 a1 a2∧p3 a1 a2)(k:∀ a1 a2,p1 a1 a2→p2 a1 a2→p3 a1 a2→G):G:=h.elim fun a1 h=>h.elim fun a2 h=>k a1 a2 h.1 h.2.1 h.2.2
theorem lh{α1:Sort u1}{α2:Sort u2}{p1 p2 p3 p4:α1→α2→Prop}{G:Prop}(h:∃ a1 a2,p1 a1 a2∧p2 a1 a2∧p3 a1 a2∧p4 a1 a2)(k:∀ a1 a2,p1 a1 a2→p2 a1 a2→p3 a1 a2→p4 a1 a2→G):G:=h.elim fun a1 h=>h.elim fun a2 h=>k a1 a2 h.1 h.2.1 h.2.2.1 h.2.2.2
theorem O8{α1:Sort u1}{α2:Sort u2}{p1 p2 p3 p4 p5:α1→α2→Prop}{G:Prop}(h:∃ a1 a2,p1 a1 a2∧p2 a1 a2∧p3 a1 a2∧p4 a1 a2∧p5 a1 a2)(k:∀ a1 a2,p1 a1 a2→p2 a1 a2→p3 a1 a2→p4 a1 a2→p5 a1 a2→G):G:=h.elim fun a1 h=>h.elim fun a2 h=>k a1 a2 h.1 h.2.1 h.2.2.1 h.2.2.2.1 h.2.2.2.2
theorem JC{α1:Sort u1}{α2:Sort u2}{α3:Sort u3}{p1:α1→α2→α3→Prop}{G:Prop}(h:∃ a1 a2 a3,p1 a1 a2 a3)(k:∀ a1 a2 a3,p1 a1 a2 a3→G):G:=h.elim fun a1 h=>h.elim fun a2 h=>h.elim fun a3 h=>k a1 a2 a3 h
theorem nh{α1:Sort u1}{α2:Sort u2}{α3:Sort u3}{p1 p2:α1→α2→α3→Prop}{G:Prop}(h:∃ a1 a2 a3,p1 a1 a2 a3∧p2 a1 a2 a3)(k:∀ a1 a2 a3,p1 a1 a2 a3→p2 a1 a2 a3→G):G:=h.elim fun a1 h=>h.elim fun a2 h=>h.elim fun a3 h=>k a1 a2 a3 h.1 h.2
theorem q8{α1:Sort u1}{α2:Sort u2}{α3:Sort u3}{p1 p2 p3:α1→α2→α3→Prop}{G:Prop}(h:∃ a1 a2 a3,p1 a1 a2 a3∧p2 a1 a2 a3∧p3 a1 a2 a3)(k:∀ a1 a2 a3,p1 a1 a2 a3→p2 a1 a2 a3→p3 a1 a2 a3→G):G:=h.elim fun a1 h=>h.elim fun a2 h=>h.elim fun a3 h=>k a1 a2 a3 h.1 h.2.1 h.2.2
theorem R5{α1:Sort u1}{α2:Sort u2}{α3:Sort u3}{p1 p2 p3 p4:α1→α2→α3→Prop}{G:Prop}(h:∃ a1 a2 a3,p1 a1 a2 a3∧p2 a1 a2 a3∧p3 a1 a2 a3∧p4 a1 a2 a3)(k:∀ a1 a2 a3,p1 a1 a2 a3→p2 a1 a2 a3→p3 a1 a2 a3→p4 a1 a2 a3→G):G:=h.elim fun a1 h=>h.elim fun a2 h=>h.elim fun a3 h=>k a1 a2 a3 h.1 h.2.1 h.2.2.1 h.2.2.2
theorem i7{α1:Sort u1}{α2:Sort u2}{α3:Sort u3}{p1 p2 p3 p4 p5:α1→α2→α3→Prop}{G:Prop}(h:∃ a1 a2 a3,p1 a1 a2 a3∧p2 a1 a2 a3∧p3 a1 a2 a3∧p4 a1 a2 a3∧p5 a1 a2 a3)(k:∀ a1 a2 a3,p1 a1 a2 a3→p2 a1 a2 a3→p3 a1 a2 a3→p4 a1 a2 a3→p5 a1 a2 a3→G):G:=h.elim fun a1 h=>h.elim fun a2 h=>h.elim fun a3 h=>k a1 a2 a3 h.1 h.2.1 h.2.2.1 h.2.2.2.1 h.2.2.2.2
theorem Qi{α1:Sort u1}{α2:Sort u2}{α3:Sort u3}{p1 p2 p3 p4 p5 p6:α1→α2→α3→Prop}{G:Prop}(h:∃ a1 a2 a3,p1 a1 a2 a3∧p2 a1 a2 a3∧p3 a1 a2 a3∧p4 a1 a2 a3∧p5 a1 a2 a3∧p6 a1 a2 a3)(k:∀ a1 a2 a3,p1 a1 a2 a3→p2 a1 a2 a3→p3 a1 a2 a3→p4 a1 a2 a3→p5 a1 a2 a3→p6 a1 a2 a3→G):G:=h.elim fun a1 h=>h.elim fun a2 h=>h.elim fun a3 h=>k a1 a2 a3 h.1 h.2.1 h.2.2.1 h.2.2.2.1 h.2.2.2.2.1 h.2.2.2.2.2
theorem UF{α1:Sort u1}{α2:Sort u2}{α3:Sort u3}{p1 p2 p3 p4 p5 p6 p7:α1→α2→α3→Prop}{G:Prop}(h:∃ a1 a2 a3,p1 a1 a2 a3∧p2 a1 a2 a3∧p3 a1 a2 a3∧p4 a1 a2 a3∧p5 a1 a2 a3∧p6 a1 a2 a3∧p7 a1 a2 a3)(k:∀ a1 a2 a3,p1 a1 a2 a3→p2 a1 a2 a3→p3 a1 a2 a3→p4 a1 a2 a3→p5 a1 a2 a3→p6 a1 a2 a3→p7 a1 a2 a3→G):G:=h.elim fun a1 h=>h.elim fun a2 h=>h.elim fun a3 h=>k a1 a2 a3 h.1 h.2.1 h.2.2.1 h.2.2.2.1 h.2.2.2.2.1 h.2.2.2.2.2.1 h.2.2.2.2.2.2
theorem KC{α1:Sort u1}{α2:Sort u2}{α3:Sort u3}{p1 p2 p3 p4 p5 p6 p7 p8 p9 p10 p11 p12:α1→α2→α3→Prop}{G:Prop}(h:∃ a1 a2 a3,p1 a1 a2 a3∧p2 a1 a2 a3∧p3 a1 a2 a3∧p4 a1 a2 a3∧p5 a1 a2 a3∧p6 a1 a2 a3∧p7 a1 a2 a3∧p8 a1 a2 a3∧p9 a1 a2 a3∧p10 a1 a2 a3∧p11 a1 a2 a3∧p12 a1 a2 a3)(k:∀ a1 a2 a3,p1 a1 a2 a3→p2 a1 a2 a3→p3 a1 a2 a3→p4 a1 a2 a3→p5 a1 a2 a3→p6 a1 a2 a3→p7 a1 a2 a3→p8 a1 a2 a3→p9 a1 a2 a3→p10 a1 a2 a3→p11 a1 a2 a3→p12 a1 a2 a3→G):G:=h.elim fun a1 h=>h.elim fun a2 h=>h.elim fun a3 h=>k a1 a2 a3 h.1 h.2.1 h.2.2.1 h.2.2.2.1 h.2.2.2.2.1 h.2.2.2.2.2.1 h.2.2.2.2.2.2.1 h.2.2.2.2.2.2.2.1 h.2.2.2.2.2.2.2.2.1 h.2.2.2.2.2.2.2.2.2.1 h.2.2.2.2.2.2.2.2.2.2.1 h.2.2.2.2.2.2.2.2.2.2.2
theorem da{α1:Sort u1}{α2:Sort u2}{α3:Sort u3}{α4:Sort u4}{p1 p2 p3:α1→α2→α3→α4→Prop}{G:Prop}(h:∃ a1 a2 a3 a4,p1 a1 a2 a3 a4∧p2 a1 a2 a3 a4∧p3 a1 a2 a3 a4)(k:∀ a1 a2 a3 a4,p1 a1 a2 a3 a4→p2 a1 a2 a3 a4→p3 a1 a2 a3 a4→G):G:=h.elim fun a1 h=>h.elim fun a2 h=>h.elim fun a3 h=>h.elim fun a4 h=>k a1 a2 a3 a4 h.1 h.2.1 h.2.2
theorem Ia{α1:Sort u1}{α2:Sort u2}{α3:Sort u3}{α4:Sort u4}{p1 p2 p3 p4:α1→α2→α3→α4→Prop}{G:Prop}(h:∃ a1 a2 a3 a4,p1 a1 a2 a3 a4∧p2 a1 a2 a3 a4∧p3 a1 a2 a3 a4∧p4 a1 a2 a3 a4)(k:∀ a1 a2 a3 a4,p1 a1 a2 a3 a4→p2 a1 a2 a3 a4→p3 a1 a2 a3 a4→p4 a1 a2 a3 a4→G):G:=h.elim fun a1 h=>h.elim fun a2 h=>h.elim fun a3 h=>h.elim fun a4 h=>k a1 a2 a3 a4 h.1 h.2.1 h.2.2.1 h.2.2.2
theorem LC{α1:Sort u1}{α2:Sort u2}{α3:Sort u3}{α4:Sort u4}{p1 p2 p3 p4 p5:α1→α2→α3→α4→Prop}{G:Prop}(h:∃ a1 a2 a3 a4,p1 a1 a2 a3 a4∧p2 a1 a2 a3 a4∧p3 a1 a2 a3 a4∧p4 a1 a2 a3 a4∧p5 a1 a2 a3 a4)(k:∀ a1 a2 a3 a4,p1 a1 a2 a3 a4→p2 a1 a2 a3 a4→p3 a1 a2 a3 a4→p4 a1 a2 a3 a4→p5 a1 a2 a3 a4→G):G:=h.elim fun a1 h=>h.elim fun a2 h=>h.elim fun a3 h=>h.elim fun a4 h=>k a1 a2 a3 a4 h.1 h.2.1 h.2.2.1 h.2.2.2.1 h.2.2.2.2
theorem VF{α1:Sort u1}{α2:Sort u2}{α3:Sort u3}{α4:Sort u4}{p1 p2 p3 p4 p5 p6:α1→α2→α3→α4→Prop}{G:Prop}(h:∃ a1 a2 a3 a4,p1 a1 a2 a3 a4∧p2 a1 a2 a3 a4∧p3 a1 a2 a3 a4∧p4 a1 a2 a3 a4∧p5 a1 a2 a3 a4∧p6 a1 a2 a3 a4)(k:∀ a1 a2 a3 a4,p1 a1 a2 a3 a4→p2 a1 a2 a3 a4→p3 a1 a2 a3 a4→p4 a1 a2 a3 a4→p5 a1 a2 a3 a4→p6 a1 a2 a3 a4→G):G:=h.elim fun a1 h=>h.elim fun a2 h=>h.elim fun a3 h=>h.elim fun a4 h=>k a1 a2 a3 a4 h.1 h.2.1 h.2.2.1 h.2.2.2.1 h.2.2.2.2.1 h.2.2.2.2.2
theorem Fz{α1:Sort u1}{α2:Sort u2}{α3:Sort u3}{α4:Sort u4}{p1 p2 p3 p4 p5 p6 p7:α1→α2→α3→α4→Prop}{G:Prop}(h:∃ a1 a2 a3 a4,p1 a1 a2 a3 a4∧p2 a1 a2 a3 a4∧p3 a1 a2 a3 a4∧p4 a1 a2 a3 a4∧p5 a1 a2 a3 a4∧p6 a1 a2 a3 a4∧p7 a1 a2 a3 a4)(k:∀ a1 a2 a3 a4,p1 a1 a2 a3 a4→p2 a1 a2 a3 a4→p3 a1 a2 a3 a4→p4 a1 a2 a3 a4→p5 a1 a2 a3 a4→p6 a1 a2 a3 a4→p7 a1 a2 a3 a4→G):G:=h.elim fun a1 h=>h.elim fun a2 h=>h.elim fun a3 h=>h.elim fun a4 h=>k a1 a2 a3 a4 h.1 h.2.1 h.2.2.1 h.2.2.2.1 h.2.2.2.2.1 h.2.2.2.2.2.1 h.2.2.2.2.2.2
theorem ak{l r a b:Nat}(h:l≤r)(e:a+r≤b+l):a≤b:=Nat.le_of_add_le_add_right (Nat.le_trans e (Nat.add_le_add_left h b))
theorem ae{l r a b:Nat}(h:l=r)(e:a+r≤b+l):a≤b:=ak (Nat.le_of_eq h) e
theorem az{l r a b:Nat}(h:l=r)(e:a+l≤b+r):a≤b:=ak (Nat.le_of_eq h.symm) e
theorem ar{l r a b:Nat}(h:l=r)(e:a+r=b+l):a=b:=Nat.add_right_cancel (e.trans (h▸rfl))
theorem af{l r:Nat}{P:Prop}(h:l≤r)(e:r<l):P:=(Nat.not_le_of_lt e h).elim
theorem XF{α1:Sort u1}{α2:Sort u2}{p1 p2 p3 p4 p5 p6 p7:α1→α2→Prop}{G:Prop}(h:∃ a1 a2,p1 a1 a2∧p2 a1 a2∧p3 a1 a2∧p4 a1 a2∧p5 a1 a2∧p6 a1 a2∧p7 a1 a2)(k:∀ a1 a2,p1 a1 a2→p2 a1 a2→p3 a1 a2→p4 a1 a2→p5 a1 a2→p6 a1 a2→p7 a1 a2→G):G:=h.elim fun a1 h=>h.elim fun a2 h=>k a1 a2 h.1 h.2.1 h.2.2.1 h.2.2.2.1 h.2.2.2.2.1 h.2.2.2.2.2.1 h.2.2.2.2.2.2
theorem Ap{α1:Sort u1}{α2:Sort u2}{α3:Sort u3}{α4:Sort u4}{p1 p2 p3 p4 p5 p6 p7 p8 p9:α1→α2→α3→α4→Prop}{G:Prop}(h:∃ a1 a2 a3 a4,p1 a1 a2 a3 a4∧p2 a1 a2 a3 a4∧p3 a1 a2 a3 a4∧p4 a1 a2 a3 a4∧p5 a1 a2 a3 a4∧p6 a1 a2 a3 a4∧p7 a1 a2 a3 a4∧p8 a1 a2 a3 a4∧p9 a1 a2 a3 a4)(k:∀ a1 a2 a3 a4,p1 a1 a2 a3 a4→p2 a1 a2 a3 a4→p3 a1 a2 a3 a4→p4 a1 a2 a3 a4→p5 a1 a2 a3 a4→p6 a1 a2 a3 a4→p7 a1 a2 a3 a4→p8 a1 a2 a3 a4→p9 a1 a2 a3 a4→G):G:=h.elim fun a1 h=>h.elim fun a2 h=>h.elim fun a3 h=>h.elim fun a4 h=>k a1 a2 a3 a4 h.1 h.2.1 h.2.2.1 h.2.2.2.1 h.2.2.2.2.1 h.2.2.2.2.2.1 h.2.2.2.2.2.2.1 h.2.2.2.2.2.2.2.1 h.2.2.2.2.2.2.2.2
theorem YF{α1:Sort u1}{α2:Sort u2}{α3:Sort u3}{α4:Sort u4}{α5:Sort u5}{p1:α1→α2→α3→α4→α5→Prop}{G:Prop}(h:∃ a1 a2 a3 a4 a5,p1 a1 a2 a3 a4 a5)(k:∀ a1 a2 a3 a4 a5,p1 a1 a2 a3 a4 a5→G):G:=h.elim fun a1 h=>h.elim fun a2 h=>h.elim fun a3 h=>h.elim fun a4 h=>h.elim fun a5 h=>k a1 a2 a3 a4 a5 h
theorem jr{α1:Sort u1}{α2:Sort u2}{α3:Sort u3}{α4:Sort u4}{α5:Sort u5}{p1 p2 p3 p4:α1→α2→α3→α4→α5→Prop}{G:Prop}(h:∃ a1 a2 a3 a4 a5,p1 a1 a2 a3 a4 a5∧p2 a1 a2 a3 a4 a5∧p3 a1 a2 a3 a4 a5∧p4 a1 a2 a3 a4 a5)(k:∀ a1 a2 a3 a4 a5,p1 a1 a2 a3 a4 a5→p2 a1 a2 a3 a4 a5→p3 a1 a2 a3 a4 a5→p4 a1 a2 a3 a4 a5→G):G:=h.elim fun a1 h=>h.elim fun a2 h=>h.elim fun a3 h=>h.elim fun a4 h=>h.elim fun a5 h=>k a1 a2 a3 a4 a5 h.1 h.2.1 h.2.2.1 h.2.2.2
theorem Ri{α1:Sort u1}{α2:Sort u2}{α3:Sort u3}{α4:Sort u4}{α5:Sort u5}{p1 p2 p3 p4 p5:α1→α2→α3→α4→α5→Prop}{G:Prop}(h:∃ a1 a2 a3 a4 a5,p1 a1 a2 a3 a4 a5∧p2 a1 a2 a3 a4 a5∧p3 a1 a2 a3 a4 a5∧p4 a1 a2 a3 a4 a5∧p5 a1 a2 a3 a4 a5)(k:∀ a1 a2 a3 a4 a5,p1 a1 a2 a3 a4 a5→p2 a1 a2 a3 a4 a5→p3 a1 a2 a3 a4 a5→p4 a1 a2 a3 a4 a5→p5 a1 a2 a3 a4 a5→G):G:=h.elim fun a1 h=>h.elim fun a2 h=>h.elim fun a3 h=>h.elim fun a4 h=>h.elim fun a5 h=>k a1 a2 a3 a4 a5 h.1 h.2.1 h.2.2.1 h.2.2.2.1 h.2.2.2.2
theorem ZF{α1:Sort u1}{α2:Sort u2}{α3:Sort u3}{α4:Sort u4}{α5:Sort u5}{p1 p2 p3 p4 p5 p6 p7 p8 p9:α1→α2→α3→α4→α5→Prop}{G:Prop}(h:∃ a1 a2 a3 a4 a5,p1 a1 a2 a3 a4 a5∧p2 a1 a2 a3 a4 a5∧p3 a1 a2 a3 a4 a5∧p4 a1 a2 a3 a4 a5∧p5 a1 a2 a3 a4 a5∧p6 a1 a2 a3 a4 a5∧p7 a1 a2 a3 a4 a5∧p8 a1 a2 a3 a4 a5∧p9 a1 a2 a3 a4 a5)(k:∀ a1 a2 a3 a4 a5,p1 a1 a2 a3 a4 a5→p2 a1 a2 a3 a4 a5→p3 a1 a2 a3 a4 a5→p4 a1 a2 a3 a4 a5→p5 a1 a2 a3 a4 a5→p6 a1 a2 a3 a4 a5→p7 a1 a2 a3 a4 a5→p8 a1 a2 a3 a4 a5→p9 a1 a2 a3 a4 a5→G):G:=h.elim fun a1 h=>h.elim fun a2 h=>h.elim fun a3 h=>h.elim fun a4 h=>h.elim fun a5 h=>k a1 a2 a3 a4 a5 h.1 h.2.1 h.2.2.1 h.2.2.2.1 h.2.2.2.2.1 h.2.2.2.2.2.1 h.2.2.2.2.2.2.1 h.2.2.2.2.2.2.2.1 h.2.2.2.2.2.2.2.2
theorem MC{α1:Sort u1}{α2:Sort u2}{α3:Sort u3}{α4:Sort u4}{α5:Sort u5}{α6:Sort u6}{α7:Sort u7}{p1 p2 p3 p4 p5 p6 p7:α1→α2→α3→α4→α5→α6→α7→Prop}{G:Prop}(h:∃ a1 a2 a3 a4 a5 a6 a7,p1 a1 a2 a3 a4 a5 a6 a7∧p2 a1 a2 a3 a4 a5 a6 a7∧p3 a1 a2 a3 a4 a5 a6 a7∧p4 a1 a2 a3 a4 a5 a6 a7∧p5 a1 a2 a3 a4 a5 a6 a7∧p6 a1 a2 a3 a4 a5 a6 a7∧p7 a1 a2 a3 a4 a5 a6 a7)(k:∀ a1 a2 a3 a4 a5 a6 a7,p1 a1 a2 a3 a4 a5 a6 a7→p2 a1 a2 a3 a4 a5 a6 a7→p3 a1 a2 a3 a4 a5 a6 a7→p4 a1 a2 a3 a4 a5 a6 a7→p5 a1 a2 a3 a4 a5 a6 a7→p6 a1 a2 a3 a4 a5 a6 a7→p7 a1 a2 a3 a4 a5 a6 a7→G):G:=h.elim fun a1 h=>h.elim fun a2 h=>h.elim fun a3 h=>h.elim fun a4 h=>h.elim fun a5 h=>h.elim fun a6 h=>h.elim fun a7 h=>k a1 a2 a3 a4 a5 a6 a7 h.1 h.2.1 h.2.2.1 h.2.2.2.1 h.2.2.2.2.1 h.2.2.2.2.2.1 h.2.2.2.2.2.2
theorem NC{α1:Sort u1}{α2:Sort u2}{α3:Sort u3}{α4:Sort u4}{α5:Sort u5}{α6:Sort u6}{α7:Sort u7}{α8:Sort u8}{α9:Sort u9}{α10:Sort u10}{α11:Sort u11}{p1 p2 p3 p4 p5 p6:α1→α2→α3→α4→α5→α6→α7→α8→α9→α10→α11→Prop}{G:Prop}(h:∃ a1 a2 a3 a4 a5 a6 a7 a8 a9 a10 a11,p1 a1 a2 a3 a4 a5 a6 a7 a8 a9 a10 a11∧p2 a1 a2 a3 a4 a5 a6 a7 a8 a9 a10 a11∧p3 a1 a2 a3 a4 a5 a6 a7 a8 a9 a10 a11∧p4 a1 a2 a3 a4 a5 a6 a7 a8 a9 a10 a11∧p5 a1 a2 a3 a4 a5 a6 a7 a8 a9 a10 a11∧p6 a1 a2 a3 a4 a5 a6 a7 a8 a9 a10 a11)(k:∀ a1 a2 a3 a4 a5 a6 a7 a8 a9 a10 a11,p1 a1 a2 a3 a4 a5 a6 a7 a8 a9 a10 a11→p2 a1 a2 a3 a4 a5 a6 a7 a8 a9 a10 a11→p3 a1 a2 a3 a4 a5 a6 a7 a8 a9 a10 a11→p4 a1 a2 a3 a4 a5 a6 a7 a8 a9 a10 a11→p5 a1 a2 a3 a4 a5 a6 a7 a8 a9 a10 a11→p6 a1 a2 a3 a4 a5 a6 a7 a8 a9 a10 a11→G):G:=h.elim fun a1 h=>h.elim fun a2 h=>h.elim fun a3 h=>h.elim fun a4 h=>h.elim fun a5 h=>h.elim fun a6 h=>h.elim fun a7 h=>h.elim fun a8 h=>h.elim fun a9 h=>h.elim fun a10 h=>h.elim fun a11 h=>k a1 a2 a3 a4 a5 a6 a7 a8 a9 a10 a11 h.1 h.2.1 h.2.2.1 h.2.2.2.1 h.2.2.2.2.1 h.2.2.2.2.2
set_option genInjectivity true in
inductive MK where
 | none
 | int (i:Int)
 | str (s:Str)
 deriving DecidableEq
noncomputable def gS:List String:=["Row","Code","RowCheck","Thing","Text","ListThing","TableThing","Way","Scope","Call","Frame",
 "given","passed","tuck_effect","list_effect","table_effect","send_effect","super_effect","zsuper_effect","yield_effect","class_effect","defined_effect","spreadto_effect","effect_of","is_whole","is_block","is_sort","is_operand","child_of","check_rows",
 "truth","sort_of","takes_in","code_of","op_push","op_pop","op_dup","op_dup2","op_swap","op_tuck","op_self","op_getl","op_setl","op_geti","op_jump","op_jumpif","op_jumpunless","op_jumpnil","op_caught","op_islist","op_istable","parted","op_spreadto","op_listfits","op_listat",
 "op_tablehas","op_tableat","other_pairs","op_tableonly","_law_ops","_law_straight","_law_leaps","_law_wants","_law_box","_law_take","_law_plain","_law_due","_law_drawn","_law_made","_law_other","_law_goes","_law_seen","_law_row_right","_law_lay","_law_op","_law_level","_law_piece",
 "_law_body","_law_bend","_law_ways","_law_step","_law_gone","_law_said","_law_walked","law"]
noncomputable def bS:List String:=["len","isinstance","range","repr","str","abs","max","enumerate","int","bool","tuple","list","ValueError"]
noncomputable def mS:List String:=["__init__","fail","reach","need_form","need_slots","need_child","step","need_catches","run","put","row","pairs","at"]
noncomputable def fS:List String:=["op","a","b","c","line","kind","name","params","slots","rows","catches","children","starts","number","code","seen","depths","waiting","owner","fields","own","frozen","ident",
 "text","items","spare","sort","value","tag","outer","self_value","entry","args","block","nesting","definer","is_lambda","sight","scope","pc","stack","call","proc","waits","after","held"]
noncomputable def nm(l:List String)(i:Nat):Str:=Str.ofString (l.getD i "")
noncomputable abbrev gN:=nm gS
noncomputable abbrev bN:=nm bS
noncomputable abbrev mN:=nm mS
noncomputable abbrev fN:=nm fS
inductive Ag where
 | tup
 | lst
 | obj (c:Nat) (ns:List Nat)
 | ds (ss:List Str)
 | dt (kk:List (List MK))
inductive V where
 | none
 | bool (b:Bool)
 | int (i:Int)
 | str (s:Str)
 | ref (k:Nat)
 | a (K:Ag) (xs:List V)
 | g (x:Nat)
 | b (x:Nat)
 | m (c x:Nat)
 | raw (a:Addr)
noncomputable def Si:List (List Nat):=[[0],[0],[0,1,2,3,4,5,6,7,8],[0],[0],[0],[0,9,10,11],[0],[0,12],[0],[0]]
noncomputable def oh(c x:Nat):Bool:=(Si.getD c []).contains x
noncomputable def vs(s:Str):V := .str s
noncomputable def vt(l:List V):V := .a .tup l
noncomputable def aG:List (Str×V) :=
 let t (a b:Int):=vt [.int a,.int b]
 [(⟨#[112,117,115,104]⟩,t 0 1),(⟨#[116,101,120,116]⟩,t 0 1),(⟨#[112,111,112]⟩,t 1 0),(⟨#[100,117,112]⟩,t 1 2),(⟨#[100,117,112,50]⟩,t 2 4),(⟨#[115,119,97,112]⟩,t 2 2),(⟨#[116,117,99,107]⟩,.g 13),(⟨#[115,101,108,102]⟩,t 0 1),(⟨#[103,101,116,108]⟩,t 0 1),(⟨#[115,101,116,108]⟩,t 1 0),(⟨#[103,101,116,105]⟩,t 0 1),(⟨#[115,101,116,105]⟩,t 1 0),(⟨#[103,101,116,103]⟩,t 0 1),(⟨#[115,101,116,103]⟩,t 1 0),(⟨#[103,101,116,99]⟩,t 0 1),(⟨#[103,101,116,99,105,110]⟩,t 1 1),(⟨#[115,101,116,99]⟩,t 1 0),(⟨#[108,105,115,116]⟩,.g 14),(⟨#[97,112,112,101,110,100]⟩,t 2 1),(⟨#[106,111,105,110,108,105,115,116,115]⟩,t 2 1),(⟨#[115,112,114,101,97,100]⟩,t 1 1),(⟨#[116,97,98,108,101]⟩,.g 15),
  (⟨#[114,97,110,103,101]⟩,t 2 1),(⟨#[116,111,116,101,120,116]⟩,t 1 1),(⟨#[116,101,120,116,115]⟩,.g 14),(⟨#[115,101,110,100]⟩,.g 16),(⟨#[115,117,112,101,114]⟩,.g 17),(⟨#[122,115,117,112,101,114]⟩,.g 18),(⟨#[121,105,101,108,100]⟩,.g 19),(⟨#[106,117,109,112]⟩,t 0 0),(⟨#[106,117,109,112,105,102]⟩,t 1 0),(⟨#[106,117,109,112,117,110,108,101,115,115]⟩,t 1 0),(⟨#[106,117,109,112,110,105,108]⟩,t 1 1),(⟨#[108,97,109,98,100,97]⟩,t 0 1),(⟨#[100,101,102]⟩,t 0 1),(⟨#[115,100,101,102]⟩,t 1 1),(⟨#[99,108,97,115,115]⟩,.g 20),(⟨#[109,111,100,117,108,101]⟩,t 0 1),(⟨#[115,99,108,97,115,115]⟩,t 1 1),(⟨#[97,108,105,97,115]⟩,t 0 1),(⟨#[117,110,100,101,102]⟩,t 0 1),(⟨#[108,101,97,118,101]⟩,t 1 0),(⟨#[111,117,116]⟩,t 1 0),(⟨#[97,103,97,105,110]⟩,t 1 0),
  (⟨#[99,97,117,103,104,116]⟩,t 1 1),(⟨#[115,101,116,99,97,117,103,104,116]⟩,t 1 0),(⟨#[100,101,102,105,110,101,100]⟩,.g 21),(⟨#[115,112,114,101,97,100,116,111]⟩,.g 22),(⟨#[114,101,115,112,111,110,100]⟩,t 1 1),(⟨#[105,115,108,105,115,116]⟩,t 1 1),(⟨#[105,115,116,97,98,108,101]⟩,t 1 1),(⟨#[108,105,115,116,102,105,116,115]⟩,t 1 1),(⟨#[108,105,115,116,97,116]⟩,t 1 1),(⟨#[108,105,115,116,112,97,114,116]⟩,t 1 1),(⟨#[116,97,98,108,101,104,97,115]⟩,t 1 1),(⟨#[116,97,98,108,101,97,116]⟩,t 1 1),(⟨#[116,97,98,108,101,114,101,115,116]⟩,t 1 1),(⟨#[116,97,98,108,101,111,110,108,121]⟩,t 1 1),(⟨#[110,111,109,97,116,99,104]⟩,t 1 0),(⟨#[98,108,111,99,107,103,105,118,101,110]⟩,t 0 1),(⟨#[102,97,105,108]⟩,t 0 0),(⟨#[98,117,105,108,116,105,110]⟩,t 0 1),(⟨#[110,101,101,100,99,108,97,115,115]⟩,t 1 1),(⟨#[116,111,98,108,111,99,107]⟩,t 1 1),(⟨#[112,97,115,115,105,110,103]⟩,t 1 0)]
noncomputable def cG:List (Str×V):=[(⟨#[112,117,115,104]⟩,⟨#[118]⟩),(⟨#[116,101,120,116]⟩,⟨#[116]⟩),(⟨#[116,117,99,107]⟩,⟨#[99]⟩),(⟨#[103,101,116,108]⟩,⟨#[99,99]⟩),(⟨#[115,101,116,108]⟩,⟨#[99,99]⟩),(⟨#[103,101,116,105]⟩,⟨#[110]⟩),(⟨#[115,101,116,105]⟩,⟨#[110]⟩),(⟨#[103,101,116,103]⟩,⟨#[110]⟩),(⟨#[115,101,116,103]⟩,⟨#[110]⟩),(⟨#[103,101,116,99]⟩,⟨#[110]⟩),(⟨#[103,101,116,99,105,110]⟩,⟨#[110]⟩),(⟨#[115,101,116,99]⟩,⟨#[110]⟩),(⟨#[108,105,115,116]⟩,⟨#[99]⟩),(⟨#[116,97,98,108,101]⟩,⟨#[99]⟩),(⟨#[114,97,110,103,101]⟩,⟨#[102]⟩),(⟨#[116,101,120,116,115]⟩,⟨#[99]⟩),(⟨#[115,101,110,100]⟩,⟨#[110,97,115]⟩),(⟨#[115,117,112,101,114]⟩,⟨#[97,98]⟩),(⟨#[122,115,117,112,101,114]⟩,⟨#[98]⟩),(⟨#[121,105,101,108,100]⟩,⟨#[97]⟩),(⟨#[106,117,109,112]⟩,⟨#[112]⟩),(⟨#[106,117,109,112,105,102]⟩,⟨#[112]⟩),(⟨#[106,117,109,112,117,110,108,101,115,115]⟩,⟨#[112]⟩),(⟨#[106,117,109,112,110,105,108]⟩,⟨#[112]⟩),
 (⟨#[108,97,109,98,100,97]⟩,⟨#[99]⟩),(⟨#[100,101,102]⟩,⟨#[110,99]⟩),(⟨#[115,100,101,102]⟩,⟨#[110,99]⟩),(⟨#[99,108,97,115,115]⟩,⟨#[110,99,102]⟩),(⟨#[109,111,100,117,108,101]⟩,⟨#[110,99]⟩),(⟨#[115,99,108,97,115,115]⟩,⟨#[99]⟩),(⟨#[97,108,105,97,115]⟩,⟨#[110,110]⟩),(⟨#[117,110,100,101,102]⟩,⟨#[110]⟩),(⟨#[111,117,116]⟩,⟨#[115]⟩),(⟨#[100,101,102,105,110,101,100]⟩,⟨#[115,118]⟩),(⟨#[115,112,114,101,97,100,116,111]⟩,⟨#[99,114,99]⟩),(⟨#[114,101,115,112,111,110,100]⟩,⟨#[110]⟩),(⟨#[108,105,115,116,102,105,116,115]⟩,⟨#[99,102]⟩),(⟨#[108,105,115,116,97,116]⟩,⟨#[105]⟩),(⟨#[108,105,115,116,112,97,114,116]⟩,⟨#[99,99]⟩),(⟨#[116,97,98,108,101,104,97,115]⟩,⟨#[118]⟩),(⟨#[116,97,98,108,101,97,116]⟩,⟨#[118]⟩),(⟨#[116,97,98,108,101,114,101,115,116]⟩,⟨#[107]⟩),(⟨#[116,97,98,108,101,111,110,108,121]⟩,⟨#[107]⟩),(⟨#[102,97,105,108]⟩,⟨#[110,116]⟩),(⟨#[98,117,105,108,116,105,110]⟩,⟨#[110]⟩)].map fun p:Str×Str=>(p.1,vs p.2)
noncomputable def iH(l:List (Str×V)):V := .a (.ds (l.map (·.1))) (l.map (·.2))
noncomputable def cS:List String:=["CODE_KINDS","JUMPS","ENDS","DEFINED_ON_TOP","SEND_KINDS","OUT_SORTS","DEFINED_SORTS","CATCH_SORTS","DEEPEST_KEY","MOST_SEEN","EFFECTS","OPERANDS"]
noncomputable def cV:List V:=[vt ([⟨#[109,101,116,104,111,100]⟩,⟨#[98,108,111,99,107]⟩,⟨#[99,108,97,115,115]⟩,⟨#[112,114,111,103,114,97,109]⟩].map vs),vt ([⟨#[106,117,109,112]⟩,⟨#[106,117,109,112,105,102]⟩,⟨#[106,117,109,112,117,110,108,101,115,115]⟩,⟨#[106,117,109,112,110,105,108]⟩].map vs),vt ([⟨#[106,117,109,112]⟩,⟨#[108,101,97,118,101]⟩,⟨#[111,117,116]⟩,⟨#[97,103,97,105,110]⟩,⟨#[110,111,109,97,116,99,104]⟩,⟨#[102,97,105,108]⟩].map vs),vt ([⟨#[109,101,116,104,111,100,95,111,102]⟩,⟨#[99,111,110,115,116,95,111,102]⟩].map vs),vt ([⟨#[99,97,108,108]⟩,⟨#[115,101,108,102]⟩,⟨#[118,97,114]⟩].map vs),vt ([⟨#[98,114,101,97,107]⟩,⟨#[114,101,116,117,114,110]⟩].map vs),
 vt ([⟨#[105,118,97,114]⟩,⟨#[103,118,97,114]⟩,⟨#[99,111,110,115,116]⟩,⟨#[99,111,110,115,116,95,111,102]⟩,⟨#[115,117,112,101,114]⟩,⟨#[121,105,101,108,100]⟩,⟨#[109,101,116,104,111,100]⟩,⟨#[109,101,116,104,111,100,95,111,102]⟩].map vs),vt ([⟨#[114,101,115,99,117,101]⟩,⟨#[101,110,115,117,114,101]⟩].map vs),.int 12,.int 20000,iH aG,iH cG]
noncomputable def Iv(c x:Nat):Bool:=c==x||(x==3&&(c==4||c==5||c==6))
noncomputable def Ld(K:Frag)(a:Addr):Bool:=hasDictIn K a&&plainOver K a&&findIn K (.ref a) "__setattr__"==some (some (.builtin "object.__setattr__"))&&plainGet K a ""&&(List.range fS.length).all fun x=>findIn K (.ref a) (fN x)==some none
noncomputable def jc:List String:=["NoneType","bool","int","str","tuple","list","function"]
noncomputable def qh:List String:=["int","bool","str","tuple","list"]
noncomputable def gO{α:Type}(b:Bool)(x:α):Option α:=match b with|true=>some x|false=>none
noncomputable abbrev pC:List Value:=[.type "ValueError",.type "Exception",.type "BaseException",.type "object"]
noncomputable abbrev Gt:=Addr→Option Obj
noncomputable def jH:List Addr:=[3,2,1,87,150,410,438,460,480,518,585,614,643,678,39,52,86,149,409,437,459,479,517,584,613,642,677,38,51,161,168,175,182,189,196,203,210,217,224,231,238,303,313,320,327,334,341,421,547,554,561,567,689,696,703,710,717,724,731,738,745,752,759,766,773,780,787,794,801,806,813,820,827,834,841,846,853,860,867,874,881,888,895,902,909,916,921,928,935,940,945,952,959,966,973,980,985,990,995,1000,1005,1012,1019,77,133,355,435,457,477,496,503,515,582,604,611,633,661,369,374,381,388,395,400,407,510,362,36]
noncomputable def Gz:List Addr:=[21,36,77,84,105,112,133,140,147,161,168,175,182,189,196,203,210,217,224,231,238,303,313,320,327,334,341,355,362,369,374,381,388,395,400,407,421,435,457,477,496,503,510,515,535,547,554,561,567,582,604,611,633,640,661,668,675,689,696,703,710,717,724,731,738,745,752,759,766,773,780,787,794,801,806,813,820,827,834,841,846,853,860,867,874,881,888,895,902,909,916,921,928,935,940,945,952,959,966,973,980,985,990,995,1000,1005,1012,1019]
noncomputable def kL:List Nat:=[11,20,22,25,26,46,57,58,59,60,61,62,63,64,65,66,67,68,69,70,71,72,73,75,76,77,78,79,81,83,84,85,90,96,107,21,36,45,48,74,80,82,86,87,88,89,91,92,93,94,95,97,98,99,100,101,102,103,104,105,106,2,6,27,37,38,39,40,41,43,49,50,51,52,54,29,30,31,32,33,34,35,42,37]
noncomputable def DH:List String:=["__name__","__doc__","__package__","__loader__","__spec__","__annotations__","__builtins__","__file__","__cached__","_wall","GemError","BadRows","CODE_KINDS","CATCH_SORTS","SEND_KINDS","OUT_SORTS","JUMPS","ENDS","DEFINED_ON_TOP","DEFINED_SORTS","Row","Catch","Code","given","passed","tuck_effect","list_effect","table_effect","send_effect","super_effect","zsuper_effect","yield_effect","class_effect","defined_effect","spreadto_effect","EFFECTS","effect_of","OPERANDS","is_whole","is_block","is_sort","is_operand","child_of","RowCheck","check_rows","DEEPEST_KEY","MOST_SEEN","Thing","Text","ListThing","TableThing","RangeThing","truth","sort_of","takes_in","code_of","Way","Scope","Call","Frame","op_push","op_pop","op_dup","op_dup2","op_swap","op_tuck","op_self","op_getl","op_setl","op_geti","op_jump","op_jumpif","op_jumpunless","op_jumpnil","op_caught","op_islist","op_istable","parted","op_spreadto","op_listfits","op_listat","op_tablehas","op_tableat","other_pairs","op_tableonly","_law_ops","_law_straight","_law_leaps","_law_wants","_law_box","_law_take","_law_plain","_law_due","_law_drawn","_law_made","_law_other","_law_goes","_law_seen","_law_row_right","_law_lay","_law_op","_law_level","_law_piece","_law_body","_law_bend","_law_ways","_law_step","_law_gone","_law_said","_law_walked","law"]
noncomputable def kr:List Nat:=[20,22,43,47,48,49,50,56,57,58,59,23,24,25,26,27,28,29,30,31,32,33,34,36,38,39,40,41,42,44,52,53,54,55,60,61,62,63,64,65,66,67,68,69,70,71,72,73,74,75,76,77,78,79,80,81,82,83,84,85,86,87,88,89,90,91,92,93,94,95,96,97,98,99,100,101,102,103,104,105,106,107,108,109,110]
noncomputable def Ti:List Nat:=[12,16,17,18,14,15,19,13,45,46,35,37]
noncomputable def I8:Value→Option Addr
 | .ref a=>some a
 | _=>none
noncomputable def xy:Value→Option Int
 | .int i _=>some i
 | _=>none
noncomputable def jd:Value→Option Str
 | .str s _=>some s
 | _=>none
noncomputable def mr(o:Obj):Option (Array Value):=match o.data with
 | .seq its _=>gO (o.cls == .type "tuple") its
 | _=>none
noncomputable def Bn(o:Obj):Option (Array DictEntry):=match o.data with
 | .dict es _=>gO (o.cls == .type "dict"&&o.dict.isNone&&o.slots==#[]) es
 | _=>none
noncomputable def qr(o:Obj):Option FuncData:=match o.data with
 | .func f=>some f
 | _=>none
noncomputable def yy(o:Obj):Option ClassData:=match o.data with
 | .cls c=>some c
 | _=>none
noncomputable def zy(o:Obj):Option (Array Value):=match o.data with
 | .fields vs=>some vs
 | _=>none
noncomputable def OC(o:Obj):Option (List DictEntry):=match o.data with
 | .dict es _=>some es.toList
 | _=>none
noncomputable def rr(γ:Gt)(as:List Addr):Frag:=as.map fun a=>(a,(γ a).getD default)
noncomputable def Kg(γ:Gt):Frag:=rr γ jH
noncomputable def kc(γ:Gt):List DictEntry:=((γ mainGlobals).bind OC).getD []
noncomputable def Qk(γ:Gt)(p:Option Nat):Option Value:=(p.bind fun p=>(kc γ)[p]?).map (·.val)
noncomputable def mc(γ:Gt)(x:Nat):Option Addr:=(Qk γ kr[x]?).bind I8
noncomputable def tF(γ:Gt)(v:V)(r:Value):Bool:=match v with
 | .none=>r == .none
 | .bool b=>r == .bool b
 | .int i=>(xy r).any (·==i)
 | .str s=>(jd r).any (·==s)
 | .g x=>Nat.blt x gS.length&&(I8 r).any fun a=>mc γ x==some a
 | _=>false
noncomputable def jb{α β:Type}(f:α→β→Bool):List α→List β→Bool
 | [],[]=>true
 | x::xs,y::ys=>f x y&&jb f xs ys
 | _,_=>false
noncomputable def Jv(γ:Gt)(v:V)(r:Value):Bool:=match v with
 | .a A xs=>(match A with
  | .tup=>(I8 r).any fun a=>(γ a).any fun o=>(mr o).any fun its=>jb (tF γ) xs its.toList&&Nat.ble its.toList.length 1000000
  | _=>false)
 | v=>tF γ v r
noncomputable def kH(γ:Gt)(v:V)(r:Value):Bool:=match v with
 | .a A xs=>(match A with
  | .ds ss=>(I8 r).any fun a=>!(a==sysModules)&&(γ a).any fun o=>(Bn o).any fun es=>jb (fun s e=>(jd e.key).any (·==s)) ss es.toList&&jb (Jv γ) xs (es.toList.map (·.val))
  | A=>Jv γ (.a A xs) r)
 | v=>tF γ v r
noncomputable def PC:Option (Option Value)→Bool
 | some none=>true
 | _=>false
noncomputable def RC(f:Addr):Option CFound→Bool
 | some (.val v)=>v == .ref f
 | _=>false
noncomputable def Hz(γ:Gt)(code:Value)(q:Str):Bool:=(I8 code).any fun c=>(γ c).any fun o=>(zy o).any fun vs=>(vs[1]?).any fun v=>(jd v).any (·==q)
noncomputable def SC(γ:Gt)(df:List V)(d:Value):Bool:=(d == .none&&df.isEmpty)||(I8 d).any fun a=>(γ a).any fun o=>(mr o).any fun its=>jb (Jv γ) df its.toList
noncomputable def lH(γ:Gt)(df:List V)(a:Addr):Bool:=(γ a).any fun o=>(qr o).any fun f=>f.globals==mainGlobals&&f.builtins==builtinsNs&&f.closure.isEmpty&&Hz γ f.code f.qualname&&SC γ df f.defaults
noncomputable abbrev Iz:=Arguments×FuncBody×Scope
noncomputable def rh(γ:Gt)(a:Addr):Option Iz:=((γ a).bind qr).map fun f=>(f.params,f.body,f.scope)
noncomputable def TC:Stmt→Option Iz
 | .FunctionDef _ a b _ _ _ sc _ _ _=>some (a,.stmts b,sc)
 | _=>none
noncomputable def EH:Stmt→List Iz
 | .ClassDef _ _ _ b _ _ _ _ _ _ _=>b.filterMap TC
 | s=>(TC s).toList
noncomputable def Ay:List Iz:=pw.main.body.flatMap EH
noncomputable def FH:Nat→List V
 | 29=>[.a .tup []]
 | 33=>[.int 12,.none]
 | _=>[]
noncomputable def GH:Nat→List V
 | 0=>[.none,.none,.none,.int 0]
 | 64=>[.str ⟨#[]⟩]
 | 80=>[.none]
 | 112=>[.none]
 | 128=>[.none]
 | 144=>[.bool false]
 | _=>[]
noncomputable def UC:List (V×List V):=(([13,22,24,27,28,31,34,35,36,37,38,39,40,41,42,43,44,45,46,47,48,49,50,52,53,54,55,56,58,60,61,62,67,73,84,23,29,30,33,51,57,59,63,64,65,66,68,69,70,71,72,74,75,76,77,78,79,80,81,82,83]:List Nat).map fun x=>(.g x,FH x))++((([0,16,32,48,64,80,96,105,107,112,128,140,144,160,34,35,36,37,38,39,40,106]:List Nat).map fun p=>(.m (p / 16) (p % 16),GH p))++[(.m 3 0,[])])
noncomputable def Kv(γ:Gt)(a:Addr)(x:Str):Option Addr:=(findIn (Kg γ) (.ref a) x).join.bind I8
noncomputable def VC(γ:Gt):V→Option Addr
 | .g x=>mc γ x
 | .m c x=>(mc γ c).bind fun a=>Kv γ a (mN x)
 | _=>none
noncomputable def ie(γ:Gt)(k:Nat)(df:List V)(a:Addr):Bool:=(Gz[k]?).any (Nat.beq a)&&lH γ df a
noncomputable def Xf(γ:Gt):Bool:=jb (fun (p:V×List V) k=>(VC γ p.1).any (ie γ k p.2)) UC kL
noncomputable def dG(γ:Gt)(c:Nat):Bool:=(mc γ c).any fun a=>Ld (Kg γ) a&&makesIn (Kg γ) a&&readsIn (Kg γ) a (.type "type")&&(specialIn (Kg γ) (.ref a) "__getattribute__"==some (some (.builtin "type.__getattribute__"))) &&
 (Si.getD c []).all fun x=>(Kv γ a (mN x)).any fun f=>isFn (Kg γ) (.ref f)&&keepIn (Kg γ) (.ref f)&&RC f (findCls (Kg γ) (.ref a) (.type "type") (mN x))
noncomputable def fG(γ:Gt)(c:Nat):Bool:=(mc γ c).any fun a=>jc.all (fun T=>kitOne (Kg γ) (.type T) (.ref a)==some false)&&qh.all (fun U=>kitOne (Kg γ) (.ref a) (.type U)==some false) &&
 (List.range 11).all (fun y=>(mc γ y).any fun b=>kitOne (Kg γ) (.ref a) (.ref b)==some (Iv c y))&&plainGet (Kg γ) a "__class__"&&hasDictIn (Kg γ) a&&findIn (Kg γ) (.ref a) "__class__"==some (some (.builtin "object.__class__"))&&mroIn (Kg γ) a (.type "object")==some true
noncomputable def IH:Option CFound→Bool
 | some (.val v)=>v == .builtin "ValueError.__init__"
 | _=>false
noncomputable def WC(γ:Gt)(cls:Addr):Bool:=keepIn (Kg γ) (.ref cls)&&exmOne (Kg γ) (.ref cls) (.ref cls)==some true&&PC (findIn (Kg γ) (.ref cls) "reason")&&findIn (Kg γ) (.ref cls) "__setattr__"==some (some (.builtin "object.__setattr__"))&&IH (findCls (Kg γ) (.type "ValueError") (.type "type") "__init__") &&
 ((Kg γ).lookup cls).any fun o=>o.cls == .type "type"&&(yy o).any fun cd=>cd.hasDict&&!cd.hasDel&&(cd.mro[1]?.bind I8).any (fun G=>cd.mro == .ref cls :: .ref G::pC)&&o.slots.size==6&&o.slots[4]?==some (some (.builtin "ValueError.__new__"))
noncomputable def Jz(γ:Gt):Bool :=
 (List.range gS.length).all (fun x=>(mc γ x).any fun a=>keepIn (Kg γ) (.ref a)&&(Nat.blt x 11||((Kg γ).lookup a).any fun o=>o.cls == .type "function")) &&
 (List.range bS.length).all (fun x=>(bootBuiltins (bN x)).any handedIn) &&
 (cV.zipIdx.all fun p=>(Qk γ Ti[p.2]?).any (kH γ p.1))
noncomputable def qC:V→Option (List Str)
 | .a A _=>(match A with | .ds ss=>some ss|_=>none)
 | _=>none
noncomputable def XC(w:World):List (List Int):=cV.map fun v=>(qC v).elim [] fun ss=>ss.map (hashStr w)
noncomputable def Kz(γ:Gt)(p:Option Nat):List Int:=(((((Qk γ p).bind I8).bind fun a=>γ a).bind Bn).map fun es=>es.toList.map (·.hash)).getD []
noncomputable def YC(γ:Gt):List (List Int):=cV.zipIdx.map fun p=>(qC p.1).elim [] fun Z=>Kz γ Ti[p.2]?
noncomputable def ZC(γ:Gt):Option Addr:=(Qk γ (some 11)).bind I8
noncomputable def uh(γ:Gt):Bool:=Jz γ&&(List.range 11).all (dG γ)&&(List.range 11).all (fG γ)&&(γ sysModules).isSome&&Xf γ&&(VC γ (.m 2 1)).any (ie γ 28 []) &&
 (ZC γ).any fun a=>WC γ a&&(Kv γ a "__init__").any fun f=>isFn (Kg γ) (.ref f)&&ie γ 1 [.str ""] f
noncomputable def Sk:List Str:=DH.map Str.ofString
noncomputable def By:Option Obj→Option Obj
 | some ⟨_,_,.freed,_⟩=>none
 | o=>o
noncomputable def gT(s:SharedT)(a:Addr):Option Obj:=By (match Nat.blt a s.n with|true=>some ((s.tree.get a).getD default)|false=>none)
noncomputable abbrev Al:=Bool×List (List Int)×List (Option Iz)×List (Option Str)
noncomputable def Yg(γ:Gt):Al:=(jH.all (fun a=>(γ a).isSome)&&uh γ,YC γ,Gz.map (rh γ),(kc γ).map fun e=>jd e.key)
noncomputable def Ya(w:World):Al:=(true,XC w,Ay.map some,Sk.map some)
noncomputable def Cy(w:World)(sT:SharedT) :=
 (staticsOk (importedModules pw.main.body) (boot_heap w.params) sT.abs.heap&&namesBound pw sT.abs.heap&&gensDone sT.abs&&laidKept (boot_heap w.params) sT.abs.heap,
  PySem.W.Fast.tw4187177175401517315 qv xa (importedModules pw.main.body) Xt true sT.abs)
noncomputable abbrev qc(w:World):Prop:=∀ os:OsState,(K5 w os).map (Cy w)=some (true,openGood qv xa)
noncomputable abbrev uc(w:World):Prop:=∀ os:OsState,(K5 w os).map (fun sT=>Yg (gT sT))=some (Ya w)
theorem gG:PySem.Challenge.rw_sm0026_01.wellSaid=true:=by
 unfold OpenLaw.wellSaid OpenRow.wellSaid OpenRow.partSaid looksOpen
 simp only [Bool.and_eq_true]
 repeat' (first|refine And.intro ?_ ?_)
 all_goals try rw [PySem.W.Fast.te10501279942588096481]
 all_goals try rw [PySem.W.Fast.te10792542408131684335]
 all_goals try rw [PySem.W.Fast.te11788848310118352699]
 all_goals try rw [PySem.W.Fast.te12749700546528644094]
 all_goals try rw [PySem.W.Fast.te12862048085361865435]
 all_goals try rw [PySem.W.Fast.te12879404354523853263]
 all_goals try rw [PySem.W.Fast.te13343964577679436407]
 all_goals try rw [PySem.W.Fast.te13582783067957832011]
 all_goals try rw [PySem.W.Fast.te14412699480532031325]
 all_goals try rw [PySem.W.Fast.te16286561074155671207]
 all_goals try rw [PySem.W.Fast.te17095254045102204799]
 all_goals try rw [PySem.W.Fast.te17119622794617984870]
 all_goals try rw [PySem.W.Fast.te17691160309236699985]
 all_goals try rw [PySem.W.Fast.te17868728402115742887]
 all_goals try rw [PySem.W.Fast.te18344453789297297638]
 all_goals try rw [PySem.W.Fast.te2357444279172408678]
 all_goals try rw [PySem.W.Fast.te2368527892694137696]
 all_goals try rw [PySem.W.Fast.te3471404346716756564]
 all_goals try rw [PySem.W.Fast.te4274047373036748609]
 all_goals try rw [PySem.W.Fast.te4579403493507170074]
 all_goals try rw [PySem.W.Fast.te482687673346738481]
 all_goals try rw [PySem.W.Fast.te4857012375875476094]
 all_goals try rw [PySem.W.Fast.te5318747976498570220]
 all_goals try rw [PySem.W.Fast.te5923862056798008813]
 all_goals try rw [PySem.W.Fast.te6984425678791042302]
 all_goals try rw [PySem.W.Fast.te7723801398212525404]
 all_goals try rw [PySem.W.Fast.te797321630700447069]
 all_goals try rw [PySem.W.Fast.te8179353310426384613]
 all_goals try rw [PySem.W.Fast.te8326940854005059898]
 all_goals try rw [PySem.W.Fast.te8377067652309620493]
 all_goals try rw [PySem.W.Fast.te9558739934217749035]
 all_goals try rw [PySem.W.Fast.te9572597257264208301]
 all_goals try rw [PySem.W.Fast.te9706382859710513879]
 all_goals try rw [PySem.W.Fast.te9807087744658564304]
 all_goals try rw [PySem.W.Fast.sDec_eq]
 all_goals (as_aux_lemma=>kernel_rfl)
theorem wh:∀ w:World,qc (w.withFollow "special-get-raises" false):=by
 intro w os;kernel_rfl
theorem Ui:∀ w:World,qc (w.withFollow "special-get-raises" true):=by
 intro w os;kernel_rfl
theorem xh:∀ w:World,uc (w.withFollow "special-get-raises" false):=by
 intro w os;kernel_rfl
theorem Vi:∀ w:World,uc (w.withFollow "special-get-raises" true):=by
 intro w os;kernel_rfl
theorem heavy1(w:World):qc w:=byRow2 "special-get-raises" (P:=qc) wh Ui w
theorem heavy2(w:World):uc w:=byRow2 "special-get-raises" (P:=uc) xh Vi w
theorem dI{c:Prop}[d:Decidable c]{f:c→Bool}:dite c f (fun Z=>false)=true→c :=
 d.rec (motive:=fun d=>@dite _ c d f (fun Z=>false)=true→c) (fun Z h=>Bool.noConfusion h) (fun h Z=>h)
noncomputable def MK.is(k:MK)(v:Value):Bool:=match k with
 | .none=>v.ctorIdx==0
 | .int i=>dite (v.ctorIdx=4) (fun h=>Value.int.elim v h fun j Z=>i==j) fun Z=>false
 | .str x=>dite (v.ctorIdx=6) (fun h=>Value.str.elim v h fun y Z=>y==x) fun Z=>false
noncomputable def MK.hash(w:World):MK→Int
 | .none=>reduceHash 0xFCA86420
 | .int i=>hashInt i
 | .str s=>hashStr w s
@[elab_as_elim] theorem MK.el{P:MK→Value→Prop}{k:MK}{v:Value}(h:k.is v=true)(a:P .none .none)(b:∀ i t,P (.int i) (.int i t))(c:∀ x t,P (.str x) (.str x t)):P k v:=by
 induction k using MK.casesOn with
 | none=>exact Value.none.elim (motive:=P .none) v (eq_of_beq h) a
 | int i=>exact Value.int.elim (motive:=fun v=>MK.is (.int i) v=true→P (.int i) v) v (dI h) (fun j t h=>eq_of_beq (show (i==j)=true from h)▸b i t) h
 | str x=>exact Value.str.elim (motive:=fun v=>MK.is (.str x) v=true→P (.str x) v) v (dI h) (fun y t h=>eq_of_beq (show (y==x)=true from h)▸c y t) h
theorem Bp{prog:Program}{w:World}{A:Around}{E:Value→Shared→Prop}{s:Shared}{Q:Int→Shared→Prop}(h:Q (reduceHash 0xFCA86420) { s with toks:=s.toks+1 }):wpAny (model prog w) A (pyHash .none) Q E s :=
 pyHash_slot (T:="NoneType") rfl F.slot_NoneType_hash F.entry_NoneType_hash (F.args_NoneType_hash_1 _) (beq_builtin_none _) (.inl rfl) (wpAny_bind (wpAny_pure (wpAny_bind (wpAny_mkInt (wpAny_pure (W4 _ _ rfl h))))))
set_option tactic.hygienic true in
theorem l6{prog:Program}{w:World}{A:Around}{E:Value→Shared→Prop}{s:Shared}{Q:Bool→Shared→Prop}{u v:Value}{r:Bool}(hne:(u==v)=true→r=true)
  (hf:(match (u,v) with|(.float _ _,.float _ _)=>false|_=>true)=true)
  (h:∀ P:Value→Shared→Prop,P (.bool r) s→wpAny (model prog w) A (compareOp .Eq u v) P E s) (q:Q r s):wpAny (model prog w) A (eqBool u v) Q E s:=by
 unfold eqBool
 refine wpAny_holding ?_
 by_cases hab:(u==v)=true
 ·refine f0 (if_pos hab ..) ?_
  rw [hne hab] at q
  exact wpAny_bind (wpAny_rule (wpAny_pure q))
 ·refine f0 (if_neg hab ..) ?_
  have K5:wpAny (model prog w) A (do truthOfDropped (←richCompare .Eq u v)) Q E s:=by
   have:=h (fun v s'=>v = .bool r∧s'=s) ⟨rfl,rfl⟩
   have h2:wpAny (model prog w) A (richCompare .Eq u v) (fun v s'=>v = .bool r∧s'=s) E s:=this
   refine wpAny_bind (wpAny_mono h2 (fun v s' ⟨e1,e2⟩=>?_) fun Z Z y=>y)
   subst e1;subst e2
   exact wpAny_truthy_bool q
  split
  ·rename_i heq
   rw [heq] at hf;exact Bool.noConfusion hf
  ·exact K5
theorem Mv(i j:Int):decide (MK.int i=MK.int j)=(i==j):=(decide_eq_decide.mpr ⟨MK.int.inj,congrArg _⟩).trans (Bool.beq_eq_decide_eq ..).symm
theorem Nv(i j:Str):decide (MK.str i=MK.str j)=decide (i=j):=decide_eq_decide.mpr ⟨MK.str.inj,congrArg _⟩
noncomputable def Cn(prog:Program)(w:World):KeyKind prog w MK where
 is:=MK.is
 hash:=MK.hash w
 inj:=fun v a b ha hb=>MK.el (P:=fun a v=>b.is v=true→a=b) ha
  (fun h=>match b,h with | .none,_=>rfl | .int _,h=>Bool.noConfusion h | .str _,h=>Bool.noConfusion h)
  (fun i t h=>match b,h with | .int j,h=>congrArg MK.int (eq_of_beq (show (j==i)=true from h)).symm | .none,h=>Bool.noConfusion h | .str _,h=>Bool.noConfusion h)
  (fun i t h=>match b,h with | .str j,h=>congrArg MK.str (eq_of_beq (show (i==j)=true from h)) | .none,h=>Bool.noConfusion h | .int _,h=>Bool.noConfusion h) hb
 byValue:=fun k v h=>MK.el (P:=fun Z v=>carriedByValue v=true) h rfl (fun Z Z=>rfl) fun Z Z=>rfl
 pyHash:=fun {A E s k v Q} h=>MK.el (P:=fun k v=>Q (k.hash w) { s with toks:=s.toks+1 }→wpAny (model prog w) A (pyHash v) Q E s) h Bp (fun Z Z=>wpAny_pyHash_int) fun Z Z=>wpAny_pyHash_str
 eqBool:=fun {A E s a b u v Q} ha hb=>MK.el (P:=fun a u=>Q (decide (a=b)) s→wpAny (model prog w) A (eqBool u v) Q E s) ha
  (MK.el (P:=fun b v=>Q (decide (.none=b)) s→wpAny (model prog w) A (eqBool .none v) Q E s) hb
   (l6 (r:=true) (fun Z=>rfl) rfl fun P p=>EqNone.eq_none_none p) (fun Z Z=>l6 (r:=false) id rfl fun P p=>EqNone.eq_none_int p) fun Z Z=>l6 (r:=false) id rfl fun P p=>EqNone.eq_none_str p)
  (fun i t=>MK.el (P:=fun b v=>Q (decide (.int i=b)) s→wpAny (model prog w) A (eqBool (.int i t) v) Q E s) hb
   (l6 (r:=false) id rfl fun P p=>EqNone.eq_int_none p) (fun j Z q=>wpAny_eqBool_int (Mv i j▸q)) fun Z Z=>l6 (r:=false) id rfl fun P p=>EqMixed.eq_int_str p)
  fun i t=>MK.el (P:=fun b v=>Q (decide (.str i=b)) s→wpAny (model prog w) A (eqBool (.str i t) v) Q E s) hb
   (l6 (r:=false) id rfl fun P p=>EqNone.eq_str_none p) (fun Z Z=>l6 (r:=false) id rfl fun P p=>EqMixed.eq_str_int p) fun j Z q=>wpAny_eqBool_str (by rw [Nv] at q;simpa using q)
 «strs»:=fun k x t v h=>by
  induction k using MK.casesOn with
  | none=>exact Bool.noConfusion h
  | int i=>exact Bool.noConfusion h
  | str y=>refine f0 (eq_of_beq (show (x==y)=true from h) ..) ?_;induction v using Value.casesOn<;>rfl
noncomputable abbrev Zf(w:World):HeapKind pw w (List MK):=tupleKind (Cn pw w)
structure Cx where
 w:World
 K:Frag
 B:Heap
noncomputable abbrev y0:=List (Option V)
noncomputable def A1:y0→Nat→Option V
 | [],_=>none
 | x::_,0=>x
 | _::r,k+1=>A1 r k
noncomputable def R2:y0→Nat→Option V→y0
 | [],0,v=>[v]
 | [],k+1,v=>none::R2 [] k v
 | _::r,0,v=>v::r
 | x::r,k+1,v=>x::R2 r k v
theorem N1:∀ (σ:y0) (k:Nat) (v:Option V),A1 (R2 σ k v) k=v
 | [],0,_=>rfl
 | [],k+1,v=>N1 [] k v
 | _::_,0,_=>rfl
 | _::r,k+1,v=>N1 r k v
theorem T1:∀ (σ:y0) {k j:Nat} (v:Option V),j≠k→A1 (R2 σ k v) j=A1 σ j
 | [],0,0,_,h=>absurd rfl h
 | [],0,_+1,_,_=>rfl
 | [],k+1,0,_,_=>rfl
 | [],k+1,j+1,v,h=>T1 [] (k:=k) (j:=j) v fun q=>h (q▸rfl)
 | _::_,0,0,_,h=>absurd rfl h
 | _::_,0,_+1,_,_=>rfl
 | _::_,k+1,0,_,_=>rfl
 | _::r,k+1,j+1,v,h=>T1 r v fun q=>h (q▸rfl)
structure St where
 al:Nat→Addr
 dl:Nat→Addr
 σ:y0
 ow:Addr→Prop
 sl:Addr→Prop
noncomputable def St.live(t:St)(k:Nat):Prop:=∃ v,A1 t.σ k=some v
noncomputable def St.cel(t:St)(b:Addr):Prop:=∃ k,t.live k∧(b=t.al k∨b=t.dl k)
noncomputable def St.foot(t:St)(b:Addr):Prop:=t.ow b∨t.cel b
noncomputable def P8(C:Cx)(c:Nat)(a:Addr):Prop:=c<11∧nsIn C.K mainGlobals (gN c)=some (some (.ref a))
noncomputable def Cp(C:Cx)(a:Addr):Prop:=nsIn C.K mainGlobals "BadRows"=some (some (.ref a))
noncomputable def Sh(C:Cx)(h:Heap)(a d:Addr)(rs:List Value):Ag→Prop
 | .tup=>d=a∧∃ its,IsTup h a its∧its.toList=rs∧rs.length≤1000000
 | .lst=>d=a∧∃ its n,h.get? a=some (listOf its n)∧its.toList=rs∧rs.length≤1000000
 | .obj c ns=>∃ ca,P8 C c ca∧h.get? a=some (instObj ca d)∧∃ kvs,h.DictOf (strKind pw C.w) d kvs∧kvs.map (·.1)=ns.map fN∧kvs.map (·.2)=rs
 | .ds ss=>d=a∧(a==sysModules)=false∧∃ kvs,h.DictOf (strKind pw C.w) a kvs∧kvs.map (·.1)=ss∧kvs.map (·.2)=rs
 | .dt kk=>d=a∧(a==sysModules)=false∧∃ xs,h.DictOfH (Zf C.w) a xs∧xs.map (·.1)=kk∧xs.map (·.2.2)=rs
mutual
noncomputable def G0(C:Cx)(t:St)(h:Heap):V→Value→Prop
 | .none,r=>r = .none
 | .bool b,r=>r = .bool b
 | .int i,r=>∃ t,r = .int i t
 | .str s,r=>∃ t,r = .str s t
 | .ref k,r=>t.live k∧r = .ref (t.al k)
 | .a K xs,r=>∃ a d rs,r = .ref a∧¬t.foot a∧¬t.foot d∧Sh C h a d rs K∧E0 C t h xs rs
 | .g x,r=>x<gS.length∧nsIn C.K mainGlobals (gN x)=some (some r)
 | .b x,r=>x<bS.length∧bootBuiltins (bN x)=some r
 | .m c x,r=>oh c x=true∧∃ a,P8 C c a∧findIn C.K (.ref a) (mN x)=some (some r)
 | .raw a,r=>r = .ref a
noncomputable def E0(C:Cx)(t:St)(h:Heap):List V→List Value→Prop
 | [],rs=>rs=[]
 | x::xs,rs=>∃ r rt,rs=r::rt∧G0 C t h x r∧E0 C t h xs rt
end
noncomputable def Y4(o:Obj):Prop:=∀ vs,o.data ≠ .fields vs
theorem U2{o:Obj}{es:Array DictEntry}{n:Nat}(e:o.data = .dict es n):Y4 o:=fun Z q=>Data.noConfusion (e.symm.trans q)
theorem J4{o:Obj}{es:Array Value}{n:Nat}(e:o.data = .seq es n):Y4 o:=fun Z q=>Data.noConfusion (e.symm.trans q)
theorem je{o:Obj}(e:o.data = .plain):Y4 o:=fun Z q=>Data.noConfusion (e.symm.trans q)
theorem xc{C:Cx}{h h':Heap}{a:Addr}{kvs:List (Str×Value)}(k:∀ o,h.get? a=some o→Y4 o→h'.get? a=some o)(x:h.DictOf (strKind pw C.w) a kvs):h'.DictOf (strKind pw C.w) a kvs :=
 x.imp fun Z x=>x.imp fun Z x=>x.imp fun Z z=>⟨k _ z.1 (U2 z.2.2.1),z.2⟩
noncomputable def Wi(o:Obj):Prop:=o.cls = .type "tuple"∧∃ its n,o.data = .seq its n
theorem Sh.obj{C:Cx}{h h':Heap}{a d:Addr}{rs:List Value}(K:Ag)(x:Sh C h a d rs K)(k:∀ b o,h.get? b=some o→Y4 o→(b=a∨b=d∨Wi o)→h'.get? b=some o):Sh C h' a d rs K:=by
 induction K using Ag.casesOn with
 | tup=>exact ⟨x.1,x.2.imp fun Z z=>⟨z.1.imp fun Z y=>⟨k _ _ y.1 (y.2.2.elim fun Z=>J4) (.inl rfl),y.2⟩,z.2⟩⟩
 | lst=>exact ⟨x.1,x.2.imp fun Z z=>z.imp fun Z y=>⟨k _ _ y.1 (J4 rfl) (.inl rfl),y.2⟩⟩
 | obj c ns=>exact x.imp fun Z y=>V0 y.1 (k _ _ y.2.1 (je rfl) (.inl rfl)) (y.2.2.imp fun Z z=>⟨xc (fun o e n=>k _ o e n (.inr (.inl rfl))) z.1,z.2⟩)
 | ds ss=>exact V0 x.1 x.2.1 (x.2.2.imp fun Z z=>⟨xc (fun o e n=>k _ o e n (.inl rfl)) z.1,z.2⟩)
 | dt kk=>exact V0 x.1 x.2.1 (x.2.2.imp fun Z z=>⟨z.1.imp fun Z x=>x.imp fun Z x=>x.imp fun Z y=>BC (k _ _ y.1 (U2 y.2.2.1) (.inl rfl)) y.2.1 y.2.2.1 y.2.2.2.1 (fun p hp=>(y.2.2.2.2.1 p hp).imp fun Z x=>x.imp fun Z x=>x.imp fun Z w=>⟨k _ _ w.1 (J4 w.2.2.1) (.inr (.inr ⟨w.2.1,_,_,w.2.2.1⟩)),w.2⟩) y.2.2.2.2.2,z.2⟩)
theorem Sh.live{C:Cx}{h:Heap}{a d:Addr}{rs:List Value}(K:Ag)(x:Sh C h a d rs K):(∃ o,h.get? a=some o∧Y4 o)∧∃ o,h.get? d=some o∧Y4 o:=by
 induction K using Ag.casesOn with
 | tup=>obtain ⟨rfl,YI⟩:=x;refine A0 YI ?_;(repeat clear YI);intro _ aJ _;refine F1 aJ ?_;(repeat clear aJ);intro o ho _ cJ;obtain ⟨n,hd⟩:=cJ;exact ⟨(C0 o ho (J4 hd)),o,ho,J4 hd⟩
 | lst=>obtain ⟨rfl,eJ⟩:=x;refine Y1 eJ ?_;(repeat clear eJ);intro _ n ho _;exact ⟨(C0 _ ho (J4 rfl)),_,ho,J4 rfl⟩
 | obj c ns=>refine F1 x ?_;(repeat clear x);intro _ _ h1 OI;refine A0 OI ?_;(repeat clear OI);intro _ gJ _;refine R5 gJ ?_;(repeat clear gJ);intro o _ _ ho _ hd _;exact ⟨(C0 _ h1 (je rfl)),o,ho,U2 hd⟩
 | ds ss=>refine i4 x ?_;(repeat clear x);intro HI _ MI;obtain rfl:=HI;refine A0 MI ?_;(repeat clear MI);intro _ jJ _;refine R5 jJ ?_;(repeat clear jJ);intro o _ _ ho _ hd _;exact ⟨(C0 o ho (U2 hd)),o,ho,U2 hd⟩
 | dt kk=>refine i4 x ?_;(repeat clear x);intro CI _ EI;obtain rfl:=CI;refine A0 EI ?_;(repeat clear EI);intro _ lJ _;refine R5 lJ ?_;(repeat clear lJ);intro o _ _ ho _ hd _;exact ⟨(C0 o ho (U2 hd)),o,ho,U2 hd⟩
theorem Sh.nt{C:Cx}{h:Heap}{a d:Addr}{rs:List Value}{K:Ag}(x:Sh C h a d rs K)(hK:K ≠ .tup){b:Addr}{o:Obj}(hb:b=a∨b=d)(ho:h.get? b=some o):o.cls ≠ .type "tuple":=by
 have two:∀ {b:Addr} {o o':Obj},h.get? b=some o→h.get? b=some o'→o'.cls ≠ .type "tuple"→o.cls ≠ .type "tuple":=fun e e' n=>Option.some.inj (e.symm.trans e')▸n
 have dd:∀ {b:Addr} {o:Obj},h.get? b=some o→o.ExactDict→o.cls ≠ .type "tuple":=fun Z e q=>by rw [e.1] at q;exact absurd q (by decide)
 induction K using Ag.casesOn with
 | tup=>exact absurd rfl hK
 | lst =>
  obtain ⟨rfl,nJ⟩:=x;refine Y1 nJ ?_;(repeat clear nJ);intro _ n h1 _
  rw [or_self] at hb;subst hb
  exact two ho h1 (show Value.type "list" ≠ .type "tuple" by decide)
 | obj c ns =>
  refine F1 x ?_;(repeat clear x);intro _ _ h1 zI;refine A0 zI ?_;(repeat clear zI);intro _ pJ _;refine q8 pJ ?_;(repeat clear pJ);intro o _ _ h2 ed _
  rcases hb with rfl|rfl
  ·exact two ho h1 nofun
  ·exact two ho h2 (dd h2 ed)
 | ds ss =>
  refine i4 x ?_;(repeat clear x);intro vI _ xI;obtain rfl:=vI;refine A0 xI ?_;(repeat clear xI);intro _ rJ _;refine q8 rJ ?_;(repeat clear rJ);intro o _ _ h2 ed _
  rw [or_self] at hb;subst hb
  exact two ho h2 (dd h2 ed)
 | dt kk =>
  refine i4 x ?_;(repeat clear x);intro rI _ tI;obtain rfl:=rI;refine A0 tI ?_;(repeat clear tI);intro _ tJ _;refine q8 tJ ?_;(repeat clear tJ);intro o _ _ h2 ed _
  rw [or_self] at hb;subst hb
  exact two ho h2 (dd h2 ed)
structure Mo(t:St)(h:Heap)(t':St)(h':Heap):Prop where
 lv:∀ k,t.live k→t'.live k∧t'.al k=t.al k∧t'.dl k=t.dl k
 ft:∀ b o,h.get? b=some o→t'.foot b→t.foot b
 kp:∀ b o,h.get? b=some o→Y4 o→¬t.foot b→h'.get? b=some o
 nt:∀ b o,h.get? b=some o→Wi o→¬t.foot b
mutual
theorem G0.go{C:Cx}{t t':St}{h h':Heap}(m:Mo t h t' h'):∀ (v:V) {r:Value},G0 C t h v r→G0 C t' h' v r
 | .none,_,e=>e
 | .bool _,_,e=>e
 | .int _,_,e=>e
 | .str _,_,e=>e
 | .ref k,_,e=>⟨(m.lv k e.1).1,(m.lv k e.1).2.1▸e.2⟩
 | .a K xs,_,e=>e.imp fun a x=>x.imp fun d x=>x.imp fun rs z=>by
   refine Hv z ?_;(repeat clear z);intro e na nd sh vr
   obtain ⟨vJ,xJ⟩:=sh.live;refine A0 vJ ?_;(repeat clear vJ);intro oa ha _;refine A0 xJ ?_;(repeat clear xJ);intro od hd _
   refine Yq e (fun q=>na (m.ft _ _ ha q)) (fun q=>nd (m.ft _ _ hd q)) (sh.obj _ fun b o ho hn c=>m.kp b o ho hn ?_) (E0.go m xs vr)
   rcases c with rfl|rfl|c
   ·exact na
   ·exact nd
   ·exact m.nt _ _ ho c
 | .g _,_,e=>e
 | .b _,_,e=>e
 | .m _ _,_,e=>e
 | .raw _,_,e=>e
theorem E0.go{C:Cx}{t t':St}{h h':Heap}(m:Mo t h t' h'):∀ (v:List V) {r:List Value},E0 C t h v r→E0 C t' h' v r
 | [],_,e=>e
 | x::xs,_,e=>e.imp fun Z e=>e.imp fun Z z=>V0 z.1 (G0.go m x z.2.1) (E0.go m xs z.2.2)
end
structure Y0(C:Cx)(t:St)(h:Heap):Prop where
 cell:∀ k v,A1 t.σ k=some v→∃ K xs rs,v = .a K xs∧K ≠ .tup∧Sh C h (t.al k) (t.dl k) rs K∧E0 C t h xs rs
 own:∀ b,t.foot b→C.B.get? b=none
 sep:∀ k k',t.live k→t.live k'→k≠k'→t.al k≠t.al k'∧t.al k≠t.dl k'∧t.dl k≠t.dl k'
 apart:∀ b,t.ow b→¬t.cel b
 base:∀ b o,C.B.get? b=some o→h.get? b=some o
 sub:∀ b,t.sl b→t.ow b
noncomputable def U1(t:St)(h:Heap):Prop:=∀ b,t.ow b→∃ o,h.get? b=some o∧Y4 o∧¬Wi o
theorem Q5{α:Type}{x:Option α}{v:α}{P:Prop}(a:x=none)(b:x=some v):P:=absurd (a.symm.trans b) nofun
noncomputable abbrev no:Addr→Prop:=fun Z=>False
structure Tr(C:Cx)(ex:Addr→Prop)(t:St)(h:Heap)(t':St)(h':Heap):Prop where
 rel:Y0 C t' h'
 keep:∀ b o,h.get? b=some o→¬t.cel b→¬ex b→∃ o',h'.get? b=some o'∧(¬t.sl b→o'=o)∧o'.cls=o.cls∧o'.data=o.data
 grow:∀ b,t'.cel b→t.cel b∨h.get? b=none
 alive:∀ b o,h.get? b=some o→∃ o',h'.get? b=some o'
 lv:∀ k,t.live k→t'.live k∧t'.al k=t.al k∧t'.dl k=t.dl k
 ow:t'.ow=t.ow
 sl:t'.sl=t.sl
section
variable{C:Cx}{ex ex':Addr→Prop}{t t' t'':St}{h h' h'':Heap}
theorem Y0.at(R:Y0 C t h){k:Nat}(l:t.live k):∃ K rs,K ≠ .tup∧Sh C h (t.al k) (t.dl k) rs K :=
 l.elim fun v e=>by
  refine R5 (R.cell k v e) fun K xs rs Z n sh Z=>?_
  exact W4 K rs n sh
theorem Y0.celA(R:Y0 C t h){b:Addr}(f:t.cel b):∃ o,h.get? b=some o∧Y4 o:=by
 refine A0 f ?_;(repeat clear f);intro k l e
 refine Y1 (R.at l) fun K rs n sh=>?_
 rcases e with rfl|rfl
 ·exact sh.live.1
 ·exact sh.live.2
theorem Y0.nt(R:Y0 C t h)(O:U1 t h)(b:Addr)(o:Obj)(e:h.get? b=some o)(i:Wi o)(f:t.foot b):False:=by
 rcases f with f|⟨k,l,q⟩
 ·refine F1 (O b f) fun o' e' Z n=>?_
  exact n (Option.some.inj (e'.symm.trans e)▸i)
 ·refine Y1 (R.at l) fun K rs n sh=>?_
  exact sh.nt n q e i.1
theorem Tr.mo(T:Tr C ex t h t' h')(hx:∀ b,ex b→t.ow b)(R:Y0 C t h)(O:U1 t h):Mo t h t' h' where
 lv:=T.lv
 ft b o e f:=f.elim (fun f => .inl (T.ow▸f)) fun f=>(T.grow b f).elim .inr fun q=>Q5 q e
 kp b o e _ nf:=by
  refine F1 (T.keep b o e (fun f=>nf (.inr f)) fun q=>nf (.inl (hx b q))) ?_;(repeat clear q);intro o' e' q _
  exact q (fun f=>nf (.inl (R.sub b f)))▸e'
 nt:=R.nt O
theorem Tr.refl(R:Y0 C t h):Tr C ex t h t h:=⟨R,fun Z o e Z Z=>i5 o e (fun Z=>rfl) rfl rfl,fun Z f => .inl f,fun Z o e=>⟨o,e⟩,fun Z l=>V0 l rfl rfl,rfl,rfl⟩
theorem Tr.ncel(T:Tr C ex t h t' h'){b:Addr}{o:Obj}(e:h.get? b=some o)(n:¬t.cel b):¬t'.cel b:=fun f=>(T.grow b f).elim n fun q=>Q5 q e
theorem Tr.trans(x:Tr C ex t h t' h')(y:Tr C ex t' h' t'' h''):Tr C ex t h t'' h'' where
 rel:=y.rel
 keep b o e nf ne:=by
  refine fe (x.keep b o e nf ne) fun o1 e1 q1 c1 d1=>?_
  refine fe (y.keep b o1 e1 (x.ncel e nf) ne) fun o2 e2 q2 c2 d2=>?_
  exact i5 o2 e2 (fun n=>(q2 (x.sl▸n)).trans (q1 n)) (c2.trans c1) (d2.trans d1)
 grow b f:=(y.grow b f).elim (x.grow b) fun q => .inr (by
  cases e:h.get? b with
  | none=>rfl
  | some o=>exact (x.alive b o e).elim fun o' e'=>Q5 q e')
 alive b o e:=(x.alive b o e).elim fun o' e'=>y.alive b o' e'
 lv k l:=by
  refine i4 (x.lv k l) fun l1 a1 d1=>?_
  refine i4 (y.lv k l1) fun l2 a2 d2=>?_
  exact V0 l2 (a2.trans a1) (d2.trans d1)
 ow:=y.ow.trans x.ow
 sl:=y.sl.trans x.sl
theorem Tr.weaken(T:Tr C ex t h t' h')(w:∀ b,ex b→ex' b):Tr C ex' t h t' h':=⟨T.rel,fun b o e f n=>T.keep b o e f fun q=>n (w b q),T.grow,T.alive,T.lv,T.ow,T.sl⟩
theorem Tr.of0(T:Tr C no t h t' h'):Tr C ex t h t' h':=T.weaken fun Z=>False.elim
theorem U1.tr(O:U1 t h)(R:Y0 C t h)(T:Tr C ex t h t' h')(hx:∀ b,ex b→∃ o,h'.get? b=some o∧Y4 o∧¬Wi o):U1 t' h':=fun b f=>by
 by_cases z:ex b
 ·exact hx b z
 ·have f:t.ow b:=T.ow▸f
  refine F1 (O b f) fun o e n ns=>?_
  refine fe (T.keep b o e (R.apart b f) z) fun o' e' Z c d=>?_
  exact A2 o' e' (fun vs=>d▸n vs) (fun i=>ns ⟨c▸i.1,d▸i.2⟩)
theorem U1.tr0(O:U1 t h)(R:Y0 C t h)(T:Tr C no t h t' h'):U1 t' h':=O.tr R T fun Z=>False.elim
theorem G0.tr(R:Y0 C t h)(O:U1 t h)(T:Tr C no t h t' h'){v:V}{r:Value}(x:G0 C t h v r):G0 C t' h' v r:=x.go (T.mo (fun Z=>False.elim) R O) v
theorem E0.tr(R:Y0 C t h)(O:U1 t h)(T:Tr C no t h t' h'){v:List V}{r:List Value}(x:E0 C t h v r):E0 C t' h' v r:=x.go (T.mo (fun Z=>False.elim) R O) v
theorem Mo.more(R:Y0 C t h)(O:U1 t h)(k:∀ b o,h.get? b=some o→h'.get? b=some o):Mo t h t h':=⟨fun Z l=>V0 l rfl rfl,fun Z Z Z f=>f,fun b o e Z Z=>k b o e,R.nt O⟩
theorem Tr.more(R:Y0 C t h)(O:U1 t h)(k:∀ b o,h.get? b=some o→h'.get? b=some o):Tr C ex t h t h' :=
 ⟨⟨fun j v e=>(R.cell j v e).imp fun K x=>x.imp fun xs x=>x.imp fun rs z=>E3 z.1 z.2.1 (z.2.2.1.obj _ fun b o e Z Z=>k b o e) (z.2.2.2.go (Mo.more R O k) xs),R.own,R.sep,R.apart,(fun b o e=>k _ _ (R.base b o e)),R.sub⟩,
  fun b o e Z Z=>i5 o (k _ _ e) (fun Z=>rfl) rfl rfl,fun Z f => .inl f,fun b o e=>⟨o,k _ _ e⟩,fun Z l=>V0 l rfl rfl,rfl,rfl⟩
theorem Y0.off(R:Y0 C t h){b:Addr}(e:h.get? b=none):C.B.get? b=none:=by
 cases q:C.B.get? b with
 | none=>rfl
 | some o=>exact Q5 e (R.base _ _ q)
theorem Y0.fresh(R:Y0 C t h)(O:U1 t h){b:Addr}(e:h.get? b=none):¬t.foot b:=fun f=>f.elim
 (fun f=>(O b f).elim fun o z=>Q5 e z.1) fun f=>(R.celA f).elim fun o z=>Q5 e z.1
noncomputable def St.new(t:St)(k:Nat)(a d:Addr)(v:V):St:=⟨fun j=>if j=k then a else t.al j,fun j=>if j=k then d else t.dl j,R2 t.σ k (some v),t.ow,t.sl⟩
theorem S7{k j:Nat}{a d:Addr}{v:V}(n:j≠k)(l:(t.new k a d v).live j):t.live j:=l.imp fun Z e=>(T1 t.σ _ n).symm.trans e
theorem Z2{k j:Nat}{a d:Addr}{v:V}(n:j≠k):(t.new k a d v).al j=t.al j∧(t.new k a d v).dl j=t.dl j:=⟨if_neg n,if_neg n⟩
theorem M3{k:Nat}{a d:Addr}{v:V}:(t.new k a d v).al k=a∧(t.new k a d v).dl k=d:=⟨if_pos rfl,if_pos rfl⟩
theorem kb{k:Nat}{a d b:Addr}{v:V}(f:(t.new k a d v).cel b):b=a∨b=d∨t.cel b:=by
 refine A0 f ?_;(repeat clear f);intro j l e
 by_cases n:j=k
 ·subst n;rw [M3.1,M3.2] at e;exact e.elim .inl fun q => .inr (.inl q)
 ·rw [(Z2 n).1,(Z2 n).2] at e;exact .inr (.inr (C0 j (S7 n l) e))
theorem Tr.new(R:Y0 C t h)(O:U1 t h){k:Nat}(dead:A1 t.σ k=none){a d:Addr}(ka:h.get? a=none)(kd:h.get? d=none)(keep:∀ b o,h.get? b=some o→h'.get? b=some o){K:Ag}{xs:List V}{rs:List Value}(hK:K ≠ .tup)
  (sh:Sh C h' a d rs K) (vr:E0 C t h xs rs):Tr C no t h (t.new k a d (.a K xs)) h':=by
 have ne:∀ j,t.live j→j≠k:=fun j l q=>by subst q;exact l.elim fun v e=>Q5 dead e
 have lv:∀ j,t.live j→(t.new k a d (.a K xs)).live j∧(t.new k a d (.a K xs)).al j=t.al j∧(t.new k a d (.a K xs)).dl j=t.dl j:=fun j l=>⟨l.imp fun Z e=>(T1 t.σ _ (ne j l)).trans e,Z2 (ne j l)⟩
 have two:∀ {b c:Addr},h.get? b=none→(∃ o,h.get? c=some o∧Y4 o)→c≠b:=fun e x q=>by subst q;exact x.elim fun o z=>Q5 e z.1
 have m:Mo t h (t.new k a d (.a K xs)) h':=⟨lv,fun b o e f=>f.elim .inl fun f=>(kb f).elim (fun q=>Q5 (q▸ka) e) fun f=>f.elim (fun q=>Q5 (q▸kd) e) .inr,fun b o e Z Z=>keep b o e,R.nt O⟩
 refine ⟨⟨fun j v e=>?_,fun b f=>f.elim (fun f=>R.own b (.inl f)) fun f=>(kb f).elim (fun q=>q▸R.off ka) fun f=>f.elim (fun q=>q▸R.off kd) fun f=>R.own b (.inr f),fun i j li lj n=>?_,fun b f c=>?_,(fun b o e=>keep _ _ (R.base b o e)),R.sub⟩,
  fun b o e Z Z=>i5 o (keep _ _ e) (fun Z=>rfl) rfl rfl,fun b f=>(kb f).elim (fun q => .inr (q▸ka)) fun f=>f.elim (fun q => .inr (q▸kd)) .inl,fun b o e=>⟨o,keep _ _ e⟩,lv,rfl,rfl⟩
 ·by_cases n:j=k
  ·subst n
   obtain rfl:=Option.some.inj ((N1 t.σ j _).symm.trans e)
   exact X4 K xs rs rfl hK (M3.1.symm▸M3.2.symm▸sh) (vr.go m xs)
  ·refine f0 ((Z2 n).1) (f0 ((Z2 n).2) ?_)
   exact (R.cell j v ((T1 t.σ _ n).symm.trans e)).imp fun K x=>x.imp fun xs x=>x.imp fun rs z=>E3 z.1 z.2.1 (z.2.2.1.obj _ fun b o e Z Z=>keep b o e) (z.2.2.2.go m xs)
 ·have liv:∀ j,t.live j→(∃ o,h.get? (t.al j)=some o∧Y4 o)∧∃ o,h.get? (t.dl j)=some o∧Y4 o:=fun j l=>let ⟨_,_,_,sh⟩:=R.at l;sh.live
  by_cases p:i=k
  ·have q:j≠k:=fun q=>n (p.trans q.symm)
   subst p
   refine f0 (M3.1 ..) (f0 (M3.2 ..) (f0 ((Z2 q).1) (f0 ((Z2 q).2) ?_)))
   have z:=liv j (S7 q lj)
   exact V0 ((two ka z.1).symm) ((two ka z.2).symm) ((two kd z.2).symm)
  ·by_cases q:j=k
   ·subst q
    refine f0 (M3.1 ..) (f0 (M3.2 ..) (f0 ((Z2 p).1) (f0 ((Z2 p).2) ?_)))
    have z:=liv i (S7 p li)
    exact V0 (two ka z.1) (two kd z.1) (two kd z.2)
   ·refine f0 ((Z2 p).1) (f0 ((Z2 p).2) (f0 ((Z2 q).1) (f0 ((Z2 q).2) ?_)))
    exact R.sep i j (S7 p li) (S7 q lj) n
 ·refine F1 (O b f) fun o e nn Z=>?_
  exact (kb c).elim (two ka (C0 o e nn)) fun c=>c.elim (two kd (C0 o e nn)) (R.apart b f)
noncomputable def St.put(t:St)(k:Nat)(v:V):St:=⟨t.al,t.dl,R2 t.σ k (some v),t.ow,t.sl⟩
theorem T7{k j:Nat}{v:V}(l:t.live k):(t.put k v).live j↔t.live j:=by
 by_cases n:j=k
 ·subst n;exact ⟨fun Z=>l,fun Z=>⟨v,N1 ..⟩⟩
 ·exact ⟨fun x=>x.imp fun Z e=>(T1 t.σ _ n).symm.trans e,fun x=>x.imp fun Z e=>(T1 t.σ _ n).trans e⟩
theorem Nd{k:Nat}{v:V}(l:t.live k){b:Addr}:(t.put k v).cel b↔t.cel b:=⟨fun x=>x.imp fun Z e=>⟨(T7 l).mp e.1,e.2⟩,fun x=>x.imp fun Z e=>⟨(T7 l).mpr e.1,e.2⟩⟩
theorem Tr.put(R:Y0 C t h)(O:U1 t h){k:Nat}(l:t.live k){b0:Addr}(hb:b0=t.al k∨b0=t.dl k)(sb:Heap.SameBut b0 h h'){K:Ag}{xs:List V}{rs:List Value}(hK:K ≠ .tup)
  (sh:Sh C h' (t.al k) (t.dl k) rs K) (vr:E0 C t h xs rs):Tr C no t h (t.put k (.a K xs)) h':=by
 have c0:t.cel b0:=C0 k l hb
 have keep:∀ b o,h.get? b=some o→¬t.cel b→h'.get? b=some o:=fun b o e n=>(sb.2 b fun q=>n (q▸c0)).trans e
 have m:Mo t h (t.put k (.a K xs)) h':=⟨fun j lj=>V0 ((T7 l).mpr lj) rfl rfl,fun b o e f=>f.elim .inl fun f => .inr ((Nd l).mp f),fun b o e Z n=>keep b o e fun c=>n (.inr c),R.nt O⟩
 refine ⟨⟨fun j v e=>?_,fun b f=>R.own b (f.elim .inl fun f => .inr ((Nd l).mp f)),fun i j li lj n=>R.sep i j ((T7 l).mp li) ((T7 l).mp lj) n,fun b f c=>R.apart b f ((Nd l).mp c),(fun b o e=>keep b o (R.base b o e) fun c=>Q5 (R.own b (.inr c)) e),R.sub⟩,
  fun b o e n Z=>i5 o (keep b o e n) (fun Z=>rfl) rfl rfl,fun b f => .inl ((Nd l).mp f),fun b o e=>?_,fun j lj=>V0 ((T7 l).mpr lj) rfl rfl,rfl,rfl⟩
 ·by_cases n:j=k
  ·subst n
   obtain rfl:=Option.some.inj ((N1 t.σ j _).symm.trans e)
   exact X4 K xs rs rfl hK sh (vr.go m xs)
  ·have e':=(T1 t.σ _ n).symm.trans e
   have lj:t.live j:=⟨v,e'⟩
   refine i4 (R.sep j k lj l n) fun s1 s2 s3=>?_
   refine i4 (R.sep k j l lj (Ne.symm n)) fun Z r2 Z=>?_
   refine (R.cell j v e').imp fun K' x=>x.imp fun xs x=>x.imp fun rs z=>E3 z.1 z.2.1 (z.2.2.1.obj _ fun b o e Z c=>(sb.2 b fun q=>?_).trans e) (z.2.2.2.go m xs)
   subst q
   rcases c with rfl|rfl|c
   ·exact hb.elim s1 s2
   ·exact hb.elim (Ne.symm r2) s3
   ·exact R.nt O b o e c (.inr c0)
 ·by_cases q:b=b0
  ·subst q
   exact hb.elim (fun q=>q▸(sh.live.1.imp fun Z z=>z.1)) fun q=>q▸(sh.live.2.imp fun Z z=>z.1)
  ·exact ⟨o,(sb.2 b q).trans e⟩
theorem Tr.own(R:Y0 C t h)(O:U1 t h){L:Addr}(l:t.ow L)(sb:Heap.SameBut L h h')(al:∃ o,h'.get? L=some o):Tr C (·=L) t h t h'∧Mo t h t h':=by
 have keep:∀ b o,h.get? b=some o→¬t.ow b→h'.get? b=some o:=fun b o e n=>(sb.2 b fun q=>n (q▸l)).trans e
 have m:Mo t h t h':=⟨fun j lj=>V0 lj rfl rfl,fun Z Z Z f=>f,fun b o e Z n=>keep b o e fun c=>n (.inl c),R.nt O⟩
 refine ⟨⟨⟨fun j v e=>?_,R.own,R.sep,R.apart,(fun b o e=>keep b o (R.base b o e) fun c=>Q5 (R.own b (.inl c)) e),R.sub⟩,fun b o e n q=>i5 o ((sb.2 b q).trans e) (fun Z=>rfl) rfl rfl,fun Z f => .inl f,fun b o e=>?_,fun j lj=>V0 lj rfl rfl,rfl,rfl⟩,m⟩
 ·have lj:t.live j:=⟨v,e⟩
  refine (R.cell j v e).imp fun K x=>x.imp fun xs x=>x.imp fun rs z=>E3 z.1 z.2.1 (z.2.2.1.obj _ fun b o e Z c=>keep b o e fun q=>?_) (z.2.2.2.go m xs)
  rcases c with rfl|rfl|c
  ·exact R.apart _ q (C0 j lj (.inl rfl))
  ·exact R.apart _ q (C0 j lj (.inr rfl))
  ·exact R.nt O b o e c (.inl q)
 ·by_cases q:b=L
  ·subst q;exact al
  ·exact ⟨o,(sb.2 b q).trans e⟩
end
inductive rC|add|sub|mul|fdiv|mod|pow
 deriving DecidableEq
inductive Tk|eq|ne|lt|le|gt|ge|is|isn|isIn|nin
 deriving DecidableEq
inductive BF|len|isinst|repr|str|abs|max2
 deriving DecidableEq
inductive CM|append|pop0|pop1|extend|insert|get1|get2
 deriving DecidableEq
inductive Md|fz|pick
inductive Op
 | bin (o:rC)|cat (m:Md)|rep (m:Md)|neg|not|cmp (o:Tk)
 | list (m:Md)|tup|lstar|ds (ss:List Str) (m:Md)|dt (m:Md)
 | attr (x:Nat)|sub|slLo (m:Md)|slHi (m:Md)|slBoth (m:Md)|rev|bf (f:BF)
inductive IK|val|range|range2|enum|vals
 deriving DecidableEq
inductive E where
 | k (v:V)
 | loc (i:Nat)
 | gl (x:Nat)
 | gc (x:Nat)
 | bl (x:Nat)
 | op (o:Op) (es:E)
 | and (a b:E)
 | or (a b:E)
 | ite (c a b:E)
 | cmp2 (o o':Tk) (a b c:E)
 | call (f es:E)
 | meth (x:Nat) (o es:E)
 | cmeth (c x:Nat) (es:E)
 | cm (f:CM) (o es:E)
 | comp (nx:Nat) (fv ts:List Nat) (pat:Bool) (ik:IK) (m:Md) (it elt cond:E)
 | nil
 | cons (e es:E)
 | dead
inductive T where
 | loc (i:Nat)
 | sub (a i:E)
 | attr (a:E) (x:Nat)
inductive S where
 | asg (t:T) (e:E)
 | asgs (ts:List T) (e:E)
 | expr (e:E)
 | ret (e:E)
 | ife (c:E) (a b:S)
 | whl (c:E) (b:S)
 | fr (ts:List Nat) (pat:Bool) (ik:IK) (it:E) (b:S)
 | tryret (e:E)
 | pass
 | nil
 | cons (s ss:S)
 | dead
structure M5 where
 sc:Scope
 tb:List (Str×Nat)
 nx:Nat
noncomputable def M5.kd(b:M5)(x:Str):Option NameKind:=b.sc.names.lookup x
noncomputable def ur:Option NameKind→Bool
 | some .local|some .cell|some .free=>true
 | _=>false
noncomputable def Y6:Option NameKind→Bool
 | some .local|some .cell=>true
 | _=>false
noncomputable def W1(b:M5)(sc:Scope):M5 :=
 let ls:=(sc.names.filter fun x=>x.2 == .local&&!(x.1==(".0":Str))).map (·.1)
 { sc,tb:=ls.zipIdx.map (fun x=>(x.1,b.nx+x.2))++(sc.names.filter fun x=>x.2 == .free).filterMap (fun x=>(b.tb.lookup x.1).map (x.1,·)),nx:=b.nx+ls.length }
noncomputable def s8(b:M5)(sc:Scope):Bool:=(match sc.kind with | .function=>true|_=>false)&&sc.names.all (fun x=>!(x.2 == .cell))&&decide ((sc.names.map (·.1)).Nodup) &&
 sc.names.all (fun x=>!(x.2 == .free)||((b.sc.names.lookup x.1==some .cell||b.sc.names.lookup x.1==some .free)&&(b.tb.lookup x.1).any (fun i=>decide (i<b.nx))))
noncomputable def M5.tgt(b:M5)(x:Str):Option Nat:=match b.sc.names.lookup x with
 | some .local=>b.tb.lookup x
 | _=>none
noncomputable def ke:Operator→Option rC
 | .Add=>some .add | .Sub=>some .sub | .Mult=>some .mul | .FloorDiv=>some .fdiv | .Mod=>some .mod | .Pow=>some .pow
 | _=>none
noncomputable def J8:CmpOp→Tk
 | .Eq => .eq | .NotEq => .ne | .Lt => .lt | .LtE => .le | .Gt => .gt | .GtE => .ge | .Is => .is | .IsNot => .isn | .In => .isIn | .NotIn => .nin
noncomputable def BF.nm:BF→Nat×Nat
 | .len=>(0,1) | .isinst=>(1,2) | .repr=>(3,1) | .str=>(4,1) | .abs=>(5,1) | .max2=>(6,2)
noncomputable def CM.nm:CM→String×Nat
 | .append=>("append",1) | .pop0=>("pop",0) | .pop1=>("pop",1) | .extend=>("extend",1) | .insert=>("insert",2) | .get1=>("get",1) | .get2=>("get",2)
noncomputable def Q4(e:Expr):Bool:=!(e.ctorIdx==22)
noncomputable def yc(e:Expr):Bool:=e.ctorIdx==8||e.ctorIdx==9||e.ctorIdx==10
noncomputable def yh(e:Expr):Bool:=!(e.ctorIdx==20)
noncomputable def Xi(e:Expr):Bool:=!(e.ctorIdx==26)
noncomputable def Uk(e:Expr):Bool:=!(e.ctorIdx==7)
noncomputable def xr(e:Expr)(f:Expr→Operator→Expr→Pos→Bool):Bool:=dite (e.ctorIdx=2) (fun h=>Expr.BinOp.elim e h f) fun Z=>false
@[elab_as_elim] theorem Vk{P:Expr→Prop}{e:Expr}{f}(h:xr e f=true)(k:∀ l o r p,f l o r p=true→P (.BinOp l o r p)):P e:=Expr.BinOp.elim (motive_1:=fun e=>xr e f=true→P e) e (dI h) k h
noncomputable def aD(e:Expr)(f:UnaryOp→Expr→Pos→Bool):Bool:=dite (e.ctorIdx=3) (fun h=>Expr.UnaryOp.elim e h f) fun Z=>false
@[elab_as_elim] theorem yr{P:Expr→Prop}{e:Expr}{f}(h:aD e f=true)(k:∀ o x p,f o x p=true→P (.UnaryOp o x p)):P e:=Expr.UnaryOp.elim (motive_1:=fun e=>aD e f=true→P e) e (dI h) k h
noncomputable def Ov(e:Expr)(f:Expr→List CmpOp→List Expr→Pos→Bool):Bool:=dite (e.ctorIdx=15) (fun h=>Expr.Compare.elim e h f) fun Z=>false
@[elab_as_elim] theorem zr{P:Expr→Prop}{e:Expr}{f}(h:Ov e f=true)(k:∀ l o r p,f l o r p=true→P (.Compare l o r p)):P e:=Expr.Compare.elim (motive_1:=fun e=>Ov e f=true→P e) e (dI h) k h
noncomputable def Pv(e:Expr)(f:List Expr→Pos→Bool):Bool:=dite (e.ctorIdx=24) (fun h=>Expr.List.elim e h f) fun Z=>false
@[elab_as_elim] theorem Ar{P:Expr→Prop}{e:Expr}{f}(h:Pv e f=true)(k:∀ es p,f es p=true→P (.List es p)):P e:=Expr.List.elim (motive_1:=fun e=>Pv e f=true→P e) e (dI h) k h
noncomputable def Qv(e:Expr)(f:List (Option Expr)→List Expr→Pos→Bool):Bool:=dite (e.ctorIdx=6) (fun h=>Expr.Dict.elim e h f) fun Z=>false
@[elab_as_elim] theorem Br{P:Expr→Prop}{e:Expr}{f}(h:Qv e f=true)(k:∀ ks vs p,f ks vs p=true→P (.Dict ks vs p)):P e:=Expr.Dict.elim (motive_1:=fun e=>Qv e f=true→P e) e (dI h) k h
noncomputable def Dy(e:Expr)(f:Expr→Str→Pos→Bool):Bool:=dite (e.ctorIdx=20) (fun h=>Expr.Attribute.elim e h f) fun Z=>false
@[elab_as_elim] theorem pd{P:Expr→Prop}{e:Expr}{f}(h:Dy e f=true)(k:∀ o x p,f o x p=true→P (.Attribute o x p)):P e:=Expr.Attribute.elim (motive_1:=fun e=>Dy e f=true→P e) e (dI h) k h
noncomputable def Yi(e:Expr)(f:Expr→Expr→Pos→Bool):Bool:=dite (e.ctorIdx=21) (fun h=>Expr.Subscript.elim e h f) fun Z=>false
@[elab_as_elim] theorem X8{P:Expr→Prop}{e:Expr}{f}(h:Yi e f=true)(k:∀ o i p,f o i p=true→P (.Subscript o i p)):P e:=Expr.Subscript.elim (motive_1:=fun e=>Yi e f=true→P e) e (dI h) k h
noncomputable def sC(e:Expr)(f:Option Expr→Option Expr→Option Expr→Pos→Bool):Bool:=dite (e.ctorIdx=26) (fun h=>Expr.Slice.elim e h f) fun Z=>false
@[elab_as_elim] theorem Dn{P:Expr→Prop}{e:Expr}{f}(h:sC e f=true)(k:∀ a c d p,f a c d p=true→P (.Slice a c d p)):P e:=Expr.Slice.elim (motive_1:=fun e=>sC e f=true→P e) e (dI h) k h
noncomputable def Lz(e:Expr)(f:Expr→Pos→Bool):Bool:=dite (e.ctorIdx=22) (fun h=>Expr.Starred.elim e h f) fun Z=>false
@[elab_as_elim] theorem Mz{P:Expr→Prop}{e:Expr}{f}(h:Lz e f=true)(k:∀ e p,f e p=true→P (.Starred e p)):P e:=Expr.Starred.elim (motive_1:=fun e=>Lz e f=true→P e) e (dI h) k h
noncomputable def uF(e:Expr)(f:BoolOp→List Expr→Pos→Bool):Bool:=dite (e.ctorIdx=0) (fun h=>Expr.BoolOp.elim e h f) fun Z=>false
@[elab_as_elim] theorem Ey{P:Expr→Prop}{e:Expr}{f}(h:uF e f=true)(k:∀ o vs p,f o vs p=true→P (.BoolOp o vs p)):P e:=Expr.BoolOp.elim (motive_1:=fun e=>uF e f=true→P e) e (dI h) k h
noncomputable def iG(e:Expr)(f:Expr→Expr→Expr→Pos→Bool):Bool:=dite (e.ctorIdx=5) (fun h=>Expr.IfExp.elim e h f) fun Z=>false
@[elab_as_elim] theorem bD{P:Expr→Prop}{e:Expr}{f}(h:iG e f=true)(k:∀ x y z p,f x y z p=true→P (.IfExp x y z p)):P e:=Expr.IfExp.elim (motive_1:=fun e=>iG e f=true→P e) e (dI h) k h
noncomputable def jG(e:Expr)(f:Expr→List Comprehension→Scope→Pos→Bool):Bool:=dite (e.ctorIdx=8) (fun h=>Expr.ListComp.elim e h f) fun Z=>false
@[elab_as_elim] theorem cD{P:Expr→Prop}{e:Expr}{f}(h:jG e f=true)(k:∀ e g s p,f e g s p=true→P (.ListComp e g s p)):P e:=Expr.ListComp.elim (motive_1:=fun e=>jG e f=true→P e) e (dI h) k h
noncomputable def Cr(e:Expr)(f:Str→Pos→Bool):Bool:=dite (e.ctorIdx=23) (fun h=>Expr.Name.elim e h f) fun Z=>false
@[elab_as_elim] theorem U7{P:Expr→Prop}{e:Expr}{f}(h:Cr e f=true)(k:∀ x p,f x p=true→P (.Name x p)):P e:=Expr.Name.elim (motive_1:=fun e=>Cr e f=true→P e) e (dI h) k h
noncomputable def dD(e:Expr)(f:List Expr→Nat→Pos→Bool):Bool:=dite (e.ctorIdx=25) (fun h=>Expr.Tuple.elim e h f) fun Z=>false
@[elab_as_elim] theorem Fy{P:Expr→Prop}{e:Expr}{f}(h:dD e f=true)(k:∀ es k p,f es k p=true→P (.Tuple es k p)):P e:=Expr.Tuple.elim (motive_1:=fun e=>dD e f=true→P e) e (dI h) k h
noncomputable def eD(e:Expr)(f:Const→Nat→Pos→Bool):Bool:=dite (e.ctorIdx=19) (fun h=>Expr.Constant.elim e h f) fun Z=>false
@[elab_as_elim] theorem Er{P:Expr→Prop}{e:Expr}{f}(h:eD e f=true)(k:∀ c k p,f c k p=true→P (.Constant c k p)):P e:=Expr.Constant.elim (motive_1:=fun e=>eD e f=true→P e) e (dI h) k h
theorem b2{p q:Bool}(h:(p&&q)=true):p=true∧q=true:=Bool.and_eq_true_iff.mp h
theorem bl{p q:Bool}(h:(p&&q)=true):p=true:=(b2 h).1
theorem br{p q:Bool}(h:(p&&q)=true):q=true:=(b2 h).2
noncomputable def Uq(e:Expr)(f:Expr→List Expr→Pos→Bool):Bool:=dite (e.ctorIdx=16) (fun h=>Expr.Call.elim e h fun g a ks p=>ks.isEmpty&&f g a p) fun Z=>false
@[elab_as_elim] theorem lb{P:Expr→Prop}{e:Expr}{f}(h:Uq e f=true)(k:∀ g a p,f g a p=true→P (.Call g a [] p)):P e:=Expr.Call.elim (motive_1:=fun e=>Uq e f=true→P e) e (dI h) (fun g a ks p h=>List.isEmpty_iff.mp (b2 h).1▸k g a p (b2 h).2) h
noncomputable def me(e:Expr):Bool:=!(Uq e fun f a Z=>f.ctorIdx==23&&a.isEmpty)
noncomputable def j7(o:Expr)(as:List Expr)(ap p:Pos):Bool:=as.all Q4&&decide (as.length<29)&&ap.endLine==p.line&&me o
@[elab_as_elim] theorem iO{α:Type}{P:Option α→Prop}{o:Option α}{f:α→Bool}(h:o.any f=true)(k:∀ x,f x=true→P (some x)):P o :=
 o.rec (motive:=fun o=>o.any f=true→P o) (fun h=>Bool.noConfusion h) k h
@[elab_as_elim] theorem iN{α:Type}{P:Option α→Prop}{o:Option α}(h:o.isNone=true)(k:P none):P o :=
 o.rec (motive:=fun o=>o.isNone=true→P o) (fun Z=>k) (fun Z h=>Bool.noConfusion h) h
@[elab_as_elim] theorem iE{α:Type}{P:List α→Prop}{l:List α}(h:l.isEmpty=true)(k:P []):P l:=List.isEmpty_iff.mp h▸k
@[elab_as_elim] theorem iB{α:Type}[BEq α][LawfulBEq α]{P:α→Prop}{a b:α}(h:(a==b)=true)(k:P b):P a:=eq_of_beq h▸k
theorem nn{α:Type}{q:α}{P:Prop}(h:none=some q):P:=nomatch h
theorem P0{α:Type}{o:Option α}{f:α→Bool}(h:o.any f=true):∃ q,o=some q∧f q=true:=by
 induction o using Option.casesOn with
 | none=>exact Bool.noConfusion h
 | some q=>exact C0 q rfl h
noncomputable def Ef{α:Type}:List α→Option α
 | [x]=>some x
 | _=>none
noncomputable def tC{α:Type}:List α→Option (α×α)
 | [x,y]=>some (x,y)
 | _=>none
theorem Gr{α:Type}{l:List α}{q:α}:Ef l=some q→l=[q]:=by
 induction l using List.casesOn with
 | nil=>exact nn
 | cons x r=>induction r using List.casesOn with
  | nil=>exact fun h=>(Option.some.inj h)▸rfl
  | cons=>exact nn
theorem Hr{α:Type}{l:List α}{q:α×α}:tC l=some q→l=[q.1,q.2]:=by
 induction l using List.casesOn with
 | nil=>exact nn
 | cons x r=>induction r using List.casesOn with
  | nil=>exact nn
  | cons y t=>induction t using List.casesOn with
   | nil=>exact fun h=>(Option.some.inj h)▸rfl
   | cons=>exact nn
theorem dS{α:Type}{c:Prop}{q:α}[d:Decidable c]{f:c→Option α}:dite c f (fun Z=>none)=some q→c :=
 d.rec (motive:=fun d=>@dite _ c d f (fun Z=>none)=some q→c) (fun Z h=>nn h) (fun h Z=>h)
noncomputable def P7(e:Expr):Option (Str×Pos):=dite (e.ctorIdx=23) (fun h=>Expr.Name.elim e h fun x p=>some (x,p)) fun Z=>none
theorem zc{e:Expr}{q:Str×Pos}(h:P7 e=some q):e = .Name q.1 q.2:=Expr.Name.elim (motive_1:=fun e=>P7 e=some q→e = .Name q.1 q.2) e (dS h) (fun Z Z h=>(Option.some.inj h)▸rfl) h
noncomputable def Ir(e:Expr):Option (List Expr×Nat×Pos):=dite (e.ctorIdx=25) (fun h=>Expr.Tuple.elim e h fun es k p=>some (es,k,p)) fun Z=>none
theorem Jr{e:Expr}{q:List Expr×Nat×Pos}(h:Ir e=some q):e = .Tuple q.1 q.2.1 q.2.2:=Expr.Tuple.elim (motive_1:=fun e=>Ir e=some q→e = .Tuple q.1 q.2.1 q.2.2) e (dS h) (fun Z Z Z h=>(Option.some.inj h)▸rfl) h
noncomputable def zh(e:Expr):Option (Const×Nat×Pos):=dite (e.ctorIdx=19) (fun h=>Expr.Constant.elim e h fun c k p=>some (c,k,p)) fun Z=>none
theorem Xk{e:Expr}{q:Const×Nat×Pos}(h:zh e=some q):e = .Constant q.1 q.2.1 q.2.2:=Expr.Constant.elim (motive_1:=fun e=>zh e=some q→e = .Constant q.1 q.2.1 q.2.2) e (dS h) (fun Z Z Z h=>(Option.some.inj h)▸rfl) h
@[elab_as_elim] theorem i1{α:Type}{P:List α→Prop}{l:List α}{f:α→Bool}(h:(Ef l).any f=true)(k:∀ x,f x=true→P [x]):P l:=(P0 h).elim fun x y=>Gr y.1▸k x y.2
@[elab_as_elim] theorem i2{α:Type}{P:List α→Prop}{l:List α}{f:α×α→Bool}(h:(tC l).any f=true)(k:∀ x y,f (x,y)=true→P [x,y]):P l:=(P0 h).elim fun x y=>Hr y.1▸k x.1 x.2 y.2
noncomputable def Gy:Const→Option Int
 | .int i=>some i
 | _=>none
noncomputable def Yk:UnaryOp→Bool
 | .USub=>true
 | _=>false
noncomputable def Hy:UnaryOp→Bool
 | .Not=>true
 | _=>false
theorem Kr{e:Const}{q:Int}:Gy e=some q→e = .int q:=by
 induction e using Const.casesOn with
 | int=>exact fun h=>(Option.some.inj h)▸rfl
 | _=>exact nn
theorem ag{o:UnaryOp}:Yk o=true→o = .USub:=by
 induction o using UnaryOp.casesOn with
 | USub=>exact fun Z=>rfl
 | _=>exact Bool.noConfusion
theorem Lr{o:UnaryOp}:Hy o=true→o = .Not:=by
 induction o using UnaryOp.casesOn with
 | Not=>exact fun Z=>rfl
 | _=>exact Bool.noConfusion
noncomputable def M5.tgts(b:M5)(e:Expr):Option (List Nat×Bool):=match P7 e with
 | some q=>(b.tgt q.1).map fun i=>([i],false)
 | none=>(Ir e).bind fun l=>(tC l.1).bind fun p=>(P7 p.1).bind fun x=>(P7 p.2).bind fun y=>(b.tgt x.1).bind fun i=>(b.tgt y.1).map fun j=>([i,j],true)
noncomputable def P6(k:Option Expr):Option Str:=k.bind fun k=>(zh k).bind fun c=>match c.1 with | .str s=>some s|_=>none
noncomputable abbrev qd:=M5→Expr→Bool
noncomputable abbrev Iy:=M5→List Expr→Bool
noncomputable abbrev vF:=qd×Iy
noncomputable def Mr:V→Const→Bool
 | .none,.none=>true
 | .bool v,.bool w=>v==w
 | .int v,.int w=>v==w
 | .str v,.str w=>v==w
 | _,_=>false
noncomputable def JH(v:V):qd:=fun Z e=>eD e fun c Z Z=>Mr v c
noncomputable def uC(x:Str):Bool:=x==("__debug__":Str)||x==("__classdict__":Str)
noncomputable def M5.isG(b:M5)(l:List String)(i:Nat)(x:Str):Bool:=b.kd x==some .globalImplicit&&decide (i<l.length)&&x==nm l i&&!uC x
noncomputable def fD(i:Nat):qd:=fun b e=>Cr e fun x Z=>ur (b.kd x)&&b.tb.lookup x==some i&&!uC x
noncomputable def Nz(l:List String)(i:Nat):qd:=fun b e=>Cr e fun x Z=>b.isG l i x
noncomputable def kG(p:Iy):Op→qd
 | .bin o=>fun b e=>xr e fun l u r Z=>ke u==some o&&p b [l,r]
 | .cat Z=>fun b e=>xr e fun l u r Z=>ke u==some .add&&p b [l,r]
 | .rep Z=>fun b e=>xr e fun l u r Z=>ke u==some .mul&&p b [l,r]
 | .neg=>fun b e=>aD e fun o x Z=>Yk o&&p b [x]
 | .not=>fun b e=>aD e fun o x Z=>Hy o&&p b [x]
 | .cmp o=>fun b e=>Ov e fun l u r Z=>(Ef u).any fun o'=>(Ef r).any fun r=>!behindInMarks o' r&&J8 o'==o&&p b [l,r]
 | .list Z=>fun b e=>Pv e fun es Z=>decide (es.length≤1000)&&p b es
 | .tup=>fun b e=>dD e fun es Z Z=>decide (es.length≤1000)&&p b es
 | .lstar=>fun b e=>Pv e fun es Z=>(tC es).any fun u=>Q4 u.1&&Lz u.2 fun v Z=>p b [u.1,v]
 | .ds ss Z=>fun b e=>Qv e fun ks vs Z=>decide (ks.length≤15∨17<ks.length∧ks.length≤32)&&decide (ks.length=vs.length)&&ks.map P6==ss.map some&&decide ss.Nodup&&p b vs
 | .dt Z=>fun b e=>Qv e fun ks vs Z=>ks.isEmpty&&vs.isEmpty&&p b []
 | .attr x=>fun b e=>Dy e fun o u Z=>me o&&decide (x<fS.length)&&u==fN x&&p b [o]
 | .sub=>fun b e=>Yi e fun o i Z=>Xi i&&p b [o,i]
 | .slLo Z=>fun b e=>Yi e fun o i Z=>sC i fun a c d Z=>c.isNone&&d.isNone&&a.any fun lo=>p b [o,lo]
 | .slHi Z=>fun b e=>Yi e fun o i Z=>sC i fun a c d Z=>a.isNone&&d.isNone&&c.any fun hi=>p b [o,hi]
 | .slBoth Z=>fun b e=>Yi e fun o i Z=>sC i fun a c d Z=>d.isNone&&a.any fun lo=>c.any fun hi=>p b [o,lo,hi]
 | .rev=>fun b e=>Yi e fun o i Z=>sC i fun a c d Z=>a.isNone&&c.isNone&&p b [o]&&d.any fun v=>aD v fun w x Z=>Yk w&&eD x fun c Z Z=>(Gy c).any fun j=>j==1
 | .bf f=>fun b e=>Uq e fun g a Z=>Cr g fun x Z=>b.isG bS f.nm.1 x&&a.length==f.nm.2&&p b a
noncomputable def Ah(p q:qd)(b:M5)(o:BoolOp)(pos:Pos):List Expr→Bool
 | [x,y]=>p b x&&q b y
 | x::y::z::r=>p b x&&q b (.BoolOp o (y::z::r) pos)
 | _=>false
noncomputable def gD(p q:qd):qd:=fun b e=>uF e fun o vs pos=>match o with | .And=>Ah p q b .And pos vs | .Or=>false
noncomputable def lG(p q:qd):qd:=fun b e=>uF e fun o vs pos=>match o with | .Or=>Ah p q b .Or pos vs | .And=>false
noncomputable def iD(p q r:qd):qd:=fun b e=>iG e fun x y z Z=>p b x&&q b y&&r b z
noncomputable def Oz(o o':Tk)(p q r:qd):qd:=fun b e=>Ov e fun l u v Z=>(tC u).any fun w=>(tC v).any fun z=>!behindInMarks w.2 z.2&&J8 w.1==o&&J8 w.2==o'&&p b l&&q b z.1&&r b z.2
noncomputable def Pz(p:qd)(q:Iy):qd:=fun b e=>Uq e fun g a Z=>yh g&&p b g&&q b a
noncomputable def Qz(x:Nat)(p:qd)(q:Iy):qd:=fun b e=>Uq e fun g a k=>Dy g fun o u z=>j7 o a z k&&decide (x<mS.length)&&u==mN x&&p b o&&q b a
noncomputable def Rv(c x:Nat)(p:Iy):qd:=fun b e=>Uq e fun g a k=>Dy g fun o u z=>Cr o fun v w=>j7 (.Name v w) a z k&&b.isG gS c v&&decide (c<11)&&decide (x<mS.length)&&u==mN x&&p b a
noncomputable def mG(f:CM)(p:qd)(q:Iy):qd:=fun b e=>Uq e fun g a k=>Dy g fun o u z=>j7 o a z k&&u==Str.ofString f.nm.1&&a.length==f.nm.2&&p b o&&q b a
noncomputable def Rz(p:vF):IK→qd
 | .val=>p.1
 | .range=>fun b e=>Uq e fun g a Z=>Cr g fun r Z=>a.length==1&&b.isG bS 2 r&&p.2 b a
 | .range2=>fun b e=>Uq e fun g a Z=>Cr g fun r Z=>a.length==2&&b.isG bS 2 r&&p.2 b a
 | .enum=>fun b e=>Uq e fun g a Z=>Cr g fun r Z=>a.length==1&&b.isG bS 7 r&&p.2 b a
 | .vals=>fun b e=>Uq e fun g a k=>Dy g fun o u z=>a.isEmpty&&u==("values":Str)&&j7 o [] z k&&p.1 b o
noncomputable def E.isT:E→Bool
 | .k (.bool v)=>v
 | _=>false
noncomputable def Nr(r:qd)(c:E)(b:M5)(ifs:List Expr):Bool:=(ifs.isEmpty&&c.isT)||(Ef ifs).any (r b)
noncomputable def Sz(nx:Nat)(fv ts:List Nat)(pat:Bool)(ik:IK)(c:E)(it:vF)(p r:qd):qd:=fun b e=>jG e fun x g s Z=>(Ef g).any fun g=>g.is_async==0 &&
 (s8 b s&&!(ik == .enum)&&Uk g.iter&&nx==b.nx&&fv==((s.names.filter fun x=>x.2 == .free).filterMap fun x=>b.tb.lookup x.1)&&(W1 b s).tgts g.target==some (ts,pat) &&
  Rz it ik b g.iter&&p (W1 b s) x&&Nr r c (W1 b s) g.ifs)
noncomputable def Tz(p:qd)(q:Iy):Iy:=fun b es=>match es with|e::r=>Q4 e&&p b e&&q b r|_=>false
noncomputable def M9{α:Type}:M5→α→Bool:=fun Z Z=>false
noncomputable def ck:E→vF:=E.rec (motive:=fun Z=>vF)
 (fun v=>(JH v,M9)) (fun i=>(fD i,M9)) (fun x=>(Nz gS x,M9)) (fun x=>(Nz cS x,M9)) (fun x=>(Nz bS x,M9)) (fun o Z p=>(kG p.2 o,M9)) (fun Z Z p q=>(gD p.1 q.1,M9)) (fun Z Z p q=>(lG p.1 q.1,M9))
 (fun Z Z Z p q r=>(iD p.1 q.1 r.1,M9)) (fun o o' Z Z Z p q r=>(Oz o o' p.1 q.1 r.1,M9)) (fun Z Z p q=>(Pz p.1 q.2,M9)) (fun x Z Z p q=>(Qz x p.1 q.2,M9)) (fun c x Z p=>(Rv c x p.2,M9)) (fun f Z Z p q=>(mG f p.1 q.2,M9))
 (fun nx fv ts pat ik Z Z Z c it p r=>(Sz nx fv ts pat ik c it p.1 r.1,M9)) (M9,fun Z es=>es.isEmpty) (fun Z Z p q=>(M9,Tz p.1 q.2)) (fun Z Z=>true,M9)
structure jD(C:Cx):Prop where
 tc:∀ x a T,P8 C x a→jc.contains T=true→kitOne C.K (.type T) (.ref a)=some false
 ct:∀ x a U,P8 C x a→qh.contains U=true→kitOne C.K (.ref a) (.type U)=some false
 cc:∀ x y a b,P8 C x a→P8 C y b→kitOne C.K (.ref a) (.ref b)=some (Iv x y)
 own:∀ x a,P8 C x a→plainGet C.K a "__class__"=true∧hasDictIn C.K a=true∧findIn C.K (.ref a) "__class__"=some (some (.builtin "object.__class__"))∧mroIn C.K a (.type "object")=some true
 fn:∀ x a,11≤x→nsIn C.K mainGlobals (gN x)=some (some (.ref a))→∃ o,C.K.lookup a=some o∧o.cls = .type "function"
noncomputable def Jy:St:=⟨fun Z=>0,fun Z=>0,[],no,no⟩
structure Cx.Ok(C:Cx):Prop where
 inB:C.K.In C.B
 lim:C.B.NoLimit
 mg:∃ m,C.B.Ns mainGlobals m
 mb:∃ m,C.B.Ns builtinsNs m∧∀ x,x<bS.length→m (bN x)=bootBuiltins (bN x)
 gl:∀ x,x<gS.length→∃ a,nsIn C.K mainGlobals (gN x)=some (some (.ref a))∧keepIn C.K (.ref a)=true
 bl:∀ x,x<bS.length→nsIn C.K mainGlobals (bN x)=some none∧∃ r,bootBuiltins (bN x)=some r∧handedIn r=true
 con:∀ x v,cV[x]?=some v→∃ r,nsIn C.K mainGlobals (nm cS x)=some (some r)∧G0 C Jy C.B v r
 cls:∀ x a,P8 C x a→Ld C.K a=true∧makesIn C.K a=true
 mth:∀ c a x,P8 C c a→oh c x=true→∃ f,findIn C.K (.ref a) (mN x)=some (some (.ref f))∧isFn C.K (.ref f)=true∧keepIn C.K (.ref f)=true
 cms:∀ c a x,P8 C c a→oh c x=true→readsIn C.K a (.type "type")=true∧specialIn C.K (.ref a) "__getattribute__"=some (some (.builtin "type.__getattribute__"))∧∃ f,findIn C.K (.ref a) (mN x)=some (some (.ref f))∧findCls C.K (.ref a) (.type "type") (mN x)=some (.val (.ref f))
 sysm:∃ o,C.B.get? sysModules=some o
 isi:jD C
 exm:∀ a,Cp C a→exmOne C.K (.ref a) (.ref a)=some true
structure Ky(A:Around)(l:List Env)(n:Nat):Prop where
 hand:A.handled=none
 deep:A.depth+2*n+2<recursionLimit
 fr:A.frames=some l
 units:A.units+10*n+200<cLine
structure Ff(A:Around)(l:List Env)(n:Nat):Prop where
 hand:A.handled=none
 deep:A.depth+2*n+1<recursionLimit
 fr:A.frames=some l
 units:A.units+10*n+193<cLine
theorem Ky.call{A:Around}{l:List Env}{n:Nat}(a:Ky A l n):Ff A l n:=⟨a.hand,Nat.lt_of_succ_lt a.deep,a.fr,Nat.lt_of_le_of_lt (Nat.add_le_add_left (by decide) _) a.units⟩
theorem Zi(A:Around)(C:Addr)(rest:List Value)(kw:List (Str×Value)):A.under (.builtin "type.__call__" ⟨.ref C::rest,kw⟩)={ A with depth:=A.depth+1,units:=A.units+1 }:=by
 have hf:(Code.builtin "type.__call__" ⟨.ref C::rest,kw⟩).frames=0:=by kernel_rfl
 have hc:(Code.builtin "type.__call__" ⟨.ref C::rest,kw⟩).isCreation=true:=by kernel_rfl
 have hg:(Code.builtin "type.__call__" ⟨.ref C::rest,kw⟩).isGuard=false:=by kernel_rfl
 have hk:(Code.builtin "type.__call__" ⟨.ref C::rest,kw⟩).isCaller=false:=by kernel_rfl
 have hw:(Code.builtin "type.__call__" ⟨.ref C::rest,kw⟩).weight=1:=by unfold Code.weight;refine f0 (hf ..) (f0 (hc ..) (f0 (hg ..) (f0 (hk ..) ?_)));rfl
 have hu:(Code.builtin "type.__call__" ⟨.ref C::rest,kw⟩).cUnits=1:=by show 1+3*(Code.builtin "type.__call__" ⟨.ref C::rest,kw⟩).frames=1;exact f0 (hf ..) rfl
 have he:(Code.builtin "type.__call__" ⟨.ref C::rest,kw⟩).envs=[]:=by kernel_rfl
 have hgs:(Code.builtin "type.__call__" ⟨.ref C::rest,kw⟩).guards=[]:=by unfold Code.guards;refine f0 (hg ..) ?_;rfl
 unfold Around.under
 refine f0 (hw ..) (f0 (hu ..) (f0 (he ..) (f0 (hgs ..) ?_)))
 obtain ⟨hd,d,fr,gs,u⟩:=A
 induction fr using Option.casesOn<;>induction gs using Option.casesOn<;>rfl
theorem Ff.deeper{A:Around}{l:List Env}{n:Nat}(a:Ff A l (n+1))(en:Env):Ky (A.deeper en) (en::l) n :=
 ⟨a.hand,by have:=a.deep;show A.depth+1+2*n+2<recursionLimit;exact ak this (by simp +arith),by show A.frames.map (en::·)=_;refine f0 (a.fr ..) ?_;rfl,by have:=a.units;show A.units+3+10*n+200<cLine;exact ak this (by simp +arith)⟩
noncomputable def l4(l:List Env)(t:St)(h:Heap):Prop:=∀ env∈l,env.scope.kind ≠ .module∧∃ L o es n,env.frame=some L∧t.sl L∧h.get? L=some o∧o.data = .dict es n
section
variable{C:Cx}{ex:Addr→Prop}{t t':St}{h h':Heap}
theorem l4.fun(R:Y0 C t h):∀ {l:List Env},l4 l t h→h.FunFrames C.B l
 | [],_=>trivial
 | env::l,F=>by
  obtain ⟨k,AI⟩:=F env (.head _);refine Ia AI ?_;(repeat clear AI);intro L o es n hf w ho hd
  exact V0 k (aa L o hf (R.own L (.inl (R.sub L w))) ho (U2 hd)) (l4.fun R fun e he=>F e (.tail _ he))
theorem Tr.data(R:Y0 C t h)(T:Tr C ex t h t' h'){L:Addr}{o:Obj}(w:t.ow L)(e:h.get? L=some o)(n:¬ex L):∃ o',h'.get? L=some o'∧o'.data=o.data :=
 (T.keep L o e (R.apart L w) n).imp fun Z z=>⟨z.1,z.2.2.2⟩
theorem l4.tr{l:List Env}(F:l4 l t h)(R:Y0 C t h)(T:Tr C ex t h t' h')(hx:∀ env∈l,∀ L,env.frame=some L→¬ex L):l4 l t' h':=fun env he=>by
 obtain ⟨k,DI⟩:=F env he;refine Ia DI ?_;(repeat clear DI);intro L o es n hf w ho hd
 refine A0 (T.data R (R.sub L w) ho (hx env he L hf)) fun o' e' d=>?_
 exact ⟨k,L,o',es,n,hf,T.sl▸w,e',d.trans hd⟩
theorem t8{a:Addr}{m:Str→Option Value}(n:h.Ns a m)(k:∀ o,h.get? a=some o→∃ o',h'.get? a=some o'∧o'.data=o.data):h'.Ns a m:=by
 refine q8 n ?_;(repeat clear n);intro o es ep ho hd r
 refine A0 (k o ho) fun o' e d=>?_
 exact Gv o' es ep e (d.trans hd) r
theorem Bh{a:Addr}{m:Str→Option Value}(n:h.Ns a m):∃ o es ep,h.get? a=some o∧o.data = .dict es ep:=n.imp fun Z n=>n.imp fun Z n=>n.imp fun Z z=>⟨z.1,z.2.1⟩
theorem m6{c:Addr}{v:Option Value}(n:h.IsCell c v)(k:∀ o,h.get? c=some o→∃ o',h'.get? c=some o'∧o'.data=o.data):h'.IsCell c v:=by
 refine A0 n ?_;(repeat clear n);intro o ho hd
 refine A0 (k o ho) fun o' e d=>?_
 exact C0 o' e (d.trans hd)
end
noncomputable abbrev vC:=List (Str×Nat)
noncomputable def i3(en:Env)(b:Addr):Prop:=b=en.locals∨∃ x,en.cells.lookup x=some b
structure Sv(C:Cx)(en:Env)(tb:vC)(ρ:y0)(t:St)(h:Heap):Prop where
 kind:en.scope.kind = .function
 glob:en.globals=mainGlobals
 blt:en.builtins=builtinsNs
 loc:∃ m,h.Ns en.locals m∧∀ x i v,tb.lookup x=some i→A1 ρ i=some v→en.kindOf x=some .local→∃ r,m x=some r∧G0 C t h v r
 nloc:t.ow en.locals
 cel:∀ x i v,tb.lookup x=some i→A1 ρ i=some v→(en.kindOf x=some .cell∨en.kindOf x=some .free)→∃ c r,en.cells.lookup x=some c∧h.IsCell c (some r)∧G0 C t h v r∧t.ow c
theorem Sv.tr{C:Cx}{ex:Addr→Prop}{t t':St}{h h':Heap}{en:Env}{tb:vC}{ρ:y0}(E:Sv C en tb ρ t h)(R:Y0 C t h)(T:Tr C ex t h t' h')(m:Mo t h t' h')(hx:∀ b,i3 en b→¬ex b):Sv C en tb ρ t' h' where
 kind:=E.kind
 glob:=E.glob
 blt:=E.blt
 loc:=E.loc.imp fun Z z=>⟨t8 z.1 fun o e=>T.data R E.nloc e (hx _ (.inl rfl)),fun x i v a b c=>(z.2 x i v a b c).imp fun Z y=>⟨y.1,y.2.go m v⟩⟩
 nloc:=T.ow▸E.nloc
 cel x i v a b c:=(E.cel x i v a b c).imp fun Z z=>z.imp fun Z y=>E3 y.1 (m6 y.2.1 fun o e=>T.data R y.2.2.2 e (hx _ (.inr ⟨x,y.1⟩))) (y.2.2.1.go m v) (T.ow▸y.2.2.2)
structure O3(C:Cx)(ex:Addr→Prop)(t:St)(s:Shared)(t':St)(s':Shared):Prop where
 tr:Tr C ex t s.heap t' s'.heap
 gens:s'.gens=s.gens
 os:s'.os=s.os
noncomputable abbrev X0:=V→y0→Prop
noncomputable def D0(C:Cx)(t:St)(s:Shared)(Q:X0)(r:Value)(s':Shared):Prop:=∃ t' v,O3 C no t s t' s'∧G0 C t' s'.heap v r∧Q v t'.σ
structure Nk(C:Cx)(ex:Addr→Prop)(l:List Env)(t:St)(s:Shared)(t':St)(s':Shared)(Bx:Heap):Prop where
 rel:Y0 C t' Bx
 keep:∀ b o,s.heap.get? b=some o→¬t.cel b→¬ex b→(∃ env∈l,env.frame=some b)∨∃ o',Bx.get? b=some o'∧(¬t.sl b→o'=o)∧o'.cls=o.cls∧o'.data=o.data
 nt:∀ b o,Bx.get? b=some o→Wi o→¬t'.foot b
 ows:∀ b o,s.heap.get? b=some o→t.ow b→∃ o',s'.heap.get? b=some o'∧Y4 o'∧(¬ex b→o'.cls=o.cls∧o'.data=o.data)
 grow:∀ b,t'.cel b→t.cel b∨s.heap.get? b=none
 lv:∀ k,t.live k→t'.live k∧t'.al k=t.al k∧t'.dl k=t.dl k
 ow:t'.ow=t.ow
 sl:t'.sl=t.sl
 gens:s'.gens=s.gens
 os:s'.os=s.os
noncomputable def Z1(C:Cx)(ex:Addr→Prop)(l:List Env)(fl:Option Addr)(t:St)(s:Shared)(X:y0→Prop)(e:Value)(s':Shared):Prop :=
 ∃ t' Bx ea cls a0,e = .ref ea∧Nk C ex l t s t' s' Bx∧X t'.σ∧Cp C cls∧match fl with
  | none=>Heap.FlyingW Bx l ea (.ref cls) a0 s'.heap
  | some L=>Heap.HeldW Bx l ea (.ref cls) a0 L s'.heap
section
variable{C:Cx}{ex ex':Addr→Prop}{t t' t'':St}{s s' s'':Shared}{l:List Env}{Q Q':X0}{X X':y0→Prop}
theorem O3.refl(R:Y0 C t s.heap):O3 C ex t s t s:=⟨.refl R,rfl,rfl⟩
theorem O3.trans(x:O3 C ex t s t' s')(y:O3 C ex t' s' t'' s''):O3 C ex t s t'' s'':=⟨x.tr.trans y.tr,y.gens.trans x.gens,y.os.trans x.os⟩
theorem O3.of0(x:O3 C no t s t' s'):O3 C ex t s t' s':=⟨x.tr.of0,x.gens,x.os⟩
theorem D0.trans{r:Value}(x:O3 C no t s t' s')(p:D0 C t' s' Q r s''):D0 C t s Q r s'':=p.imp fun Z p=>p.imp fun Z z=>⟨x.trans z.1,z.2⟩
theorem Nk.trans{Bx:Heap}(R:Y0 C t s.heap)(x:O3 C ex t s t' s')(y:Nk C ex l t' s' t'' s'' Bx):Nk C ex l t s t'' s'' Bx where
 rel:=y.rel
 nt:=y.nt
 ows b o e w:=by
  obtain ⟨o1,e1⟩:=x.tr.alive b o e
  refine F1 (y.ows b o1 e1 (x.tr.ow▸w)) fun o2 e2 n2 q2=>?_
  refine A2 o2 e2 n2 (fun ne=>?_)
  refine fe (x.tr.keep b o e (R.apart b w) ne) fun o1' e1' Z c1 d1=>?_
  obtain rfl:=Option.some.inj (e1.symm.trans e1')
  exact ⟨(q2 ne).1.trans c1,(q2 ne).2.trans d1⟩
 keep b o e nf ne:=by
  refine fe (x.tr.keep b o e nf ne) fun o1 e1 q1 c1 d1=>?_
  refine (y.keep b o1 e1 (x.tr.ncel e nf) ne).imp id fun z=>?_
  refine fe z ?_;(repeat clear z);intro o2 e2 q2 c2 d2
  exact i5 o2 e2 (fun n=>(q2 (x.tr.sl▸n)).trans (q1 n)) (c2.trans c1) (d2.trans d1)
 grow b f:=(y.grow b f).elim (x.tr.grow b) fun q => .inr (by
  cases e:s.heap.get? b with
  | none=>rfl
  | some o=>exact (x.tr.alive b o e).elim fun o' e'=>Q5 q e')
 lv k l:=by
  refine i4 (x.tr.lv k l) fun l1 a1 d1=>?_
  refine i4 (y.lv k l1) fun l2 a2 d2=>?_
  exact V0 l2 (a2.trans a1) (d2.trans d1)
 ow:=y.ow.trans x.tr.ow
 sl:=y.sl.trans x.tr.sl
 gens:=y.gens.trans x.gens
 os:=y.os.trans x.os
theorem Z1.trans{fl:Option Addr}{e:Value}(R:Y0 C t s.heap)(x:O3 C ex t s t' s')(p:Z1 C ex l fl t' s' X e s''):Z1 C ex l fl t s X e s'' :=
 p.imp fun Z p=>p.imp fun Z p=>p.imp fun Z p=>p.imp fun Z p=>p.imp fun Z z=>V0 z.1 (Nk.trans R x z.2.1) z.2.2
theorem Z1.of0{fl:Option Addr}{e:Value}(p:Z1 C no l fl t s X e s'):Z1 C ex l fl t s X e s' :=
 p.imp fun Z p=>p.imp fun Z p=>p.imp fun Z p=>p.imp fun Z p=>p.imp fun Z z=>V0 z.1 ⟨z.2.1.rel,fun b o e f Z=>z.2.1.keep b o e f id,z.2.1.nt,fun b o e w=>(z.2.1.ows b o e w).imp fun Z y=>V0 y.1 y.2.1 (fun Z=>y.2.2 id),z.2.1.grow,z.2.1.lv,z.2.1.ow,z.2.1.sl,z.2.1.gens,z.2.1.os⟩ z.2.2
theorem Nk.slots{Bx h'':Heap}(y:Nk C ex l t s t' s' Bx)(hu:s'.heap.UpToSlots h''):Nk C ex l t s t' { s' with heap:=h'' } Bx :=
 ⟨y.rel,y.keep,y.nt,fun b o e w=>(y.ows b o e w).elim fun o' z=>(hu b o' z.1 z.2.1).elim fun sl e'=>C0 _ e' z.2,y.grow,y.lv,y.ow,y.sl,y.gens,y.os⟩
theorem Nk.land{Bx h'':Heap}(F:l4 l t s.heap)(y:Nk C ex l t s t' s' Bx)(sb:Bx.StaysIn h'')(hu:s'.heap.UpToSlots h'')(hs:∀ b,t.sl b→t.ow b)(hx:∀ b,¬t.ow b→¬ex b):O3 C ex t s t' { s' with heap:=h'' } where
 gens:=y.gens
 os:=y.os
 tr :=
  {
   rel:=⟨fun k v e=>(y.rel.cell k v e).imp fun K x=>x.imp fun xs x=>x.imp fun rs z=>E3 z.1 z.2.1 (z.2.2.1.obj _ fun b o e Z Z=>sb b o e) (z.2.2.2.go ⟨fun Z l=>V0 l rfl rfl,fun Z Z Z f=>f,fun b o e Z Z=>sb b o e,y.nt⟩ xs),y.rel.own,y.rel.sep,y.rel.apart,(fun b o e=>sb b o (y.rel.base b o e)),y.rel.sub⟩
   keep:=fun b o e n ne=>(y.keep b o e n ne).elim (fun z=>by
    refine A0 z ?_;(repeat clear z);intro env he hf
    obtain ⟨_,FI⟩:=F env he;refine da FI ?_;(repeat clear FI);intro L _ _ _ hf' w _
    obtain rfl:=Option.some.inj (hf.symm.trans hf')
    refine F1 (y.ows b o e (hs b w)) fun o' e' n' q=>?_
    obtain ⟨sl,e2⟩:=hu b o' e' n'
    exact A2 _ e2 (fun q=>absurd w q) (q ne)) fun z=>z.imp fun Z z=>⟨sb _ _ z.1,z.2⟩
   grow:=y.grow
   alive:=fun b o e=>by
    by_cases c:t.cel b
    ·refine A0 c ?_;(repeat clear c);intro k lk q
     refine i4 (y.lv k lk) fun l' a d=>?_
     exact (y.rel.celA (C0 k l' (by refine f0 (a ..) (f0 (d ..) ?_);exact q))).imp fun Z z=>sb _ _ z.1
    ·by_cases w:t.ow b
     ·refine F1 (y.ows b o e w) fun o' e' n' Z=>?_
      exact (hu b o' e' n').elim fun sl e2=>⟨_,e2⟩
     ·by_cases x:ex b
      ·exact absurd x (hx b w)
      ·rcases y.keep b o e c x with ⟨env,he,hf⟩|z
       ·obtain ⟨_,JI⟩:=F env he;refine da JI ?_;(repeat clear JI);intro L _ _ _ hf' w' _
        obtain rfl:=Option.some.inj (hf.symm.trans hf')
        exact absurd (hs b w') w
       ·exact z.imp fun Z z=>sb _ _ z.1
   lv:=y.lv
   ow:=y.ow
   sl:=y.sl }
end
structure B0(C:Cx)(n:Nat)(fv:V)(args:List V)(σ:y0)(Q:X0)(X:y0→Prop):Prop where
 run:∀ r vals A l t s,t.σ=σ→G0 C t s.heap fv r→E0 C t s.heap args vals→Y0 C t s.heap→U1 t s.heap→Ff A l n→l4 l t s.heap →
  codeAny (model pw C.w) A (.call r ⟨vals,[]⟩) (fun res s'=>match res with
   | .ok (.ret v)=>D0 C t s Q v s'
   | .ok _=>False
   | .error e=>Z1 C no l none t s X e s') s
noncomputable def iP(u:V)(K:Int→Prop):Prop:=match u with | .int a=>K a|_=>False
noncomputable def sP(u:V)(K:Str→Prop):Prop:=match u with | .str a=>K a|_=>False
noncomputable def bP(u:V)(K:Bool→Prop):Prop:=match u with | .bool a=>K a|_=>False
noncomputable def gP(u:V)(K:Nat→Prop):Prop:=match u with | .g a=>K a|_=>False
noncomputable def aP(u:V)(K:Ag→List V→Prop):Prop:=match u with | .a A xs=>K A xs|_=>False
noncomputable def rP(u:V)(K:Nat→Prop):Prop:=match u with | .ref a=>K a|_=>False
noncomputable def nP(u:V)(K:Prop):Prop:=match u with | .none=>K|_=>False
noncomputable def lP(u:V)(K:List V→Prop):Prop:=aP u fun A xs=>match A with | .lst=>K xs|_=>False
noncomputable def oP{α:Type}(o:Option α)(K:α→Prop):Prop:=match o with|some a=>K a|none=>False
noncomputable def a1(l:List V)(K:V→Prop):Prop:=match l with|[]=>False|u::r=>match r with|[]=>K u|_::_=>False
noncomputable def a2(l:List V)(K:V→V→Prop):Prop:=match l with|[]=>False|u::r=>a1 r (K u)
noncomputable def a3(l:List V)(K:V→V→V→Prop):Prop:=match l with|[]=>False|u::r=>a2 r (K u)
noncomputable def Bf(b:Bool)(A B:Prop):Prop:=match b with|true=>A|false=>B
section
variable{u:V}
theorem Ac{K}:iP u K→∃ a,u = .int a∧K a:=by induction u using V.casesOn with|int a=>exact fun h=>C0 a rfl h|_=>exact False.elim
theorem Pr{K}:sP u K→∃ a,u = .str a∧K a:=by induction u using V.casesOn with|str a=>exact fun h=>C0 a rfl h|_=>exact False.elim
theorem kD{K}:bP u K→∃ a,u = .bool a∧K a:=by induction u using V.casesOn with|bool a=>exact fun h=>C0 a rfl h|_=>exact False.elim
theorem nG{K}:gP u K→∃ a,u = .g a∧K a:=by induction u using V.casesOn with|g a=>exact fun h=>C0 a rfl h|_=>exact False.elim
theorem Ja{K}:aP u K→∃ A xs,u = .a A xs∧K A xs:=by induction u using V.casesOn with|a A xs=>exact fun h=>W4 A xs rfl h|_=>exact False.elim
theorem Tv{K}:rP u K→∃ a,u = .ref a∧K a:=by induction u using V.casesOn with|ref a=>exact fun h=>C0 a rfl h|_=>exact False.elim
theorem Uz{K}:nP u K→u = .none∧K:=by induction u using V.casesOn with|none=>exact fun h=>⟨rfl,h⟩|_=>exact False.elim
theorem aj{K}(h:lP u K):∃ xs,u = .a .lst xs∧K xs:=by
 refine Y1 (Ja h) ?_;(repeat clear h);intro A xs vI h;obtain rfl:=vI
 induction A using Ag.casesOn with|lst=>exact C0 xs rfl h|_=>exact h.elim
theorem D6{α:Type}{o:Option α}{K}:oP o K→∃ a,o=some a∧K a:=by induction o using Option.casesOn with|some a=>exact fun h=>C0 a rfl h|none=>exact False.elim
theorem Fd{l K}:a1 l K→∃ u,l=[u]∧K u:=by
 induction l using List.casesOn with
 | nil=>exact False.elim
 | cons u r=>induction r using List.casesOn with|nil=>exact fun h=>C0 u rfl h|cons=>exact False.elim
theorem Zk{l K}:a2 l K→∃ u v,l=[u,v]∧K u v:=by
 induction l using List.casesOn with
 | nil=>exact False.elim
 | cons u r=>intro h;refine A0 (Fd h) ?_;(repeat clear h);intro v tI h;obtain rfl:=tI;exact W4 u v rfl h
end
noncomputable def K8(b:Bool)(K:Prop):Prop:=match b with|true=>K|false=>False
theorem V4{b:Bool}{K:Prop}:K8 b K→b=true∧K:=by induction b using Bool.casesOn with|true=>exact fun h=>⟨rfl,h⟩|false=>exact False.elim
noncomputable def D7{α:Type}:List (Option α)→Option (List α)
 | []=>some []
 | x::xs=>x.bind fun d=>(D7 xs).map (d::·)
noncomputable def E7:Nat→V→Option PyData
 | _,.none=>some .none
 | _,.bool b=>some (.bool b)
 | _,.int i=>some (.int i)
 | _,.str s=>if PyData.strOk s then some (.str s) else none
 | n+1,.a A xs=>(match A with | .lst=>(D7 (xs.map (E7 n))).map .list | .tup=>(D7 (xs.map (E7 n))).map .tuple|_=>none)
 | _,_=>none
noncomputable def N9(x y:V):Bool:=match x with
 | .a .lst xs=>(match y with | .a .lst ys=>xs.length !=ys.length|_=>false)
 | _=>false
noncomputable def wF(x y:V):Option Bool:=if N9 x y then some false else (E7 20 x).bind fun d=>(E7 20 y).map fun e=>PyData.eqv d e
noncomputable def K4{α:Type}(f:α→Bool):List α→Bool
 | []=>true
 | x::r=>f x&&K4 f r
noncomputable def oG:List Nat→List Nat→Bool
 | [],y=>y.isEmpty
 | a::x,y=>match y with|[]=>false|b::y=>Nat.beq a b&&oG x y
noncomputable def j6(a b:Str):Bool:=oG a.cps.toList b.cps.toList
noncomputable def Uv(s:Str):Bool:=K4 (fun c=>Nat.blt c 0x110000) s.cps.toList
noncomputable def n8:Nat→V→Bool
 | _,.none|_,.bool _|_,.int _=>true
 | _,.str s=>Uv s
 | n+1,.a A xs=>(match A with | .lst | .tup=>K4 (n8 n) xs|_=>false)
 | _,_=>false
noncomputable def Z6(f:V→V→Bool):List V→List V→Bool
 | [],y=>y.isEmpty
 | a::x,y=>match y with|[]=>false|b::y=>f a b&&Z6 f x y
noncomputable def bI(b:Bool):Int:=if b then 1 else 0
noncomputable def Ly(f:List V→Bool):V→Bool
 | .a A ys=>(match A with | .lst=>f ys|_=>false)
 | _=>false
noncomputable def My(f:List V→Bool):V→Bool
 | .a A ys=>(match A with | .tup=>f ys|_=>false)
 | _=>false
noncomputable def Vz:V→Bool
 | .none=>true
 | _=>false
noncomputable def pG(a:Bool):V→Bool
 | .bool b=>a==b
 | .int j=>bI a==j
 | _=>false
noncomputable def lD(i:Int):V→Bool
 | .bool b=>i==bI b
 | .int j=>i==j
 | _=>false
noncomputable def mD(s:Str):V→Bool
 | .str t=>j6 s t
 | _=>false
noncomputable def Q8:Nat→V→V→Bool
 | n+1,.a A xs=>(match A with | .lst=>Ly (Z6 (Q8 n) xs) | .tup=>My (Z6 (Q8 n) xs)|_=>fun Z=>false)
 | _,.none=>Vz
 | _,.bool a=>pG a
 | _,.int i=>lD i
 | _,.str s=>mD s
 | _,_=>fun Z=>false
noncomputable def cg(x y:V):Option Bool:=match N9 x y with|true=>some false|false=>gO (n8 20 x&&n8 20 y) (Q8 20 x y)
noncomputable def il{α:Type}(f:α→Bool):List α→Bool
 | []=>false
 | x::r=>f x||il f r
noncomputable def ll(x y:V):Option Bool:=match y with
 | .a A ys=>(match A with
  | .tup | .lst=>gO (n8 20 x&&K4 (n8 20) ys) (il (fun e=>Q8 20 e x) ys)
  | .ds ss=>(match x with | .str s=>some (il (j6 s) ss)|_=>none)
  | _=>none)
 | _=>none
noncomputable def isNone:V→Option Bool
 | .none=>some true
 | .bool _ | .int _ | .str _ | .ref _ | .a _ _=>some false
 | _=>none
noncomputable def mH(x y:V):Option Bool:=match y with
 | .a .tup ys | .a .lst ys=>(E7 20 x).bind fun d=>(D7 (ys.map (E7 20))).map fun es=>es.any fun e=>PyData.eqv e d
 | .a (.ds ss) _=>(match x with | .str s=>some (ss.contains s)|_=>none)
 | _=>none
noncomputable def ue(o:Tk)(x y:V)(K:Bool→Prop):Prop:=match o with
 | .eq=>oP (cg x y) K
 | .ne=>oP (cg x y) fun b=>K !b
 | .lt=>iP x fun a=>iP y fun b=>K (decide (a<b))
 | .le=>iP x fun a=>iP y fun b=>K (decide (a≤b))
 | .gt=>iP x fun a=>iP y fun b=>K (decide (b<a))
 | .ge=>iP x fun a=>iP y fun b=>K (decide (b≤a))
 | .is=>nP y (oP (isNone x) K)
 | .isn=>nP y (oP (isNone x) fun b=>K !b)
 | .isIn=>oP (ll x y) K
 | .nin=>oP (ll x y) fun b=>K !b
noncomputable def nth{α:Type}:List α→Nat→Option α
 | [],_=>none
 | x::_,0=>some x
 | _::r,k+1=>nth r k
noncomputable def ga{α:Type}(xs:List α):Int→Option α
 | .ofNat n=>nth xs n
 | .negSucc n=>if n<xs.length then nth xs (xs.length - 1 - n) else none
noncomputable def slL{α:Type}(xs:List α)(lo hi:Nat):List α:=(xs.drop lo).take (hi - lo)
noncomputable def G5(s:Str):List V:=s.cps.toList.map fun c => .str ⟨#[c]⟩
noncomputable def oD:List Nat→List V→Nat→Option V
 | n::ns,v::vs,x=>if n==x then some v else oD ns vs x
 | _,_,_=>none
noncomputable def Vq:List Str→List V→Str→Option V
 | n::ns,v::vs,x=>(match j6 n x with|true=>some v|false=>Vq ns vs x)
 | _,_,_=>none
noncomputable def nH:MK→MK→Bool
 | .none,y=>(match y with | .none=>true|_=>false)
 | .int i,y=>(match y with | .int j=>i==j|_=>false)
 | .str s,y=>(match y with | .str t=>j6 s t|_=>false)
noncomputable def Bv:List MK→List MK→Bool
 | [],y=>y.isEmpty
 | a::x,y=>match y with|[]=>false|b::y=>nH a b&&Bv x y
noncomputable def Qr:List (List MK)→List V→List MK→Option V
 | n::ns,v::vs,x=>(match Bv n x with|true=>some v|false=>Qr ns vs x)
 | _,_,_=>none
noncomputable def pD(T U:String):Bool:=T==U||(T=="bool"&&U=="int")
noncomputable def Ny:V→Option (String ⊕ Nat)
 | .none=>some (.inl "NoneType")
 | .bool _=>some (.inl "bool")
 | .int _=>some (.inl "int")
 | .str _=>some (.inl "str")
 | .g x=>if x<11 then none else some (.inl "function")
 | .a A _=>(match A with | .tup=>some (.inl "tuple") | .lst=>some (.inl "list") | .obj c _=>some (.inr c)|_=>none)
 | _=>none
noncomputable def bU:List (Nat×String):=[(8,"int"),(9,"bool"),(4,"str"),(10,"tuple"),(11,"list")]
noncomputable def Wz(t:String ⊕ Nat)(U:String):Bool:=match t with | .inl T=>pD T U | .inr _=>false
noncomputable def Vv(t:String ⊕ Nat)(x:Nat):Bool:=match t with | .inl _=>false | .inr c=>Iv c x
noncomputable def ve(t:String ⊕ Nat):V→Option Bool
 | .b x=>(bU.lookup x).map (Wz t)
 | .g x=>if x<11 then some (Vv t x) else none
 | _=>none
noncomputable def Oy(t:String ⊕ Nat):V→Option Bool
 | .a A xs=>(match A with | .tup=>(match xs with|[c,d]=>(ve t c).bind fun a=>(ve t d).map fun b=>a||b|_=>none)|_=>none)
 | c=>ve t c
noncomputable def der(σ:y0):V→V
 | .ref k=>(A1 σ k).getD .none
 | u=>u
noncomputable def Y8(σ:y0)(u:V)(K:V→Prop):Prop:=K (der σ u)
noncomputable def Oi(m:Md)(v:V)(σ:y0)(Q:X0):Prop:=match m with
 | .fz=>Q v σ
 | .pick=>∃ k,A1 σ k=none∧Q (.ref k) (R2 σ k (some v))
noncomputable def db(n:Nat):Prop:=n≤1000000
noncomputable def pb(n:Nat)(K:Prop):Prop:=K8 (Nat.ble n 1000000) K
theorem S5{n:Nat}{K:Prop}(h:pb n K):db n∧K:=(V4 h).imp Nat.le_of_ble_eq_true id
noncomputable def Dp(p:Prop)[Decidable p](K:Prop):Prop:=K8 (decide p) K
theorem Z8{p:Prop}[Decidable p]{K:Prop}(h:Dp p K):p∧K:=(V4 h).imp of_decide_eq_true id
noncomputable def qD(o:rC)(u v:V)(σ:y0)(Q:X0):Prop:=match o with
 | .add=>(match u with
  | .str s=>sP v fun t=>K8 (Nat.ble s.length 100000) <| K8 (Nat.ble t.length 100000) <| Q (.str (s++t)) σ
  | u=>iP u fun a=>iP v fun b=>Q (.int (a+b)) σ)
 | .mul=>(match u with
  | .str s=>iP v fun n=>Dp (0≤n) <| K8 (Nat.ble n.natAbs 10) <| K8 (Nat.beq s.length 1) <| Q (.str (Txt.mul s n)) σ
  | u=>iP u fun a=>iP v fun b=>K8 (Nat.blt a.natAbs (2 ^ 60)||Nat.blt b.natAbs (2 ^ 60)) <| Q (.int (a*b)) σ)
 | .sub=>iP u fun a=>iP v fun b=>Q (.int (a - b)) σ
 | .fdiv=>iP u fun a=>iP v fun b=>Dp (0<b) <| K8 (Nat.blt b.natAbs 1073741824) <| Q (.int (a / b)) σ
 | .mod=>iP u fun a=>iP v fun b=>Dp (0<b) <| Q (.int (a % b)) σ
 | .pow=>iP u fun a=>iP v fun b=>Dp (0≤b) <| Dp (b≤100) <| Dp (a=10) <| Q (.int (a ^ b.toNat)) σ
noncomputable def Xz(u i:V)(σ:y0)(Q:X0):Prop:=match u with
 | .str s=>iP i fun i=>pb s.length <| oP (ga (G5 s) i) fun v=>Q v σ
 | u=>aP u fun A xs=>match A with
  | .tup | .lst=>iP i fun i=>oP (ga xs i) fun v=>Q v σ
  | .ds ss=>sP i fun s=>oP (Vq ss xs s) fun v=>Q v σ
  | _=>False
noncomputable def Yz(n:Nat)(v:V)(K:Nat→Prop):Prop:=iP v fun i=>K (clipAt n i)
noncomputable def Py(m:Md)(u lo:V)(σ:y0)(Q:X0):Prop:=aP u fun A xs=>match A with
 | .lst=>Yz xs.length lo fun l=>Oi m (.a .lst (xs.drop l)) σ Q
 | .tup=>iP lo fun i=>Dp (0≤i) <| Dp (i≤xs.length) <| Q (.a .tup (xs.drop i.toNat)) σ
 | _=>False
noncomputable def En:V→Option Str
 | .none=>some "None"
 | .bool b=>some (if b then "True" else "False")
 | .int i=>gO (Nat.blt i.natAbs 1000) (Str.ofString (toString i))
 | .str s=>gO (j6 s ⟨#[115,121,109]⟩||j6 s ⟨#[97]⟩) (reprText s)
 | _=>none
noncomputable def rD(u:V)(σ:y0)(Q:X0):Prop:=match u with
 | .str s=>pb s.length <| Q (.int s.length) σ
 | u=>aP u fun A xs=>match A with | .lst | .tup=>Q (.int xs.length) σ|_=>False
noncomputable def oH(f:BF)(l:List V)(σ:y0)(Q:X0):Prop:=match f with
 | .len=>a1 l fun u=>Y8 σ u fun u=>rD u σ Q
 | .isinst=>a2 l fun u c=>Y8 σ u fun u=>oP (Ny u) fun t=>oP (Oy t c) fun b=>Q (.bool b) σ
 | .repr=>a1 l fun u=>oP (En u) fun s=>Q (.str s) σ
 | .str=>a1 l fun u=>(match u with | .str s=>Q (.str s) σ|u=>iP u fun i=>K8 (Nat.blt i.natAbs 1000000) <| ∀ s:Str,s.length≤1000→Q (.str s) σ)
 | .abs=>a1 l fun u=>iP u fun i=>Q (.int i.natAbs) σ
 | .max2=>a2 l fun u v=>iP u fun i=>iP v fun j=>Q (.int (max i j)) σ
noncomputable def qG(o:Op)(l:List V)(σ:y0)(Q:X0):Prop:=match o with
 | .bin o=>a2 l fun u v=>qD o u v σ Q
 | .cat m=>a2 l fun u v=>Y8 σ u fun u=>lP u fun xs=>Y8 σ v fun v=>lP v fun ys=>pb (xs++ys).length <| Oi m (.a .lst (xs++ys)) σ Q
 | .rep m=>a2 l fun u v=>lP u fun xs=>a1 xs fun x=>iP v fun n=>Dp (0≤n) <| K8 (Nat.ble n.natAbs 1000000) <| Oi m (.a .lst (List.replicate n.toNat x)) σ Q
 | .neg=>a1 l fun u=>iP u fun i=>Q (.int (-i)) σ
 | .not=>a1 l fun u=>bP u fun b=>Q (.bool !b) σ
 | .cmp o=>a2 l fun u v=>Y8 σ u fun u=>Y8 σ v fun v=>ue o u v fun b=>Q (.bool b) σ
 | .list m=>Oi m (.a .lst l) σ Q
 | .tup=>Q (.a .tup l) σ
 | .lstar=>a2 l fun u v=>aP v fun A ys=>match A with | .tup | .lst=>pb (ys.length+1) <| Q (.a .lst (u::ys)) σ|_=>False
 | .ds ss m=>Oi m (.a (.ds ss) l) σ Q
 | .dt m=>Oi m (.a (.dt []) []) σ Q
 | .attr x=>a1 l fun u=>Y8 σ u fun u=>aP u fun A xs=>match A with | .obj _ ns=>oP (oD ns xs x) fun v=>Q v σ|_=>False
 | .sub=>a2 l fun u i=>Y8 σ u fun u=>Xz u i σ Q
 | .slLo m=>a2 l fun u lo=>Y8 σ u fun u=>Py m u lo σ Q
 | .slHi m=>a2 l fun u hi=>Y8 σ u fun u=>lP u fun xs=>Yz xs.length hi fun h=>Oi m (.a .lst (xs.take h)) σ Q
 | .slBoth m=>a3 l fun u lo hi=>Y8 σ u fun u=>lP u fun xs=>Yz xs.length lo fun a=>Yz xs.length hi fun h=>Oi m (.a .lst (slL xs a h)) σ Q
 | .rev=>a1 l fun u=>Y8 σ u fun u=>lP u fun xs=>Q (.a .lst xs.reverse) σ
 | .bf f=>oH f l σ Q
noncomputable def Ep(σ:y0)(u:V)(K:Nat→List V→Prop):Prop:=rP u fun k=>oP (A1 σ k) fun c=>lP c fun xs=>K k xs
noncomputable def sD:V→Option MK
 | .none=>some .none
 | .int i=>some (.int i)
 | .str s=>some (.str s)
 | _=>none
noncomputable def bj:List V→Option (List MK)
 | []=>some []
 | x::r=>(sD x).bind fun k=>(bj r).map (k::·)
noncomputable def kP(u:V)(K:List MK→Prop):Prop:=aP u fun A xs=>match A with | .tup=>oP (bj xs) K|_=>False
noncomputable def tD(u k:V)(K:Option V→Prop):Prop:=aP u fun A xs=>match A with
 | .ds ss=>sP k fun s=>K (Vq ss xs s)
 | .dt kk=>kP k fun t=>K (Qr kk xs t)
 | _=>False
noncomputable def CM.get:CM→Bool
 | .get1 | .get2=>true
 | _=>false
noncomputable def Sr(f:CM):V→Bool
 | .a .lst _=>!f.get
 | .a (.ds _) _ | .a (.dt _) _=>f.get
 | _=>false
noncomputable def xF(f:CM)(o:V)(l:List V)(σ:y0)(Q:X0):Prop :=
 let up (k:Nat) (xs:List V) (v:V):=Q v (R2 σ k (some (.a .lst xs)))
 match f with
 | .append=>a1 l fun v=>Ep σ o fun k xs=>pb (xs.length+1) <| up k (xs++[v]) .none
 | .pop0=>Ep σ o fun k xs=>oP xs.getLast? fun v=>match l with|[]=>up k xs.dropLast v|_=>False
 | .pop1=>a1 l fun i=>Ep σ o fun k xs=>iP i fun i=>Dp (0≤i) <| oP (nth xs i.toNat) fun v=>up k (xs.eraseIdx i.toNat) v
 | .extend=>a1 l fun v=>Ep σ o fun k xs=>aP v fun A ys=>match A with | .lst=>pb (xs++ys).length <| up k (xs++ys) .none|_=>False
 | .insert=>a2 l fun i v=>Ep σ o fun k xs=>iP i fun i=>Dp (0≤i) <| K8 (Nat.ble i.toNat xs.length) <| pb (xs.length+1) <| up k (xs.take i.toNat++v::xs.drop i.toNat) .none
 | .get1=>a1 l fun k=>Y8 σ o fun o=>tD o k fun r=>Q (r.getD .none) σ
 | .get2=>a2 l fun k d=>Y8 σ o fun o=>tD o k fun r=>Q (r.getD d) σ
noncomputable def we(ts:List Nat)(pat:Bool)(x:V)(ρ:y0)(K:y0→Prop):Prop:=match pat with
 | false=>(match ts with|[i]=>K (R2 ρ i (some x))|_=>False)
 | true=>aP x fun A xs=>match A with | .tup=>(match ts with|[i,j]=>a2 xs fun x y=>K (R2 (R2 ρ i (some x)) j (some y))|_=>False)|_=>False
noncomputable def gd(g:Option Nat)(xs:List V)(σ:y0):Prop:=match g with|none=>True|some k=>A1 σ k=some (.a .lst xs)
noncomputable def R8(g:Option Nat)(xs:List V)(σ:y0)(K:Prop):Prop:=match g with|none=>K|some k=>A1 σ k=some (.a .lst xs)∧K
theorem sd{g:Option Nat}{xs:List V}{σ:y0}{K:Prop}:R8 g xs σ K→gd g xs σ∧K:=by induction g using Option.casesOn with|none=>exact fun h=>⟨trivial,h⟩|some k=>exact id
noncomputable def Z4(f:y0→y0→(Option V→y0→Prop)→Prop)(ρ:y0)(ts:List Nat)(pat:Bool)(G:y0→Prop→Prop):List V→y0→List V→(List V→y0→Prop)→Prop
 | [],σ,acc,Q=>G σ (Q acc σ)
 | x::xs,σ,acc,Q=>G σ (we ts pat x ρ fun ρ'=>f ρ' σ fun o σ'=>Z4 f ρ ts pat G xs σ' (acc++o.toList) Q)
noncomputable def P3(f:y0→y0→(y0→y0→Prop)→Prop)(ts:List Nat)(pat:Bool)(G:y0→Prop→Prop):List V→y0→y0→(y0→y0→Prop)→Prop
 | [],ρ,σ,N=>G σ (N ρ σ)
 | x::xs,ρ,σ,N=>G σ (we ts pat x ρ fun ρ'=>f ρ' σ fun ρ σ'=>P3 f ts pat G xs ρ σ' N)
noncomputable def L4(a b:Int):List V:=(List.range (b - a).toNat).map fun (i:Nat)=>V.int (a+i)
noncomputable def qb(xs:List V):List V:=xs.zipIdx.map fun p => .a .tup [.int p.2,p.1]
noncomputable abbrev pH:=List V→Option Nat→Prop
noncomputable def rG(a b:Int)(K:List V→Prop):Prop:=K8 (Nat.ble a.natAbs 1000000) <| K8 (Nat.ble b.natAbs 1000000) <| K8 (Nat.ble (b - a).toNat 1000000) <| K (L4 a b)
noncomputable def uD(ik:IK)(l:List V)(σ:y0)(K:pH):Prop:=match ik with
 | .val=>a1 l fun u=>(match u with
  | .ref k=>oP (A1 σ k) fun c=>lP c fun xs=>K xs (some k)
  | .str s=>pb s.length <| K (G5 s) none
  | u=>aP u fun A xs=>match A with | .tup | .lst=>K xs none|_=>False)
 | .range=>a1 l fun u=>iP u fun b=>rG 0 b fun xs=>K xs none
 | .range2=>a2 l fun u v=>iP u fun a=>iP v fun b=>rG a b fun xs=>K xs none
 | .enum=>a1 l fun u=>(match u with
  | .str s=>pb s.length <| K (qb (G5 s)) none
  | u=>lP u fun xs=>K (qb xs) none)
 | .vals=>a1 l fun u=>aP u fun A xs=>match A with | .ds _ | .dt _=>pb xs.length <| K xs none|_=>False
noncomputable abbrev LP:=List V→y0→Prop
noncomputable abbrev F7:=(y0→Prop)→V→List V→y0→X0→Prop
noncomputable def cO(C:Cx)(n:Nat):F7:=fun X f l σ Q=>B0 C n f l σ Q X
noncomputable abbrev dg:y0→Prop:=fun Z=>False
noncomputable def w5(L:F7)(X:y0→Prop):E→y0→y0→LP→Prop
 | .k v,ρ,σ,Q=>Q [v] σ
 | .loc i,ρ,σ,Q=>oP (A1 ρ i) fun v=>Q [v] σ
 | .gl x,ρ,σ,Q=>Q [.g x] σ
 | .gc x,ρ,σ,Q=>oP (nth cV x) fun v=>Q [v] σ
 | .bl x,ρ,σ,Q=>Q [.b x] σ
 | .op o es,ρ,σ,Q=>w5 L X es ρ σ fun l σ=>qG o l σ fun v σ=>Q [v] σ
 | .and a b,ρ,σ,Q=>w5 L X a ρ σ fun l σ=>a1 l fun u=>bP u fun c=>Bf c (w5 L X b ρ σ Q) (Q [.bool false] σ)
 | .or a b,ρ,σ,Q=>w5 L X a ρ σ fun l σ=>a1 l fun u=>bP u fun c=>Bf c (Q [.bool true] σ) (w5 L X b ρ σ Q)
 | .ite c a b,ρ,σ,Q=>w5 L X c ρ σ fun l σ=>a1 l fun u=>bP u fun c=>Bf c (w5 L X a ρ σ Q) (w5 L X b ρ σ Q)
 | .cmp2 o o' a b c,ρ,σ,Q=>w5 L X a ρ σ fun l σ=>a1 l fun u=>w5 L X b ρ σ fun l σ=>a1 l fun v=>ue o u v fun r=>Bf r (w5 L X c ρ σ fun l σ=>a1 l fun w=>ue o' v w fun r=>Q [.bool r] σ) (Q [.bool false] σ)
 | .call f es,ρ,σ,Q=>w5 L X f ρ σ fun l σ=>a1 l fun u=>gP u fun x=>w5 L X es ρ σ fun l σ=>L X (.g x) l σ (fun v σ=>Q [v] σ)
 | .meth x o es,ρ,σ,Q=>w5 L X o ρ σ fun l σ=>a1 l fun u=>aP (der σ u) fun A Z=>match A with
  | .obj c _=>K8 (oh c x) <| w5 L X es ρ σ fun l σ=>L X (.m c x) (u::l) σ (fun v σ=>Q [v] σ)
  | _=>False
 | .cmeth c x es,ρ,σ,Q=>K8 (oh c x) <| w5 L X es ρ σ fun l σ=>L X (.m c x) l σ (fun v σ=>Q [v] σ)
 | .cm f o es,ρ,σ,Q=>w5 L X o ρ σ fun l σ=>a1 l fun u=>K8 (Sr f (der σ u)) <| w5 L X es ρ σ fun l σ=>xF f u l σ fun v σ=>Q [v] σ
 | .comp nx fv ts pat ik m it e c,ρ,σ,Q=>K8 (K4 (fun i=>(A1 ρ i).isSome) fv) <| w5 L X it ρ σ fun l σ=>uD ik l σ fun xs g =>
   Z4 (fun ρ' σ' K=>w5 L dg c ρ' σ' fun l σ'=>a1 l fun u=>bP u fun b=>Bf b (w5 L dg e ρ' σ' fun l σ'=>a1 l fun v=>K (some v) σ') (K none σ'))
    (ρ.take nx) ts pat (R8 g xs) xs σ [] fun ys σ=>Oi m (.a .lst ys) σ fun v σ=>Q [v] σ
 | .nil,ρ,σ,Q=>Q [] σ
 | .cons e es,ρ,σ,Q=>w5 L X e ρ σ fun l σ=>a1 l fun u=>w5 L X es ρ σ fun vs σ=>Q (u::vs) σ
 | .dead,_,_,_=>False
noncomputable def V7{α:Type}[DecidableEq α]:List α→List V→α→V→List α×List V
 | n::ns,v::vs,x,w=>if n=x then (n::ns,w::vs) else (n::(V7 ns vs x w).1,v::(V7 ns vs x w).2)
 | _,_,x,w=>([x],[w])
noncomputable def Zz{α:Type}(f:α→α→Bool):List α→List V→α→V→(List α→List V→Prop)→Prop
 | n::ns,v::vs,x,w,K=>(match f n x with|true=>K (n::ns) (w::vs)|false=>Zz f ns vs x w fun ns' vs'=>K (n::ns') (v::vs'))
 | _,_,x,w,K=>K [x] [w]
noncomputable def vD(xs:List V)(i:Int)(v:V)(K:List V→Prop):Prop:=match i with
 | .ofNat n=>K8 (Nat.blt n xs.length) <| K (xs.set n v)
 | .negSucc n=>K8 (Nat.blt n xs.length) <| K (xs.set (xs.length - 1 - n) v)
noncomputable def Qy(A:Ag)(xs:List V)(j v:V)(G:Ag→List V→Prop):Prop:=match A with
 | .lst=>iP j fun i=>vD xs i v fun xs=>G .lst xs
 | .ds ss=>sP j fun s=>pb ss.length <| Zz j6 ss xs s v fun ss xs=>G (.ds ss) xs
 | .dt kk=>kP j fun t=>pb kk.length <| Zz Bv kk xs t v fun kk xs=>G (.dt kk) xs
 | _=>False
noncomputable def sG(L:F7)(X:y0→Prop)(t:T)(ρ:y0)(v:V)(σ:y0)(N:y0→y0→Prop):Prop:=match t with
 | .loc i=>N (R2 ρ i (some v)) σ
 | .attr a x=>w5 L X a ρ σ fun l σ=>a1 l fun u=>rP u fun k=>oP (A1 σ k) fun c=>aP c fun A xs=>match A with
  | .obj c ns=>Zz Nat.beq ns xs x v fun ns xs=>N ρ (R2 σ k (some (.a (.obj c ns) xs)))
  | _=>False
 | .sub a i=>w5 L X a ρ σ fun l σ=>a1 l fun u=>w5 L X i ρ σ fun l σ=>a1 l fun j=>rP u fun k=>oP (A1 σ k) fun c=>aP c fun A xs=>Qy A xs j v fun A xs=>N ρ (R2 σ k (some (.a A xs)))
noncomputable def Wv(L:F7)(X:y0→Prop):List T→List V→y0→y0→(y0→y0→Prop)→Prop
 | [],[],ρ,σ,N=>N ρ σ
 | t::ts,v::vs,ρ,σ,N=>sG L X t ρ v σ fun ρ σ=>Wv L X ts vs ρ σ N
 | _,_,_,_,_=>False
noncomputable def I4(L:F7)(X:y0→Prop):S→y0→y0→(y0→y0→Prop)→X0→Prop
 | .asg t e,ρ,σ,N,_=>w5 L X e ρ σ fun l σ=>a1 l fun v=>sG L X t ρ v σ N
 | .asgs ts e,ρ,σ,N,_=>w5 L X e ρ σ fun l σ=>a1 l fun v=>aP v fun A vs=>match A with | .tup=>K8 (Nat.beq vs.length ts.length) <| Wv L X ts vs ρ σ N|_=>False
 | .expr e,ρ,σ,N,_=>w5 L X e ρ σ fun Z σ=>N ρ σ
 | .ret e,ρ,σ,_,R=>w5 L X e ρ σ fun l σ=>a1 l fun v=>R v σ
 | .ife c a b,ρ,σ,N,R=>w5 L X c ρ σ fun l σ=>a1 l fun u=>bP u fun c=>Bf c (I4 L X a ρ σ N R) (I4 L X b ρ σ N R)
 | .whl c b,ρ,σ,N,R=>∃ I:Nat→y0→y0→Prop,(∃ k,I k ρ σ)∧∀ k ρ σ,I k ρ σ→w5 L X c ρ σ fun l σ=>a1 l fun u=>bP u fun c=>Bf c (I4 L X b ρ σ (fun ρ σ=>∃ m,m<k∧I m ρ σ) R) (N ρ σ)
 | .fr ts pat ik it b,ρ,σ,N,R=>w5 L X it ρ σ fun l σ=>uD ik l σ fun xs g=>P3 (fun ρ σ N=>I4 L X b ρ σ N R) ts pat (R8 g xs) xs ρ σ N
 | .tryret e,ρ,σ,_,R=>w5 L (fun σ=>R .none σ) e ρ σ fun l σ=>a1 l fun v=>R v σ
 | .pass,ρ,σ,N,_=>N ρ σ
 | .nil,ρ,σ,N,_=>N ρ σ
 | .cons s ss,ρ,σ,N,R=>I4 L X s ρ σ (fun ρ σ=>I4 L X ss ρ σ N R) R
 | .dead,_,_,_,_=>False
noncomputable abbrev vc(C:Cx)(n:Nat):=w5 (cO C n)
open PySem.Calls
structure Lv(C:Cx)(n:Nat) where
 f:F7
 ok:∀ X g l σ Q,f X g l σ Q→B0 C n g l σ Q X
noncomputable def Lv.self(C:Cx)(n:Nat):Lv C n:=⟨cO C n,fun Z Z Z Z Z q=>q⟩
structure Bk where
 C:Cx
 n:Nat
 b:M5
 L:Lv C n
structure Fr where
 A:Around
 l:List Env
 en:Env
 ρ:y0
 X:y0→Prop
noncomputable def aA(en:Env)(b:M5):Prop:=∀ x,en.kindOf x=b.kd x∨(b.kd x=some .free∧en.kindOf x=some .cell)
structure W0(B:Bk)(K:Fr)(t:St)(s:Shared):Prop where
 ok:B.C.Ok
 amb:Ky K.A K.l B.n
 fr:l4 K.l t s.heap
 sc:aA K.en B.b
 env:Sv B.C K.en B.b.tb K.ρ t s.heap
 rel:Y0 B.C t s.heap
 own:U1 t s.heap
 oa:∀ b,i3 K.en b→t.ow b
noncomputable abbrev XP(B:Bk)(K:Fr)(t:St)(s:Shared):Value→Shared→Prop:=Z1 B.C no K.l none t s K.X
noncomputable abbrev Wp(B:Bk)(K:Fr){α:Type}(t:St)(s:Shared)(m:Sem α)(G:α→Shared→Prop)(s':Shared):Prop:=wpAny (model pw B.C.w) K.A m G (XP B K t s) s'
noncomputable abbrev WE(B:Bk)(K:Fr)(t:St)(s:Shared)(m:Sem Value)(Q:X0):Prop:=Wp B K t s m (D0 B.C t s Q) s
noncomputable abbrev td(C:Cx)(t:St)(s:Shared)(Q:Bool→y0→Prop)(c:Bool)(s':Shared):Prop:=∃ t',O3 C no t s t' s'∧Q c t'.σ
noncomputable abbrev VB(L:F7)(X:y0→Prop)(p:E)(ρ σ:y0)(Q:Bool→y0→Prop):Prop:=w5 L X p ρ σ fun l σ=>a1 l fun u=>bP u fun c=>Q c σ
noncomputable def SE(B:Bk)(e:Expr)(p:E):Prop:=∀ K t s Q,W0 B K t s→w5 B.L.f K.X p K.ρ t.σ Q→WE B K t s (eval e K.en) fun v σ=>Q [v] σ
noncomputable def SB(B:Bk)(e:Expr)(p:E):Prop:=∀ K t s Q,W0 B K t s→VB B.L.f K.X p K.ρ t.σ Q→Wp B K t s (isTrue e K.en (eval e K.en)) (td B.C t s Q) s
inductive SL(B:Bk):List Expr→E→Prop
 | nil:SL B [] .nil
 | cons {e p es q}:SE B e p→Q4 e=true→SL B es q→SL B (e::es) (.cons p q)
noncomputable def Q6(C:Cx)(t:St)(h:Heap)(w:V)(r:Value):Prop:=match w with
 | .a K xs=>∃ a d rs,r = .ref a∧Sh C h a d rs K∧E0 C t h xs rs
 | w=>G0 C t h w r
section
variable{B:Bk}{K:Fr}{t t' t'':St}{s s' s'':Shared}{Q P:X0}
theorem G0.d{C:Cx}{h:Heap}{w:V}{r:Value}(x:G0 C t h w r):Q6 C t h w r:=by
 induction w using V.casesOn with
 | a K xs=>exact x.imp fun Z x=>x.imp fun Z x=>x.imp fun Z z=>⟨z.1,z.2.2.2⟩
 | _=>exact x
theorem G0.der{C:Cx}{h:Heap}{w:V}{r:Value}(x:G0 C t h w r)(R:Y0 C t h):Q6 C t h (der t.σ w) r:=by
 induction w using V.casesOn with
 | ref k =>
  obtain ⟨wI,rfl⟩:=x;obtain ⟨v,e⟩:=wI
  refine R5 (R.cell k v e) ?_;intro K xs rs MI _ sh vr;obtain rfl:=MI
  show Q6 C t h ((A1 t.σ k).getD .none) _
  refine f0 (e ..) ?_
  exact Gv _ _ rs rfl sh vr
 | _=>exact x.d
theorem W0.ext(h:W0 B K t s)(x:O3 B.C no t s t' s'):W0 B K t' s' :=
 ⟨h.ok,h.amb,h.fr.tr h.rel x.tr fun Z Z Z Z=>id,h.sc,h.env.tr h.rel x.tr (x.tr.mo (fun Z=>False.elim) h.rel h.own) fun Z Z=>id,x.tr.rel,h.own.tr0 h.rel x.tr,fun b hb=>x.tr.ow▸h.oa b hb⟩
theorem W0.mo(h:W0 B K t s)(x:O3 B.C no t s t' s'):Mo t s.heap t' s'.heap:=x.tr.mo (fun Z=>False.elim) h.rel h.own
theorem W0.refl(h:W0 B K t s):O3 B.C no t s t s := .refl h.rel
theorem W0.inK(h:W0 B K t s):B.C.K.In s.heap:=h.ok.inB.keeps h.rel.base
theorem WE.go{m:Sem Value}{G:Value→Shared→Prop}(h:W0 B K t s)(x:O3 B.C no t s t' s')(w:WE B K t' s' m P)
  (go:∀ t'' s'' u r,W0 B K t'' s''→O3 B.C no t s t'' s''→Mo t' s'.heap t'' s''.heap→G0 B.C t'' s''.heap u r→P u t''.σ→G r s''):Wp B K t s m G s' :=
 wpAny_mono w (fun r s'' p=>p.elim fun t'' p=>p.elim fun u z=>go t'' s'' u r ((h.ext x).ext z.1) (x.trans z.1) ((h.ext x).mo z.1) z.2.1 z.2.2) fun Z Z y=>Z1.trans h.rel x y
theorem WE.base{m:Sem Value}(h:W0 B K t s)(x:O3 B.C no t s t' s')(w:WE B K t' s' m Q):Wp B K t s m (D0 B.C t s Q) s' :=
 wpAny_mono w (fun Z Z y=>D0.trans x y) fun Z Z y=>Z1.trans h.rel x y
theorem WB.go{m:Sem Bool}{P:Bool→y0→Prop}{G:Bool→Shared→Prop}(h:W0 B K t s)(x:O3 B.C no t s t' s')(w:Wp B K t' s' m (td B.C t' s' P) s')
  (go:∀ t'' s'' c,W0 B K t'' s''→O3 B.C no t s t'' s''→Mo t' s'.heap t'' s''.heap→P c t''.σ→G c s''):Wp B K t s m G s' :=
 wpAny_mono w (fun c s'' p=>p.elim fun t'' z=>go t'' s'' c ((h.ext x).ext z.1) (x.trans z.1) ((h.ext x).mo z.1) z.2) fun Z Z y=>Z1.trans h.rel x y
theorem WB.base{m:Sem Bool}{P:Bool→y0→Prop}(h:W0 B K t s)(x:O3 B.C no t s t' s')(w:Wp B K t' s' m (td B.C t' s' P) s'):Wp B K t s m (td B.C t s P) s' :=
 wpAny_mono w (fun Z Z p=>p.imp fun Z z=>⟨x.trans z.1,z.2⟩) fun Z Z y=>Z1.trans h.rel x y
theorem O3.toks{C:Cx}{ex:Addr→Prop}(x:O3 C ex t s t' s'){k:Nat}:O3 C ex t s t' { s' with toks:=k }:=⟨x.tr,x.gens,x.os⟩
theorem D0.now{C:Cx}{v:V}{r:Value}(R:Y0 C t s.heap)(vr:G0 C t s.heap v r)(q:Q v t.σ):D0 C t s Q r s:=L1 t v (.refl R) vr q
theorem D0.tok{C:Cx}{v:V}{r:Value}{k:Nat}(R:Y0 C t s.heap)(vr:G0 C t s.heap v r)(q:Q v t.σ):D0 C t s Q r { s with toks:=k }:=L1 t v ((O3.refl R).toks) vr q
theorem D0.int{C:Cx}{i:Int}{k:Nat}{u:Tok}(R:Y0 C t s.heap)(q:Q (.int i) t.σ):D0 C t s Q (.int i u) { s with toks:=k } := .tok (v := .int i) R ⟨u,rfl⟩ q
theorem D0.str{C:Cx}{i:Str}{k:Nat}{u:Tok}(R:Y0 C t s.heap)(q:Q (.str i) t.σ):D0 C t s Q (.str i u) { s with toks:=k } := .tok (v := .str i) R ⟨u,rfl⟩ q
theorem D0.bool{C:Cx}{c:Bool}(R:Y0 C t s.heap)(q:Q (.bool c) t.σ):D0 C t s Q (.bool c) s:=L1 t (.bool c) (.refl R) rfl q
theorem E0.len{C:Cx}{h:Heap}:∀ {vs:List V} {rs:List Value},E0 C t h vs rs→rs.length=vs.length
 | [],_,e=>congrArg List.length e
 | _::_,_,e=>e.elim fun Z e=>e.elim fun Z z=>(congrArg List.length z.1).trans (congrArg Nat.succ (E0.len z.2.2))
theorem E0.append{C:Cx}{h:Heap}:∀ {vs ws:List V} {rs qs:List Value},E0 C t h vs rs→E0 C t h ws qs→E0 C t h (vs++ws) (rs++qs)
 | [],_,_,_,e,y=>(show _=[] from e)▸y
 | _::_,_,_,_,e,y=>e.elim fun r e=>e.elim fun rt z=>L1 r (rt++_) (congrArg (·++_) z.1) z.2.1 (E0.append z.2.2 y)
theorem E0.nth{C:Cx}{h:Heap}:∀ {vs:List V} {rs:List Value} {i:Nat} {v:V},E0 C t h vs rs→Mine.nth vs i=some v→∃ r,rs[i]?=some r∧G0 C t h v r
 | [],_,_,_,_,e=>nn e
 | _::_,_,0,_,x,e=>x.elim fun r x=>x.elim fun rt z=>C0 r (by refine f0 (z.1 ..) ?_;rfl) (Option.some.inj e▸z.2.1)
 | _::_,_,i+1,_,x,e=>x.elim fun r x=>x.elim fun rt z=>(E0.nth (i:=i) z.2.2 e).imp fun Z y=>⟨by refine f0 (z.1 ..) ?_;exact y.1,y.2⟩
theorem E0.set{C:Cx}{h:Heap}{v:V}{r:Value}(y:G0 C t h v r):∀ {vs:List V} {rs:List Value},E0 C t h vs rs→∀ i,E0 C t h (vs.set i v) (rs.set i r)
 | [],_,e,_=>(show _=[] from e)▸rfl
 | _::_,_,e,0=>e.elim fun Z e=>e.elim fun rt z=>L1 r rt (congrArg (List.set · 0 r) z.1) y z.2.2
 | _::_,_,e,i+1=>e.elim fun r' e=>e.elim fun rt z=>L1 r' _ (congrArg (List.set · (i+1) r) z.1) z.2.1 (E0.set y z.2.2 i)
theorem E0.take{C:Cx}{h:Heap}:∀ {vs:List V} {rs:List Value} (n:Nat),E0 C t h vs rs→E0 C t h (vs.take n) (rs.take n)
 | [],_,n,e=>by refine f0 (show _=[] from e) (f0 (List.take_nil ..) (f0 (List.take_nil ..) ?_));rfl
 | _::_,_,0,_=>rfl
 | _::_,_,n+1,e=>e.elim fun r e=>e.elim fun rt z=>L1 r (rt.take n) (congrArg (List.take (n+1)) z.1) z.2.1 (E0.take n z.2.2)
theorem E0.drop{C:Cx}{h:Heap}:∀ {vs:List V} {rs:List Value} (n:Nat),E0 C t h vs rs→E0 C t h (vs.drop n) (rs.drop n)
 | [],_,n,e=>by refine f0 (show _=[] from e) (f0 (List.drop_nil ..) (f0 (List.drop_nil ..) ?_));rfl
 | _::_,_,0,e=>e
 | _::_,_,n+1,e=>e.elim fun r e=>e.elim fun rt z=>(congrArg (List.drop (n+1)) z.1).symm▸E0.drop n z.2.2
theorem E0.rev{C:Cx}{h:Heap}:∀ {vs:List V} {rs:List Value},E0 C t h vs rs→E0 C t h vs.reverse rs.reverse
 | [],_,e=>(show _=[] from e)▸rfl
 | x::xs,_,e=>e.elim fun r e=>e.elim fun rt z=>by
  refine f0 (z.1 ..) (f0 (List.reverse_cons ..) (f0 (List.reverse_cons ..) ?_))
  exact (E0.rev z.2.2).append (L1 r [] rfl z.2.1 rfl)
theorem E0.two{C:Cx}{h:Heap}{u v:V}{r r':Value}(x:G0 C t h u r)(y:G0 C t h v r'):E0 C t h [u,v] [r,r']:=L1 r _ rfl x ⟨r',_,rfl,y,rfl⟩
theorem SL.one{x:Expr}{p:E}(w:SL B [x] p):∃ p1,p = .cons p1 .nil∧SE B x p1:=by
 cases w with|cons a _ w=>cases w with|nil=>exact C0 _ rfl a
theorem SL.two{x y:Expr}{p:E}(w:SL B [x,y] p):∃ p1 p2,p = .cons p1 (.cons p2 .nil)∧SE B x p1∧SE B y p2:=by
 cases w with|cons a _ w=>refine A0 w.one ?_;intro p2 HI b;obtain rfl:=HI;exact L1 _ p2 rfl a b
theorem SL.three{x y z:Expr}{p:E}(w:SL B [x,y,z] p):∃ p1 p2 p3,p = .cons p1 (.cons p2 (.cons p3 .nil))∧SE B x p1∧SE B y p2∧SE B z p3:=by
 cases w with|cons a _ w=>refine Z0 w.two ?_;intro p2 p3 EI b c;obtain rfl:=EI;exact X4 _ p2 p3 rfl a b c
theorem yF{x:Expr}{p:E}{Q:LP}{G:Value→Shared→Prop}(w:SL B [x] p)(h:W0 B K t s)(q:w5 B.L.f K.X p K.ρ t.σ Q)
  (go:∀ t' s' u r,W0 B K t' s'→O3 B.C no t s t' s'→G0 B.C t' s'.heap u r→Q [u] t'.σ→G r s'):Wp B K t s (eval x K.en) G s:=by
 refine A0 w.one ?_;intro p1 CI a;obtain rfl:=CI
 exact WE.go h h.refl (a K t s _ h q) fun t' s' u r h' x' Z vr q=>go t' s' u r h' x' vr q
theorem Pk{x y:Expr}{p:E}{Q:LP}{G:Value→Value→Shared→Prop}(w:SL B [x,y] p)(h:W0 B K t s)(q:w5 B.L.f K.X p K.ρ t.σ Q)
  (go:∀ t' s' u v r r',W0 B K t' s'→O3 B.C no t s t' s'→G0 B.C t' s'.heap u r→G0 B.C t' s'.heap v r'→Q [u,v] t'.σ→G r r' s') :
  Wp B K t s (eval x K.en) (fun r s'=>Wp B K t s (eval y K.en) (fun r' s''=>G r r' s'') s') s:=by
 refine Z0 w.two ?_;intro p1 p2 zI a b;obtain rfl:=zI
 exact WE.go h h.refl (a K t s _ h q) fun t' s' u r h' x' Z vr q=>WE.go h x' (b K t' s' _ h' q) fun t2 s2 v r' h2 x2 m vr' q=>go t2 s2 u v r r' h2 x2 (vr.go m u) vr' q
theorem KH{x y z:Expr}{p:E}{Q:LP}{G:Value→Value→Value→Shared→Prop}(w:SL B [x,y,z] p)(h:W0 B K t s)(q:w5 B.L.f K.X p K.ρ t.σ Q)
  (go:∀ t' s' u v w r r' r'',W0 B K t' s'→O3 B.C no t s t' s'→G0 B.C t' s'.heap u r→G0 B.C t' s'.heap v r'→G0 B.C t' s'.heap w r''→Q [u,v,w] t'.σ→G r r' r'' s') :
  Wp B K t s (eval x K.en) (fun r s'=>Wp B K t s (eval y K.en) (fun r' s''=>Wp B K t s (eval z K.en) (fun r'' s3=>G r r' r'' s3) s'') s') s:=by
 refine R5 w.three ?_;intro p1 p2 p3 xI a b c;obtain rfl:=xI
 exact WE.go h h.refl (a K t s _ h q) fun t' s' u r h' x' Z vr q=>WE.go h x' (b K t' s' _ h' q) fun t2 s2 v r' h2 x2 m vr' q=>WE.go h x2 (c K t2 s2 _ h2 q) fun t3 s3 w r'' h3 x3 m3 vr'' q =>
  go t3 s3 u v w r r' r'' h3 x3 ((vr.go m u).go m3 u) (vr'.go m3 v) vr'' q
variable{pos:Pos}{k:Nat}
theorem cj{v:V}{c:Const}(e:Mr v c=true):SE B (.Constant c k pos) (.k v):=fun K t s Q h q=>by
 induction c using Const.casesOn with
 | none=>induction v using V.casesOn<;>first|exact wpAny_Constant_none (D0.now (v := .none) h.rel rfl q)|exact Bool.noConfusion e
 | bool w=>induction v using V.casesOn<;>first|(obtain rfl:=eq_of_beq e;exact wpAny_Constant_bool (D0.bool h.rel q))|exact Bool.noConfusion e
 | int w=>induction v using V.casesOn<;>first|(obtain rfl:=eq_of_beq e;exact wpAny_Constant_int (D0.int h.rel q))|exact Bool.noConfusion e
 | str w=>induction v using V.casesOn<;>first|(obtain rfl:=eq_of_beq e;exact wpAny_Constant_str (D0.str h.rel q))|exact Bool.noConfusion e
 | _=>induction v using V.casesOn<;>exact Bool.noConfusion e
theorem aA.eq{en:Env}{b:M5}(h:aA en b){x:Str}{k:NameKind}(e:b.kd x=some k)(ne:k ≠ .free):en.kindOf x=some k:=by
 rcases h x with z|z
 ·exact z.trans e
 ·exact absurd (Option.some.inj (e.symm.trans z.1)) ne
theorem Ch{x:Str}(h:(!uC x)=true):(x==("__debug__":Str))=false∧(x==("__classdict__":Str))=false:=Bool.or_eq_false_iff.mp (Bool.not_eq_true' _ |>.mp h)
theorem Ur{o:Option NameKind}(h:ur o=true):o=some .local∨o=some .cell∨o=some .free:=by
 induction o using Option.casesOn with
 | none=>exact Bool.noConfusion h
 | some k=>induction k using NameKind.casesOn<;>first|exact .inl rfl|exact .inr (.inl rfl)|exact .inr (.inr rfl)|exact Bool.noConfusion h
theorem ml{x:Str}{i:Nat}(hl:ur (B.b.kd x)=true)(ei:B.b.tb.lookup x=some i)(hd:(!uC x)=true):SE B (.Name x pos) (.loc i):=fun K t s Q h q=>by
 refine A0 (D6 q) ?_;(repeat clear q);intro v ev q
 refine wpAny_Name ?_ (Ch hd).1
 have cel:(K.en.kindOf x=some .cell∨K.en.kindOf x=some .free)→∃ c r,K.en.cells.lookup x=some c∧s.heap.IsCell c (some r)∧G0 B.C t s.heap v r∧t.ow c:=h.env.cel x i v ei ev
 have cl:K.en.kindOf x=some .cell→WE B K t s (loadName K.en x) fun v σ=>Q [v] σ:=fun ek=>by
  refine lh (cel (.inl ek)) fun c r ec hc vr Z=>?_
  exact wpAny_loadName_cell h.env.kind ek ec hc (D0.now h.rel vr q)
 rcases Ur hl with hk|hk|hk
 ·refine A0 h.env.loc fun m hm hv=>?_
  have ek:=h.sc.eq hk (by decide)
  refine A0 (hv x i v ei ev ek) fun r er vr=>?_
  exact wpAny_loadName_local h.env.kind ek hm er (D0.now h.rel vr q)
 ·exact cl (h.sc.eq hk (by decide))
 ·rcases h.sc x with ek|⟨_,ek⟩
  ·refine lh (cel (.inr (ek.trans hk))) fun c r ec hc vr Z=>?_
   exact wpAny_loadName_free h.env.kind (ek.trans hk) ec hc (D0.now h.rel vr q) (Ch hd).2
  ·exact cl ek
theorem Od{x:Str}{Q:X0}(hk:B.b.kd x=some .globalImplicit)(hd:(!uC x)=true)(h:W0 B K t s)(w:WE B K t s (loadGlobal K.en x) Q):WE B K t s (eval (.Name x pos) K.en) Q:=by
 refine wpAny_Name ?_ (Ch hd).1
 show wpAny _ _ (loadName K.en x) _ _ _
 unfold loadName
 simp only [Env.blockKind,h.env.kind,h.sc.eq hk (by decide),ScopeKind.isAnnotationScope,Bool.false_and,Bool.false_eq_true,if_false]
 exact w
theorem ul{b:M5}{l:List String}{i:Nat}{x:Str}(h:b.isG l i x=true):b.kd x=some .globalImplicit∧i<l.length∧x=nm l i∧(!uC x)=true:=by
 obtain ⟨h,h4⟩:=b2 h
 obtain ⟨h,h3⟩:=b2 h
 obtain ⟨h1,h2⟩:=b2 h
 exact E3 (eq_of_beq h1) (of_decide_eq_true h2) (eq_of_beq h3) h4
theorem Bc{x:Str}{r:Value}{v:V}{Q:X0}(h:W0 B K t s)(hr:nsIn B.C.K mainGlobals x=some (some r))(vr:G0 B.C t s.heap v r)(q:Q v t.σ):WE B K t s (loadGlobal K.en x) Q:=by
 obtain ⟨m,hm⟩:=h.ok.mg
 exact loadGlobal_global (h.env.glob▸hm.keeps h.rel.base) (mg_of h.ok.inB hm hr) (D0.now h.rel vr q)
theorem qH{C:Cx}(R:Y0 C t s.heap):Mo Jy C.B t s.heap where
 lv _ l:=l.elim fun Z e=>nn e
 ft b o e f:=Q5 (R.own b f) e
 kp b o e _ _:=R.base b o e
 nt _ _ _ _ f:=Or.elim f id fun f=>Exists.elim f fun Z l=>Exists.elim l.1 fun Z e=>nn e
theorem Ry{x:Str}{i:Nat}(hg:B.b.isG gS i x=true):SE B (.Name x pos) (.gl i):=fun K t s Q h q=>by
 refine R7 (ul hg) ?_;intro hk hi vI hd;obtain rfl:=vI
 refine A0 (h.ok.gl i hi) fun a hr Z=>?_
 exact Od hk hd h (Bc (v := .g i) h hr ⟨hi,hr⟩ q)
theorem Dh{α:Type}:∀ {l:List α} {i:Nat} {v:α},nth l i=some v→l[i]?=some v
 | [],_,_,e=>nn e
 | _::_,0,_,e=>e
 | _::_,i+1,_,e=>Dh (i:=i) e
theorem wD{x:Str}{i:Nat}(hg:B.b.isG cS i x=true):SE B (.Name x pos) (.gc i):=fun K t s Q h q=>by
 refine A0 (D6 q) ?_;(repeat clear q);intro v ev q
 refine R7 (ul hg) ?_;intro hk hi tI hd;obtain rfl:=tI
 refine A0 (h.ok.con i v (Dh ev)) fun r hr vr=>?_
 exact Od hk hd h (Bc h hr (vr.go (qH h.rel) v) q)
theorem Gn{x:Str}{i:Nat}(hg:B.b.isG bS i x=true):SE B (.Name x pos) (.bl i):=fun K t s Q h q=>by
 refine R7 (ul hg) ?_;intro hk hi rI hd;obtain rfl:=rI
 obtain ⟨m,hm⟩:=h.ok.mg
 refine A0 h.ok.mb fun mb hmb hbb=>?_
 obtain ⟨en0,yI⟩:=h.ok.bl i hi;refine A0 yI ?_;(repeat clear yI);intro r er _
 exact Od hk hd h (loadGlobal_builtin (h.env.glob▸hm.keeps h.rel.base) (mg_none_of h.ok.inB hm en0) (h.env.blt▸hmb.keeps h.rel.base) ((hbb i hi).trans er) (D0.now (v := .b i) h.rel ⟨hi,er⟩ q))
end
open PySem.Calls
section
variable{C:Cx}{t t':St}{s s':Shared}{Q:X0}
theorem D0.frz(R:Y0 C t s.heap)(O:U1 t s.heap){h':Heap}{K:Ag}{xs:List V}{rs:List Value}{a d:Addr}(keep:∀ b o,s.heap.get? b=some o→h'.get? b=some o)(ka:s.heap.get? a=none)(kd:s.heap.get? d=none)
  (sh:Sh C h' a d rs K) (vr:E0 C t s.heap xs rs) (q:Q (.a K xs) t.σ):D0 C t s Q (.ref a) { s with heap:=h' } :=
 (L1 t (.a K xs) ⟨.more R O keep,rfl,rfl⟩ (W8 a d rs rfl (R.fresh O ka) (R.fresh O kd) sh (vr.go (.more R O keep) xs)) q)
theorem D0.mk(R:Y0 C t s.heap)(O:U1 t s.heap){h':Heap}{K:Ag}{xs:List V}{rs:List Value}{a d:Addr}{m:Md}(keep:∀ b o,s.heap.get? b=some o→h'.get? b=some o)(ka:s.heap.get? a=none)(kd:s.heap.get? d=none)
  (hK:K ≠ .tup) (sh:Sh C h' a d rs K) (vr:E0 C t s.heap xs rs) (q:Oi m (.a K xs) t.σ Q):D0 C t s Q (.ref a) { s with heap:=h' }:=by
 have reg:∀ k,A1 t.σ k=none→Q (.ref k) (R2 t.σ k (some (.a K xs)))→D0 C t s Q (.ref a) { s with heap:=h' }:=fun k dead q =>
  (L1 _ (.ref k) ⟨.new R O dead ka kd keep hK sh vr,rfl,rfl⟩ ⟨⟨_,N1 ..⟩,congrArg Value.ref M3.1.symm⟩ q)
 induction m using Md.casesOn with
 | fz=>exact .frz R O keep ka kd sh vr q
 | pick=>exact q.elim fun k z=>reg k z.1 z.2
theorem M2(h:Heap){b:Addr}(hb:h.objs.size≤b):h.get? b=none:=Heap.get?_none_of_le hb
theorem D0.list(R:Y0 C t s.heap)(O:U1 t s.heap){xs:List V}{its:Array Value}{m:Md}(vr:E0 C t s.heap xs its.toList)(hl:db xs.length)(q:Oi m (.a .lst xs) t.σ Q) :
  D0 C t s Q (.ref s.heap.objs.size) { s with heap:=s.heap.push { cls := .type "list",data := .seq its } } :=
 .mk (K := .lst) R O (fun b o e=>Heap.get?_push_of_some _ e) (M2 _ (Nat.le_refl _)) (M2 _ (Nat.le_refl _)) nofun ⟨rfl,its,0,Heap.get?_push_size _ rfl,rfl,vr.len.symm▸hl⟩ vr q
theorem D0.tup(R:Y0 C t s.heap)(O:U1 t s.heap){xs:List V}{its:Array Value}(vr:E0 C t s.heap xs its.toList)(hl:db xs.length)(q:Q (.a .tup xs) t.σ) :
  D0 C t s Q (.ref s.heap.objs.size) { s with heap:=s.heap.push { cls := .type "tuple",data := .seq its } } :=
 .frz (K := .tup) R O (fun b o e=>Heap.get?_push_of_some _ e) (M2 _ (Nat.le_refl _)) (M2 _ (Nat.le_refl _)) ⟨rfl,its,(A2 _ (Heap.get?_push_size _ rfl) rfl ⟨0,rfl⟩),rfl,vr.len.symm▸hl⟩ vr q
theorem X2{n:Nat}(h:db n):n≤sizeLine:=by refine f0 (sizeLine_eq ..) ?_;exact Nat.le_trans h (by decide)
theorem Q6.lst{xs:List V}{r:Value}(x:Q6 C t s.heap (.a .lst xs) r):∃ a its n,r = .ref a∧s.heap.get? a=some (listOf its n)∧E0 C t s.heap xs its.toList∧its.size=xs.length∧db xs.length:=by
 refine q8 x ?_;(repeat clear x);intro a d rs pI rI vr;obtain rfl:=pI;obtain ⟨_,RI⟩:=rI;refine Z0 RI ?_;(repeat clear RI);intro its n ho UI hl;obtain rfl:=UI
 exact W8 a its n rfl ho vr vr.len (vr.len▸hl)
theorem Q6.tup{xs:List V}{r:Value}(x:Q6 C t s.heap (.a .tup xs) r):∃ a its,r = .ref a∧IsTup s.heap a its∧E0 C t s.heap xs its.toList∧its.size=xs.length∧db xs.length:=by
 refine q8 x ?_;(repeat clear x);intro a d rs AJ CJ vr;obtain rfl:=AJ;obtain ⟨_,WI⟩:=CJ;refine F1 WI ?_;(repeat clear WI);intro its ho YI hl;obtain rfl:=YI
 exact O6 a its rfl ho vr vr.len (vr.len▸hl)
theorem Q3{h:Heap}{a:Addr}{its:Array Value}{k:Nat}(ho:h.get? a=some (listOf its k)):h.IsList a its:=A2 _ ho rfl ⟨k,rfl⟩
end
section
variable{B:Bk}{K:Fr}{t t':St}{s s':Shared}{Q:X0}
theorem Xv{a c:Addr}{its its2:Array Value}{k k2:Nat}{Q:Value→Shared→Prop}{E:Value→Shared→Prop}{A:Around}(ho:s.heap.get? a=some (listOf its k))(ho2:s.heap.get? c=some (listOf its2 k2))
  (hz:its.size+its2.size≤sizeLine) (h:Q (.ref s.heap.objs.size) { s with heap:=s.heap.push { cls := .type "list",data := .seq (its++its2) } }) :
  wpAny (model pw B.C.w) A (binaryOp .Add (.ref a) (.ref c)) Q E s :=
 concat_meets (C0 _ ho rfl) (C0 _ ho2 rfl) noFill_list_add seq_list_add PySem.F.slot_list_add PySem.F.entry_list_add (PySem.F.args_list_add_2 _ _) (list_addW a c its its2 k k2 none none #[] #[] hz) (V0 ho ho2 h)
theorem Yv{l:Addr}{items:Array Value}{k:Nat}{x:Int}{u:Tok}{Q:Value→Shared→Prop}{E:Value→Shared→Prop}{A:Around}(hl:s.heap.get? l=some (listOf items k))
  (hlo:-(2 ^ 63:Int)≤x) (hhi:x<2 ^ 63) (hsz:items.size*x.toNat≤2 ^ 24)
  (h:Q (.ref s.heap.objs.size) { s with heap:=s.heap.push { cls := .type "list",data := .seq (List.foldl (fun x1 x2=>x1++x2) #[] (List.replicate (if items.isEmpty=true then 0 else x.toNat) items)) } }) :
  wpAny (model pw B.C.w) A (binaryOp .Mult (.ref l) (.int x u)) Q E s :=
 wpAny_binaryOp_repeat_ref (T:="list") (U:="int") (by decide) (C0 _ hl rfl) (fun s'=>typeIs_int s' x u) noFill_list_mul F.fills_int_mul F.slot_int_rmul repeat_list F.slot_int_index.lookup
  (call_meets F.slot_int_rmul (typeIs_int s x u) F.entry_int_rmul (F.args_int_rmul_2 _ _) (int___rmul___int_list x u l items k)
   (E3 hl rfl (C0 _ hl rfl) (call_meets F.slot_list_mul (C0 _ hl rfl) F.entry_list_mul (F.args_list_mul_2 _ _)
    (AutoListH.list___mul___list_int_3 l items k x u (by simp [Builtin.List.listFitsIndex];omega) (by omega) (by simp [Builtin.List.listTooLong,sizeLine];omega))
    ⟨hl,h⟩)))
theorem fg(v:Value):∀ (n:Nat) (acc:Array Value),(List.foldl (fun x1 x2=>x1++x2) acc (List.replicate n #[v])).toList=acc.toList++List.replicate n v
 | 0,acc=>(List.append_nil _).symm
 | n+1,acc=>by refine f0 (List.replicate_succ ..) (f0 (List.foldl_cons ..) (f0 (fg v n ..) (f0 (List.replicate_succ ..) (f0 (Array.toList_append ..) (f0 (List.append_assoc ..) ?_)))));rfl
theorem E0.rep{C:Cx}{h:Heap}{x:V}{r:Value}(v:G0 C t h x r):∀ n,E0 C t h (List.replicate n x) (List.replicate n r)
 | 0=>rfl
 | n+1=>L1 r _ rfl v (E0.rep v n)
theorem ud{a:Int}(h:a.natAbs<2 ^ 60):Builtin.Int.intBits a≤64:=intBits_le_64 (by omega) (by omega)
theorem rH{n:Int}{m:Nat}(h:Nat.ble n.natAbs m=true):n≤m:=Int.le_trans Int.le_natAbs (Int.ofNat_le.mpr (Nat.le_of_ble_eq_true h))
theorem Fp{x:Str}{n:Int}(h0:0≤n)(h1:n≤10)(hx:x.length=1):MulOk x n:=by
 obtain ⟨m,rfl⟩:=Int.eq_ofNat_of_zero_le h0
 have hm:m<11:=Nat.lt_succ_of_le (Int.ofNat_le.mp h1)
 unfold MulOk
 refine f0 (hx ..) ?_
 clear h0 h1
 revert m
 decide
theorem Vr{o:rC}{op:Operator}{u v:V}{ru rv:Value}(eo:ke op=some o)(h:W0 B K t s)(vu:G0 B.C t s.heap u ru)(vv:G0 B.C t s.heap v rv)(q:qD o u v t.σ Q):WE B K t s (binaryOp op ru rv) Q:=by
 have R:=h.rel
 have nums:∀ {K:Int→Int→Prop},(iP u fun a=>iP v fun b=>K a b)→∃ a x b y,ru = .int a x∧rv = .int b y∧K a b:=fun p0=>by
  refine A0 (Ac p0) fun a ea p1=>?_
  refine A0 (Ac p1) fun b eb p2=>?_
  rw [ea] at vu
  rw [eb] at vv
  obtain ⟨x,ex⟩:=vu
  obtain ⟨y,ey⟩:=vv
  exact cr a x b y ex ey p2
 induction op using Operator.casesOn with
 | Add =>
  obtain rfl:=Option.some.inj eo
  have num:(iP u fun a=>iP v fun b=>Q (.int (a+b)) t.σ)→WE B K t s (binaryOp .Add ru rv) Q:=fun q=>by
   refine da (nums q) ?_;(repeat clear q);intro a x b y wJ yJ q;obtain rfl:=wJ;obtain rfl:=yJ
   exact add_int (D0.int R q)
  induction u using V.casesOn with
  | str x =>
   refine A0 (Pr q) ?_;(repeat clear q);intro y uJ q;obtain rfl:=uJ
   obtain ⟨t1,rfl⟩:=vu
   obtain ⟨t2,rfl⟩:=vv
   obtain ⟨b1,q⟩:=V4 q
   obtain ⟨b2,q⟩:=V4 q
   exact SB.add (fun t' k=>D0.str R q) (by refine f0 (sizeLine_eq ..) ?_;exact Nat.le_trans (Nat.add_le_add (Nat.le_of_ble_eq_true b1) (Nat.le_of_ble_eq_true b2)) (by decide))
  | _=>exact num q
 | Mult =>
  obtain rfl:=Option.some.inj eo
  have num:(iP u fun a=>iP v fun b=>K8 (Nat.blt a.natAbs (2 ^ 60)||Nat.blt b.natAbs (2 ^ 60)) (Q (.int (a*b)) t.σ))→WE B K t s (binaryOp .Mult ru rv) Q:=fun q=>by
   refine da (nums q) ?_;(repeat clear q);intro a x b y qJ sJ q;obtain rfl:=qJ;obtain rfl:=sJ
   obtain ⟨z,q⟩:=V4 q
   exact mul_int (D0.int R q) (((Bool.or_eq_true _ _).mp z).elim (fun z => .of_left (ud (Nat.le_of_ble_eq_true z))) fun z => .of_right (ud (Nat.le_of_ble_eq_true z)))
  induction u using V.casesOn with
  | str x =>
   refine A0 (Ac q) ?_;(repeat clear q);intro y oJ q;obtain rfl:=oJ
   obtain ⟨t1,rfl⟩:=vu
   obtain ⟨t2,rfl⟩:=vv
   obtain ⟨b1,q⟩:=Z8 q
   obtain ⟨b2,q⟩:=V4 q
   obtain ⟨b3,q⟩:=V4 q
   exact SB.mul (Fp b1 (rH b2) (Nat.eq_of_beq_eq_true b3)) fun t' k=>D0.str R q
  | _=>exact num q
 | Sub =>
  obtain rfl:=Option.some.inj eo
  refine da (nums q) ?_;(repeat clear q);intro a x b y kJ mJ q;obtain rfl:=kJ;obtain rfl:=mJ
  exact sub_int (D0.int R q)
 | FloorDiv =>
  obtain rfl:=Option.some.inj eo
  refine da (nums q) ?_;(repeat clear q);intro a x b y fJ iJ q;obtain rfl:=fJ;obtain rfl:=iJ
  obtain ⟨b1,q⟩:=Z8 q
  obtain ⟨b2,q⟩:=V4 q
  have b2:=Nat.le_of_ble_eq_true b2
  refine floordiv_int (Int.ne_of_gt b1) ?_ (Or.inl (PyProof.noPylong_small (ak b2 (by simp +arith))))
  refine f0 (Int.fdiv_eq_ediv_of_nonneg _ (Int.le_of_lt b1) ..) ?_;exact D0.int R q
 | Mod =>
  obtain rfl:=Option.some.inj eo
  refine da (nums q) ?_;(repeat clear q);intro a x b y bJ dJ q;obtain rfl:=bJ;obtain rfl:=dJ
  obtain ⟨b1,q⟩:=Z8 q
  refine mod_int (Int.ne_of_gt b1) ?_
  refine f0 (Int.fmod_eq_emod_of_nonneg _ (Int.le_of_lt b1) ..) ?_;exact D0.int R q
 | Pow =>
  obtain rfl:=Option.some.inj eo
  refine da (nums q) ?_;(repeat clear q);intro a x b y XI ZI q;obtain rfl:=XI;obtain rfl:=ZI
  obtain ⟨b1,q⟩:=Z8 q
  obtain ⟨b2,q⟩:=Z8 q
  obtain ⟨b3,q⟩:=Z8 q
  exact pow_int_small b1 (by omega) (by omega) (D0.int R q)
 | _=>exact nn eo
theorem Xr{m:Md}{u v:V}{ru rv:Value}(h:W0 B K t s)(vu:G0 B.C t s.heap u ru)(vv:G0 B.C t s.heap v rv)(q:qG (.cat m) [u,v] t.σ Q):WE B K t s (binaryOp .Add ru rv) Q:=by
 have du:=vu.der h.rel
 have dv:=vv.der h.rel
 refine A0 (aj q) ?_;(repeat clear q);intro xs e1 q
 refine A0 (aj q) ?_;(repeat clear q);intro ys e2 q
 rw [e1] at du
 rw [e2] at dv
 refine i7 du.lst ?_;intro a its k VI ho r1 z1 _;obtain rfl:=VI
 refine i7 dv.lst ?_;intro b its' k' TI ho' r2 z2 _;obtain rfl:=TI
 have ay:=r1.append r2
 rw [←Array.toList_append (xs:=its)] at ay
 obtain ⟨b1,q⟩:=S5 q
 exact Xv ho ho' (by refine f0 (z1 ..) (f0 (z2 ..) (P5 (List.length_append ..) ?_));exact X2 b1) (D0.list h.rel h.own ay b1 q)
theorem Yr{m:Md}{u v:V}{ru rv:Value}(h:W0 B K t s)(vu:G0 B.C t s.heap u ru)(vv:G0 B.C t s.heap v rv)(q:qG (.rep m) [u,v] t.σ Q):WE B K t s (binaryOp .Mult ru rv) Q:=by
 refine A0 (aj q) ?_;(repeat clear q);intro xs QI q;obtain rfl:=QI
 refine A0 (Fd q) ?_;(repeat clear q);intro x OI q;obtain rfl:=OI
 refine A0 (Ac q) ?_;(repeat clear q);intro n MI q;obtain rfl:=MI
 obtain ⟨q0,q⟩:=Z8 q
 obtain ⟨q1,q⟩:=V4 q
 have q1:=rH q1
 obtain ⟨tk,rfl⟩:=vv
 refine R5 vu.d.lst ?_;intro a its k EI ho HI _;obtain rfl:=EI;refine Z0 HI ?_;(repeat clear HI);intro r rt e vr e'
 have e2:its=#[r]:=by rw [←Array.toList_inj,e,show rt=[] from e']
 subst e2
 obtain ⟨m,rfl⟩:=Int.eq_ofNat_of_zero_le q0
 have hm:m≤1000000:=Int.ofNat_le.mp q1
 refine Yv ho (by omega) (by omega) (by show 1*m≤_;omega) (D0.list h.rel h.own (xs:=List.replicate m x) ?_ (by refine f0 (List.length_replicate ..) ?_;exact hm) q)
 show E0 B.C t s.heap _ (List.foldl _ #[] (List.replicate m #[r])).toList
 refine f0 (fg ..) ?_
 exact E0.rep vr m
theorem F4{α β:Type}{f:α→β}{o:Option α}{b:β}(e:o.map f=some b):∃ a,o=some a∧b=f a:=(Option.map_eq_some_iff.mp e).imp fun Z z=>⟨z.1,z.2.symm⟩
theorem M4{α β:Type}{f:α→Option β}{o:Option α}{b:β}(e:o.bind f=some b):∃ a,o=some a∧f a=some b:=Option.bind_eq_some_iff.mp e
end
noncomputable def Zv(h:Heap)(k:Nat)(r:Value)(d:PyData):Prop:=∃ as,Reads h r d as∧d.canLay0=true∧d.depth≤k
theorem z5{C:Cx}{t:St}{h:Heap}{k:Nat}(ih:∀ v r d,G0 C t h v r→E7 k v=some d→Zv h k r d):∀ (vs:List V) {rs:List Value} {ds:List PyData},E0 C t h vs rs→D7 (vs.map (E7 k))=some ds→∃ as,ReadsAll h rs ds as∧PyData.canLayAll0 ds=true∧PyData.depthAll ds≤k
 | [],_,_,v,e=>Option.some.inj e▸(show _=[] from v)▸(A2 [] .nil rfl (Nat.zero_le _))
 | x::xs,_,ds,v,e=>by
  refine Z0 v ?_;(repeat clear v);intro r rt CI vr vrs;obtain rfl:=CI
  refine A0 (M4 (show ((E7 k x).bind fun d=>(D7 (xs.map (E7 k))).map (d::·))=some ds from e)) ?_;(repeat clear d);(repeat clear e);intro d e1 e
  refine A0 (F4 e) ?_;intro ds' e2 zI;obtain rfl:=zI
  refine F1 (ih x r d vr e1) fun as r1 c1 d1=>?_
  refine F1 (z5 ih xs vrs e2) fun bs r2 c2 d2=>?_
  exact A2 (as++bs) (.cons r1 r2) (by unfold PyData.canLayAll0;refine f0 (c1 ..) (f0 (c2 ..) ?_);rfl) (by unfold PyData.depthAll;exact Nat.max_le.mpr ⟨d1,d2⟩)
theorem W7{C:Cx}{t:St}{h:Heap}:∀ (k:Nat) (v:V) (r:Value) (d:PyData),G0 C t h v r→E7 k v=some d→Zv h k r d:=fun k=>by
 have flat:∀ k (v:V) (r:Value) (d:PyData),G0 C t h v r→E7 k v=some d→(∀ A xs,v ≠ .a A xs)→Zv h k r d:=fun k v r d x e n=>by
  induction v using V.casesOn with
  | a A xs=>exact absurd rfl (n A xs)
  | none=>cases k<;>cases e<;>cases (show _=Value.none from x)<;>exact A2 _ .none rfl (Nat.zero_le _)
  | bool b=>cases k<;>cases e<;>cases (show _=Value.bool b from x)<;>exact A2 _ (.bool b) rfl (Nat.zero_le _)
  | int i=>obtain ⟨u,rfl⟩:=x;cases k<;>obtain rfl:=Option.some.inj e<;>exact A2 _ (.int i u) rfl (Nat.zero_le _)
  | str y =>
   obtain ⟨u,rfl⟩:=x
   have e:(if PyData.strOk y then some (PyData.str y) else none)=some d:=by cases k<;>exact e
   by_cases q:PyData.strOk y=true
   ·rw [if_pos q] at e;obtain rfl:=Option.some.inj e;exact A2 _ (.str y u) (by unfold PyData.canLay0;exact q) (Nat.zero_le _)
   ·rw [if_neg q] at e;exact nn e
  | _=>cases k<;>exact nn e
 induction k with
 | zero=>exact fun v r d x e=>flat 0 v r d x e fun A xs q=>by subst q;exact nn e
 | succ k ih =>
  intro v r d v' e
  by_cases q:∃ A xs,v = .a A xs
  ·refine jh q ?_;(repeat clear q);intro A xs xI;obtain rfl:=xI
   refine i7 v' ?_;(repeat clear v');intro a d' rs vI _ _ sh vr;obtain rfl:=vI
   induction A using Ag.casesOn with
   | lst =>
    refine A0 (F4 (show (D7 (xs.map (E7 k))).map PyData.list=some d from e)) ?_;intro ds e' tI;obtain rfl:=tI
    obtain ⟨_,aJ⟩:=sh;refine Z0 aJ ?_;(repeat clear aJ);intro its n ho cJ _;obtain rfl:=cJ
    refine F1 (z5 ih xs vr e') fun as r c l=>?_
    exact A2 _ (.list ho rfl rfl r) (by unfold PyData.canLay0;exact c) (Nat.succ_le_succ l)
   | tup =>
    refine A0 (F4 (show (D7 (xs.map (E7 k))).map PyData.tuple=some d from e)) ?_;intro ds e' rI;obtain rfl:=rI
    obtain ⟨_,eJ⟩:=sh;refine F1 eJ ?_;(repeat clear eJ);intro its gJ lJ _;refine F1 gJ ?_;(repeat clear gJ);intro o ho hc jJ;obtain ⟨n,hd⟩:=jJ;obtain rfl:=lJ
    refine F1 (z5 ih xs vr e') fun as r c l=>?_
    exact A2 _ (.tuple ho hc hd r) (by unfold PyData.canLay0;exact c) (Nat.succ_le_succ l)
   | _=>exact nn (show none=some d from e)
  ·exact flat _ v r d v' e fun A xs z=>q (V8 A xs z)
open PySem.Calls
theorem Ky.room{A:Around}{l:List Env}{n:Nat}(a:Ky A l n)(k:Nat)(h:k≤100):A.units+k<cLine:=Nat.lt_of_le_of_lt (Nat.add_le_add (Nat.le_add_right _ _) (Nat.le_trans h (by decide))) a.units
section
variable{B:Bk}{K:Fr}{t t':St}{s s':Shared}{Q:X0}
theorem Cc{l b:Addr}{items items2:Array Value}{n n2:Nat}{Q:Value→Shared→Prop}{E:Value→Shared→Prop}{A:Around}(ho:s.heap.get? l=some (listOf items n))(ho2:s.heap.get? b=some (listOf items2 n2))(hsz:(items.size !=items2.size)=true)(hu:A.units<cLine)
  (h:Q (.bool true) s):wpAny (model pw B.C.w) A (compareOp .NotEq (.ref l) (.ref b)) Q E s:=by
 show wpAny _ A (richCompare .NotEq _ _) Q E s
 exact SeqAt.RcNeAt.lists_lengths (A2 _ ho rfl ⟨n,rfl⟩) (A2 _ ho2 rfl ⟨n2,rfl⟩) hsz hu _ _ _ _ h
theorem xl{u v:V}(e:N9 u v=true):∃ xs ys,u = .a .lst xs∧v = .a .lst ys∧(xs.length !=ys.length)=true:=by
 induction u using V.casesOn with
 | a A xs=>induction A using Ag.casesOn with
  | lst=>induction v using V.casesOn with
   | a A ys=>induction A using Ag.casesOn with
    | lst=>exact L1 xs ys rfl rfl e
    | _=>exact Bool.noConfusion e
   | _=>exact Bool.noConfusion e
  | _=>exact Bool.noConfusion e
 | _=>exact Bool.noConfusion e
theorem Eh{C:Cx}{k:Nat}{u:V}{r:Value}{d:PyData}(x:Q6 C t s.heap u r)(e:E7 (k+1) u=some d):Zv s.heap (k+1) r d:=by
 induction u using V.casesOn with
 | a A xs =>
  refine q8 x ?_;(repeat clear x);intro a d' rs tI sh vr;obtain rfl:=tI
  induction A using Ag.casesOn with
  | lst =>
   refine A0 (F4 (show (D7 (xs.map (E7 k))).map PyData.list=some d from e)) ?_;intro ds e' rI;obtain rfl:=rI
   obtain ⟨_,PI⟩:=sh;refine Z0 PI ?_;(repeat clear PI);intro its n ho RI _;obtain rfl:=RI
   refine F1 (z5 (W7 k) xs vr e') fun as r c l=>?_
   exact A2 _ (.list ho rfl rfl r) (by unfold PyData.canLay0;exact c) (Nat.succ_le_succ l)
  | tup =>
   refine A0 (F4 (show (D7 (xs.map (E7 k))).map PyData.tuple=some d from e)) ?_;intro ds e' pI;obtain rfl:=pI
   obtain ⟨_,UI⟩:=sh;refine F1 UI ?_;(repeat clear UI);intro its WI aJ _;refine F1 WI ?_;(repeat clear WI);intro o ho hc YI;obtain ⟨n,hd⟩:=YI;obtain rfl:=aJ
   refine F1 (z5 (W7 k) xs vr e') fun as r c l=>?_
   exact A2 _ (.tuple ho hc hd r) (by unfold PyData.canLay0;exact c) (Nat.succ_le_succ l)
  | _=>exact nn (show none=some d from e)
 | _=>exact W7 (k+1) _ r d x e
theorem xe{α:Type}{f:α→Bool}:∀ {l:List α},K4 f l=true→∀ x∈l,f x=true
 | [],_,_,m=>(List.not_mem_nil m).elim
 | y::l,h,x,m=>(List.mem_cons.mp m).elim (fun q=>q▸(b2 h).1) (xe (b2 h).2 x)
theorem yl:∀ {x y:List Nat},oG x y=true↔x=y
 | [],[]=>⟨fun Z=>rfl,fun Z=>rfl⟩
 | [],_::_=>⟨Bool.noConfusion,nofun⟩
 | _::_,[]=>⟨Bool.noConfusion,nofun⟩
 | a::x,b::y=>⟨fun h=>let ⟨p,q⟩:=b2 h;Nat.eq_of_beq_eq_true p▸yl.mp q▸rfl,fun h=>by obtain ⟨rfl,rfl⟩:=List.cons.inj h;exact Bool.and_eq_true_iff.mpr ⟨Nat.beq_refl a,yl.mpr rfl⟩⟩
theorem k7{a b:Str}:j6 a b=true↔a=b:=yl.trans ⟨fun h=>by obtain ⟨⟨x⟩⟩:=a;obtain ⟨⟨y⟩⟩:=b;obtain rfl:=(show x=y from h);rfl,fun h=>h▸rfl⟩
theorem Zr{a b:MK}:nH a b=true↔a=b:=by
 induction a using MK.casesOn with
 | none=>induction b using MK.casesOn with
  | none=>exact ⟨fun Z=>rfl,fun Z=>rfl⟩
  | _=>exact ⟨Bool.noConfusion,nofun⟩
 | int i=>induction b using MK.casesOn with
  | int j=>exact beq_iff_eq.trans ⟨fun h=>h▸rfl,fun h=>by cases h;rfl⟩
  | _=>exact ⟨Bool.noConfusion,nofun⟩
 | str s=>induction b using MK.casesOn with
  | str t=>exact k7.trans ⟨fun h=>h▸rfl,fun h=>by cases h;rfl⟩
  | _=>exact ⟨Bool.noConfusion,nofun⟩
theorem ye:∀ {x y:List MK},Bv x y=true↔x=y
 | [],[]=>⟨fun Z=>rfl,fun Z=>rfl⟩
 | [],_::_=>⟨Bool.noConfusion,nofun⟩
 | _::_,[]=>⟨Bool.noConfusion,nofun⟩
 | a::x,b::y=>⟨fun h=>let ⟨p,q⟩:=b2 h;Zr.mp p▸ye.mp q▸rfl,fun h=>by obtain ⟨rfl,rfl⟩:=List.cons.inj h;exact Bool.and_eq_true_iff.mpr ⟨Zr.mpr rfl,ye.mpr rfl⟩⟩
theorem fs{α:Type}[BEq α][LawfulBEq α]{a b:α}{c:Bool}(h:c=true↔a=b):c=(a==b):=Bool.eq_iff_iff.mpr (h.trans beq_iff_eq.symm)
theorem Dc{α:Type}{b:Bool}{x r:α}:gO b x=some r→b=true∧x=r:=by induction b using Bool.casesOn with|true=>exact fun h=>⟨rfl,Option.some.inj h⟩|false=>exact nn
theorem Pd{n:Nat}(ih:∀ v,n8 n v=true→∃ d,E7 n v=some d):∀ {xs:List V},K4 (n8 n) xs=true→∃ ds,D7 (xs.map (E7 n))=some ds
 | [],_=>⟨[],rfl⟩
 | x::xs,h=>by
  obtain ⟨p,q⟩:=b2 h
  obtain ⟨d,e⟩:=ih x p
  obtain ⟨ds,e'⟩:=Pd ih q
  exact ⟨d::ds,by show ((E7 n x).bind fun d=>(D7 (xs.map (E7 n))).map (d::·))=_;refine f0 (e ..) (f0 (e' ..) ?_);rfl⟩
theorem Hn{s:Str}(h:Uv s=true):PyData.strOk s=true:=by
 exact Array.all_eq_true_iff_forall_mem.mpr fun x hx=>decide_eq_true (Nat.le_of_ble_eq_true (xe h x (Array.mem_toList_iff.mpr hx)))
theorem O9:∀ (n:Nat) (v:V),n8 n v=true→∃ d,E7 n v=some d
 | 0,v=>by
  induction v using V.casesOn with
  | str s=>exact fun h=>⟨_,if_pos (Hn h)⟩
  | none=>exact fun Z=>⟨_,rfl⟩
  | bool b=>exact fun Z=>⟨_,rfl⟩
  | int i=>exact fun Z=>⟨_,rfl⟩
  | _=>exact Bool.noConfusion
 | n+1,v=>by
  induction v using V.casesOn with
  | str s=>exact fun h=>⟨_,if_pos (Hn h)⟩
  | none=>exact fun Z=>⟨_,rfl⟩
  | bool b=>exact fun Z=>⟨_,rfl⟩
  | int i=>exact fun Z=>⟨_,rfl⟩
  | a A xs=>induction A using Ag.casesOn with
   | lst=>exact fun h=>(Pd (O9 n) h).elim fun ds e=>⟨.list ds,congrArg (Option.map PyData.list) e⟩
   | tup=>exact fun h=>(Pd (O9 n) h).elim fun ds e=>⟨.tuple ds,congrArg (Option.map PyData.tuple) e⟩
   | _=>exact Bool.noConfusion
  | _=>exact Bool.noConfusion
inductive b9:Nat→V→PyData→Prop
 | none {n}:b9 n .none .none
 | bool {n} (b:Bool):b9 n (.bool b) (.bool b)
 | int {n} (i:Int):b9 n (.int i) (.int i)
 | str {n} (s:Str):b9 n (.str s) (.str s)
 | lst {n xs ds}:D7 (xs.map (E7 n))=some ds→b9 (n+1) (.a .lst xs) (.list ds)
 | tup {n xs ds}:D7 (xs.map (E7 n))=some ds→b9 (n+1) (.a .tup xs) (.tuple ds)
theorem Jn{n:Nat}{v:V}{d:PyData}(e:E7 n v=some d):b9 n v d:=by
 have st:∀ {s:Str},(if PyData.strOk s=true then some (PyData.str s) else none)=some d→b9 n (.str s) d:=fun {s} e=>by
  cases q:PyData.strOk s with
  | true=>rw [q] at e;exact Option.some.inj e ▸ .str s
  | false=>rw [q] at e;exact nn e.symm.symm
 cases n with
 | zero=>induction v using V.casesOn with
  | none=>exact Option.some.inj e ▸ .none
  | bool b=>exact Option.some.inj e ▸ .bool b
  | int i=>exact Option.some.inj e ▸ .int i
  | str s=>exact st e
  | _=>exact nn e
 | succ n=>induction v using V.casesOn with
  | none=>exact Option.some.inj e ▸ .none
  | bool b=>exact Option.some.inj e ▸ .bool b
  | int i=>exact Option.some.inj e ▸ .int i
  | str s=>exact st e
  | a A xs=>induction A using Ag.casesOn with
   | lst=>refine A0 (F4 (show (D7 (xs.map (E7 n))).map PyData.list=some d from e)) ?_;intro ds e' CJ;obtain rfl:=CJ;exact .lst e'
   | tup=>refine A0 (F4 (show (D7 (xs.map (E7 n))).map PyData.tuple=some d from e)) ?_;intro ds e' AJ;obtain rfl:=AJ;exact .tup e'
   | _=>exact nn e
  | _=>exact nn e
theorem ze{n:Nat}(ih:∀ x y d e,E7 n x=some d→E7 n y=some e→Q8 n x y=PyData.eqv d e):∀ {xs ys:List V} {ds es:List PyData},D7 (xs.map (E7 n))=some ds→D7 (ys.map (E7 n))=some es→Z6 (Q8 n) xs ys=PyData.eqvAll ds es
 | [],[],_,_,h,h'=>by obtain rfl:=Option.some.inj h;obtain rfl:=Option.some.inj h';unfold PyData.eqvAll;rfl
 | [],y::ys,_,_,h,h'=>by
  obtain rfl:=Option.some.inj h
  refine A0 (M4 h') ?_;(repeat clear h');intro e _ h'
  refine A0 (F4 h') ?_;intro es _ yJ;obtain rfl:=yJ
  unfold PyData.eqvAll;rfl
 | x::xs,[],_,_,h,h'=>by
  obtain rfl:=Option.some.inj h'
  refine A0 (M4 h) ?_;(repeat clear h);intro e _ h
  refine A0 (F4 h) ?_;intro es _ wJ;obtain rfl:=wJ
  unfold PyData.eqvAll;rfl
 | x::xs,y::ys,_,_,h,h'=>by
  refine A0 (M4 h) ?_;(repeat clear h);intro d e1 h
  refine A0 (F4 h) ?_;intro ds e2 uJ;obtain rfl:=uJ
  refine A0 (M4 h') ?_;(repeat clear h');intro e e3 h'
  refine A0 (F4 h') ?_;intro es e4 sJ;obtain rfl:=sJ
  unfold PyData.eqvAll
  show (Q8 n x y&&Z6 (Q8 n) xs ys)=_
  exact f0 (ih _ _ _ _ e1 e3 ..) (f0 (ze ih e2 e4 ..) rfl)
theorem Ln{x:V}{f:V→Bool}(h0:Q8 0 x=f)(h1:∀ n,Q8 (n+1) x=f)(n:Nat):Q8 n x=f:=Nat.casesAuxOn (motive:=fun n=>Q8 n x=f) n h0 h1
theorem Sy{n:Nat}(ih:∀ m,n=m+1→∀ x y d e,E7 m x=some d→E7 m y=some e→Q8 m x y=PyData.eqv d e){x y:V}{d e:PyData}(h1:b9 n x d)(h2:b9 n y e):Q8 n x y=PyData.eqv d e:=by
 induction h1 using b9.casesOn with
 | none=>exact f0 (Ln (x := .none) rfl (fun Z=>rfl) _) (by induction h2 using b9.casesOn<;>rfl)
 | bool b=>exact f0 (Ln (x := .bool b) rfl (fun Z=>rfl) _) (by induction h2 using b9.casesOn<;>rfl)
 | int i=>exact f0 (Ln (x := .int i) rfl (fun Z=>rfl) _) (by induction h2 using b9.casesOn<;>rfl)
 | str s=>exact f0 (Ln (x := .str s) rfl (fun Z=>rfl) _) (by
   induction h2 using b9.casesOn with
   | str z=>exact fs k7
   | _=>rfl)
 | @lst n xs ds hx =>
  show Ly (Z6 (Q8 n) xs) y=_
  generalize hk:n+1=k at h2
  induction h2 using b9.casesOn with
  | @lst n' ys es hy=>obtain rfl:=Nat.succ.inj hk;exact ze (ih n rfl) hx hy
  | _=>rfl
 | @tup n xs ds hx =>
  show My (Z6 (Q8 n) xs) y=_
  generalize hk:n+1=k at h2
  induction h2 using b9.casesOn with
  | @tup n' ys es hy=>obtain rfl:=Nat.succ.inj hk;exact ze (ih n rfl) hx hy
  | _=>rfl
theorem Mn(n:Nat):∀ (x y:V) (d e:PyData),E7 n x=some d→E7 n y=some e→Q8 n x y=PyData.eqv d e:=by
 induction n with
 | zero=>exact fun x y d e h1 h2=>Sy (fun m h=>(Nat.succ_ne_zero m h.symm).elim) (Jn h1) (Jn h2)
 | succ n ih=>exact fun x y d e h1 h2=>Sy (fun m h=>Nat.succ.inj h▸ih) (Jn h1) (Jn h2)
theorem Nn{x y:V}{r:Bool}(h:cg x y=some r):wF x y=some r:=by
 unfold cg at h
 unfold wF
 cases hd:N9 x y with
 | true=>rw [hd] at h;exact h
 | false =>
  rw [hd] at h
  obtain ⟨p,rfl⟩:=Dc h
  obtain ⟨d,e1⟩:=O9 20 x (b2 p).1
  obtain ⟨e,e2⟩:=O9 20 y (b2 p).2
  show (E7 20 x).bind _=_
  refine f0 (e1 ..) (f0 (e2 ..) ?_)
  exact congrArg some (Mn 20 x y d e e1 e2).symm
theorem dj{x:V}{d:PyData}(e1:E7 20 x=some d):∀ {ys:List V} {es:List PyData},D7 (ys.map (E7 20))=some es→il (fun e=>Q8 20 e x) ys=es.any fun e=>PyData.eqv e d
 | [],_,h=>by obtain rfl:=Option.some.inj h;rfl
 | y::ys,_,h=>by
  refine A0 (M4 h) ?_;(repeat clear h);intro e e3 h
  refine A0 (F4 h) ?_;intro es e4 qJ;obtain rfl:=qJ
  show (Q8 20 y x||il _ ys)=(PyData.eqv e d||es.any _)
  exact f0 (Mn 20 y x e d e3 e1 ..) (f0 (dj e1 e4 ..) rfl)
theorem js{x:Str}:∀ ss:List Str,il (j6 x) ss=ss.contains x
 | []=>rfl
 | s::ss=>by refine f0 (List.contains_cons ..) (P5 (js ss ..) (P5 (fs k7 ..) ?_));rfl
theorem On{x y:V}{r:Bool}(h:ll x y=some r):mH x y=some r:=by
 have seq:∀ ys:List V,gO (n8 20 x&&K4 (n8 20) ys) (il (fun e=>Q8 20 e x) ys)=some r→((E7 20 x).bind fun d=>(D7 (ys.map (E7 20))).map fun es=>es.any fun e=>PyData.eqv e d)=some r:=fun ys h=>by
  obtain ⟨p,rfl⟩:=Dc h
  obtain ⟨d,e1⟩:=O9 20 x (b2 p).1
  obtain ⟨es,e2⟩:=Pd (O9 20) (b2 p).2
  refine f0 (e1 ..) (f0 (e2 ..) ?_)
  exact congrArg some (dj e1 e2).symm
 induction y using V.casesOn with
 | a A ys=>induction A using Ag.casesOn with
  | tup=>exact seq ys h
  | lst=>exact seq ys h
  | ds ss=>induction x using V.casesOn with
   | str s=>exact (congrArg some (js ss)).symm.trans h
   | _=>exact nn h
  | _=>exact nn h
 | _=>exact nn h
theorem Pn{u v:V}{ru rv:Value}{r:Bool}(h:W0 B K t s)(vu:Q6 B.C t s.heap u ru)(vv:Q6 B.C t s.heap v rv)(e:wF u v=some r) :
  (Q (.bool r) t.σ→WE B K t s (compareOp .Eq ru rv) Q)∧(Q (.bool !r) t.σ→WE B K t s (compareOp .NotEq ru rv) Q):=by
 unfold wF at e
 cases hd:N9 u v with
 | true =>
  rw [hd] at e
  obtain rfl:=Option.some.inj e
  refine Z0 (xl hd) ?_;intro xs ys mJ oJ hne;obtain rfl:=mJ;obtain rfl:=oJ
  refine i7 vu.lst ?_;intro a its k kJ ho _ z1 _;obtain rfl:=kJ
  refine i7 vv.lst ?_;intro b its' k' iJ ho' _ z2 _;obtain rfl:=iJ
  rw [←z1,←z2] at hne
  exact ⟨fun q=>SeqAt.eq_list_lengthsAt (A2 _ ho rfl ⟨k,rfl⟩) (A2 _ ho' rfl ⟨k',rfl⟩) hne (h.amb.room 0 (by decide)) (D0.bool h.rel q),fun q=>Cc ho ho' hne (h.amb.room 0 (by decide)) (D0.bool h.rel q)⟩
 | false =>
  rw [hd] at e
  refine A0 (M4 (show ((E7 20 u).bind fun d=>(E7 20 v).map fun e=>PyData.eqv d e)=some r from e)) ?_;(repeat clear d);(repeat clear e);intro d e1 e
  refine A0 (F4 e) ?_;intro d' e2 fJ;obtain rfl:=fJ
  refine F1 (Eh vu e1) fun as r1 c1 l1=>?_
  refine F1 (Eh vv e2) fun bs r2 c2 l2=>?_
  have room:=Nat.lt_of_le_of_lt (Nat.add_le_add_left (Nat.le_trans (Nat.min_le_left _ d'.depth) l1) _) (h.amb.room 20 (by decide))
  exact ⟨fun q=>SeqAt.compareEq_reads r1 r2 c1 c2 room (D0.bool h.rel q),fun q=>SeqAt.neOverData _ _ _ _ _ _ _ _ _ _ _ _ r1 r2 c1 c2 room (D0.bool h.rel q)⟩
theorem Qn{C:Cx}{u:V}{ru:Value}{h:Heap}{r:Bool}(vu:Q6 C t h u ru)(e:isNone u=some r):(ru == .none)=r:=by
 induction u using V.casesOn with
 | none=>cases e;cases (show ru = .none from vu);rfl
 | bool x=>cases e;cases (show ru = .bool x from vu);rfl
 | int x=>obtain rfl:=Option.some.inj e;obtain ⟨_,rfl⟩:=vu;rfl
 | str x=>obtain rfl:=Option.some.inj e;obtain ⟨_,rfl⟩:=vu;rfl
 | ref k=>obtain rfl:=Option.some.inj e;obtain ⟨_,rfl⟩:=vu;rfl
 | a A xs=>obtain rfl:=Option.some.inj e;refine nh vu ?_;(repeat clear vu);intro _ _ _ dJ _;obtain rfl:=dJ;rfl
 | _=>exact nn e
theorem ms{C:Cx}{A:Around}{d:Addr}{f:Str→Option Value}{k:Str}{key:Value}{Q:Value→Shared→Prop}{E:Value→Shared→Prop}(hkey:(strKind pw C.w).is k key=true)(hd:(d==sysModules)=false)(hm:s.heap.MapOf (strKind pw C.w) d f)
  (h:Q (.bool !(f k).isSome) { s with toks:=s.toks+1 }):wpAny (model pw C.w) A (compareOp .NotIn key (.ref d)) Q E s:=by
 have w:=wpAny_in_of (prog:=pw) (w:=C.w) (A:=A) (E:=E) (Q:=fun v s'=>v = .bool (f k).isSome∧s'={ s with toks:=s.toks+1 }) hkey hd hm ⟨rfl,rfl⟩
 have e1:compareOp .In key (.ref d)=(do return .bool (←contains (.ref d) key)):=rfl
 have e2:compareOp .NotIn key (.ref d)=(do return .bool !(←contains (.ref d) key)):=rfl
 rw [e1] at w
 refine f0 (e2 ..) ?_
 have w2:wpAny (model pw C.w) A (contains (.ref d) key) (fun c s'=>c=(f k).isSome∧s'={ s with toks:=s.toks+1 }) E s:=fun Γ p hΓ=>by
  have:=w Γ p hΓ
  simp only [Sem.wp_bind',Sem.wp_pure'] at this
  refine Sem.wp_mono _ Γ _ (fun c p' s' hh=>?_) (fun Z Z Z e=>e) p s this
  obtain ⟨q1,q2⟩:=hh
  injection q1 with q1
  exact ⟨q1,q2⟩
 refine wpAny_bind (wpAny_mono w2 (fun c s' hh=>?_) fun Z Z e=>e)
 obtain ⟨rfl,rfl⟩:=hh
 exact wpAny_pure h
theorem rb{C:Cx}{h:Heap}(x:Str):∀ {ss:List Str} {xs:List V} {kvs:List (Str×Value)} {rs:List Value},kvs.map (·.1)=ss→kvs.map (·.2)=rs→E0 C t h xs rs →
  (∀ v,Vq ss xs x=some v→∃ r,valueAt kvs x=some r∧G0 C t h v r)∧(Vq ss xs x=none→valueAt kvs x=none)
 | _,_,[],_,e1,e2,vr=>by subst e1;exact ⟨fun w e=>(nn (show none=some w from e)),fun Z=>rfl⟩
 | _,[],(k,r)::kvs,_,e1,e2,vr=>by subst e2;exact nomatch (show _=[] from vr)
 | _,v::xs,(k,r)::kvs,_,e1,e2,vr=>by
  subst e1
  subst e2
  refine Z0 vr ?_;(repeat clear vr);intro r' rt e v1 v2
  obtain ⟨rfl,rfl⟩:=List.cons.inj e
  have ih:=rb (ss:=kvs.map (·.1)) x rfl rfl v2
  have e3:valueAt ((k,r)::kvs) x=if k=x then some r else valueAt kvs x:=by
   unfold valueAt
   rw [List.find?_cons]
   by_cases q:k=x
   ·refine f0 (if_pos q ..) (f0 (decide_eq_true q ..) ?_);rfl
   ·exact f0 (if_neg q ..) (f0 (decide_eq_false q ..) rfl)
  refine f0 (e3 ..) ?_
  show (∀ w,(match j6 k x with|true=>some v|false=>Vq (kvs.map (·.1)) xs x)=some w→_)∧((match j6 k x with|true=>some v|false=>Vq (kvs.map (·.1)) xs x)=none→_)
  cases q:j6 k x with
  | true=>refine f0 (if_pos (k7.mp q) ..) ?_;exact ⟨fun w e=>C0 r rfl (Option.some.inj e▸v1),fun e=>nn e.symm⟩
  | false=>refine f0 (if_neg fun z=>Bool.noConfusion (q.symm.trans (k7.mpr z)) ..) ?_;exact ih
theorem Q6.ds{C:Cx}{ss:List Str}{xs:List V}{r:Value}(x:Q6 C t s.heap (.a (.ds ss) xs) r):∃ a kvs,r = .ref a∧(a==sysModules)=false∧s.heap.DictOf (strKind pw C.w) a kvs∧kvs.map (·.1)=ss∧E0 C t s.heap xs (kvs.map (·.2)):=by
 refine q8 x ?_;(repeat clear x);intro a d rs ZI bJ vr;obtain rfl:=ZI;refine i4 bJ ?_;(repeat clear bJ);intro _ ns cJ;refine F1 cJ ?_;(repeat clear cJ);intro kvs hd e1 eJ;obtain rfl:=eJ
 exact O6 a kvs rfl ns hd e1 vr
theorem bA{C:Cx}(k:Str)(tk:Tok):(strKind pw C.w).is k (.str k tk)=true:=beq_iff_eq.mpr rfl
theorem Fh(k:Str):∀ kvs:List (Str×Value),(valueAt kvs k).isSome=(kvs.map (·.1)).contains k
 | []=>rfl
 | (x,r)::kvs=>by
  have ih:=Fh k kvs
  unfold valueAt at ih ⊢
  rw [List.find?_cons,List.map_cons,List.contains_cons]
  by_cases q:x=k
  ·refine f0 (decide_eq_true q ..) (f0 (beq_iff_eq.mpr q.symm ..) ?_);rfl
  ·refine f0 (decide_eq_false q ..) (f0 (beq_eq_false_iff_ne.mpr (Ne.symm q) ..) ?_);exact ih
theorem ub{o:Tk}{op:CmpOp}{u v:V}{ru rv:Value}(eo:J8 op=o)(h:W0 B K t s)(vu:Q6 B.C t s.heap u ru)(vv:Q6 B.C t s.heap v rv)(q:ue o u v fun b=>Q (.bool b) t.σ) :
  WE B K t s (compareOp op ru rv) Q:=by
 have nums:∀ {G:Int→Int→Prop},(iP u fun a=>iP v fun b=>G a b)→∃ a x b y,ru = .int a x∧rv = .int b y∧G a b:=fun p0=>by
  refine A0 (Ac p0) fun a ea p1=>?_
  refine A0 (Ac p1) fun b eb p2=>?_
  rw [ea] at vu
  rw [eb] at vv
  obtain ⟨x,ex⟩:=vu
  obtain ⟨y,ey⟩:=vv
  exact cr a x b y ex ey p2
 have non:∀ {P:Prop},nP v P→rv = .none∧P:=fun p0=>by
  obtain ⟨e,p⟩:=Uz p0
  rw [e] at vv
  exact ⟨vv,p⟩
 have inn:∀ {r},mH u v=some r→(Q (.bool r) t.σ→WE B K t s (compareOp .In ru rv) Q)∧(Q (.bool !r) t.σ→WE B K t s (compareOp .NotIn ru rv) Q):=fun {r} e=>by
  have seq:∀ ys:List V,((E7 20 u).bind fun d=>(D7 (ys.map (E7 20))).map fun es=>es.any fun e=>PyData.eqv e d)=some r→∃ d ds as,Reads s.heap ru d as∧d.canLay0=true∧(∀ k,K.A.units+1+min k d.depth<cLine)∧D7 (ys.map (E7 20))=some ds∧r=ds.any (fun e=>PyData.eqv e d):=fun ys e=>by
   refine A0 (M4 e) ?_;(repeat clear e);intro d e1 e
   refine A0 (F4 e) fun ds e2 e3=>?_
   refine F1 (Eh vu e1) fun as r1 c1 l1=>?_
   exact W8 d ds as r1 c1 (fun k=>Nat.lt_of_le_of_lt (by refine f0 (Nat.add_assoc ..) ?_;exact Nat.add_le_add_left (Nat.add_le_add_left (Nat.le_trans (Nat.min_le_right _ _) l1) 1) _) (h.amb.room 21 (by decide))) e2 e3
  induction v using V.casesOn with
  | a A ys =>
   induction A using Ag.casesOn with
   | tup =>
    refine i7 (seq ys e) ?_;intro d ds as r1 c1 rm e2 XI;obtain rfl:=XI
    refine lh vv.tup ?_;intro a its TI VI vr _;obtain rfl:=TI;refine F1 VI ?_;(repeat clear VI);intro o ho hc gJ;obtain ⟨n,hd⟩:=gJ
    refine F1 (z5 (W7 20) _ vr e2) fun bs r2 c2 l2=>?_
    have rc:Reads s.heap (.ref a) (.tuple ds) _ := .tuple ho hc hd r2
    exact ⟨fun q=>SeqAt.in_tuple_reads rc r1 c2 c1 (rm _) (D0.bool h.rel q),fun q=>SeqAt.notIn_tuple_reads rc r1 c2 c1 (rm _) (D0.bool h.rel q)⟩
   | lst =>
    refine i7 (seq ys e) ?_;intro d ds as r1 c1 rm e2 QI;obtain rfl:=QI
    refine R5 vv.lst ?_;intro a its k OI ho vr _;obtain rfl:=OI
    refine F1 (z5 (W7 20) _ vr e2) fun bs r2 c2 l2=>?_
    have rc:Reads s.heap (.ref a) (.list ds) _ := .list ho rfl rfl r2
    exact ⟨fun q=>SeqAt.in_list_reads rc r1 c2 c1 (rm _) (D0.bool h.rel q),fun q=>SeqAt.notIn_list_reads rc r1 c2 c1 (rm _) (D0.bool h.rel q)⟩
   | ds ss =>
    induction u using V.casesOn with
    | str k =>
     obtain ⟨tk,rfl⟩:=vu
     refine O8 vv.ds ?_;intro a kvs MI nsm hd e1 vr;obtain rfl:=MI
     obtain rfl:=Option.some.inj (show some (ss.contains k)=some r from e)
     have em:(valueAt kvs k).isSome=ss.contains k:=e1▸Fh k kvs
     exact ⟨fun q=>wpAny_in_of (bA k tk) nsm hd.mapOf (D0.tok (v := .bool _) h.rel rfl (em.symm▸q)),fun q=>ms (bA k tk) nsm hd.mapOf (D0.tok (v := .bool _) h.rel rfl (em.symm▸q))⟩
    | _=>exact nn (show none=some r from e)
   | _=>exact nn (show none=some r from e)
  | _=>exact nn (show none=some r from e)
 induction op using CmpOp.casesOn with
 | Eq=>subst eo;refine A0 (D6 q) ?_;(repeat clear q);intro r e q;exact (Pn h vu vv (Nn e)).1 q
 | NotEq=>subst eo;refine A0 (D6 q) ?_;(repeat clear q);intro r e q;exact (Pn h vu vv (Nn e)).2 q
 | Lt=>subst eo;refine da (nums q) ?_;(repeat clear q);intro a x b y EI HI q;obtain rfl:=EI;obtain rfl:=HI;exact lt_int (D0.bool h.rel q)
 | LtE=>subst eo;refine da (nums q) ?_;(repeat clear q);intro a x b y zI CI q;obtain rfl:=zI;obtain rfl:=CI;exact le_int (D0.bool h.rel q)
 | Gt=>subst eo;refine da (nums q) ?_;(repeat clear q);intro a x b y vI xI q;obtain rfl:=vI;obtain rfl:=xI;exact gt_int (D0.bool h.rel q)
 | GtE=>subst eo;refine da (nums q) ?_;(repeat clear q);intro a x b y rI tI q;obtain rfl:=rI;obtain rfl:=tI;exact ge_int (D0.bool h.rel q)
 | Is=>subst eo;obtain ⟨rfl,q⟩:=non q;refine A0 (D6 q) ?_;(repeat clear q);intro r e q;exact is_none (D0.bool h.rel ((Qn vu e).symm▸q))
 | IsNot=>subst eo;obtain ⟨rfl,q⟩:=non q;refine A0 (D6 q) ?_;(repeat clear q);intro r e q;exact isNot_none (D0.bool h.rel ((Qn vu e).symm▸q))
 | In=>subst eo;refine A0 (D6 q) ?_;(repeat clear q);intro r e q;exact (inn (On e)).1 q
 | NotIn=>subst eo;refine A0 (D6 q) ?_;(repeat clear q);intro r e q;exact (inn (On e)).2 q
end
open PySem.Calls
theorem As{n x:Nat}(hx:x<fS.length)(e:fN n=fN x):n=x:=by
 have two:(List.range 46).all (fun n=>(List.range 46).all fun x=>n==x||!(fN n==fN x))=true:=by decide +kernel
 have out:(List.range 46).all (fun x=>!(Str.ofString ""==fN x))=true:=by decide +kernel
 have mx:x∈List.range 46:=List.mem_range.mpr hx
 by_cases hn:n<46
 ·rcases Bool.or_eq_true_iff.mp (List.all_eq_true.mp (List.all_eq_true.mp two n (List.mem_range.mpr hn)) x mx) with z|z
  ·exact eq_of_beq z
  ·rw [e,beq_self_eq_true] at z;exact Bool.noConfusion z
 ·have q:fN n=Str.ofString "":=by unfold fN nm;rw [List.getD_eq_getElem?_getD,List.getElem?_eq_none (Nat.not_lt.mp hn)];rfl
  have z:=List.all_eq_true.mp out x mx
  rw [←q,e,beq_self_eq_true] at z;exact Bool.noConfusion z
theorem Uy{x:Nat}(hx:x<fS.length):∀ {ns:List Nat} {xs:List V},oD ns xs x=Vq (ns.map fN) xs (fN x)
 | [],_=>rfl
 | n::ns,[]=>rfl
 | n::ns,v::vs=>by
  show (if (n==x)=true then some v else oD ns vs x)=match j6 (fN n) (fN x) with|true=>some v|false=>Vq (ns.map fN) vs (fN x)
  by_cases q:n=x
  ·exact f0 (if_pos (beq_iff_eq.mpr q) ..) (f0 (k7.mpr (congrArg fN q) ..) rfl)
  ·exact f0 (if_neg fun z=>q (beq_iff_eq.mp z) ..) (f0 (Bool.eq_false_iff.mpr fun z=>q (As hx (k7.mp z)) ..) (f0 (Uy hx ..) rfl))
theorem Ae{w:World}(x:Str):∀ {des:List DictEntry} {kvs:List (Str×Value)},Pairs (strKind pw w) des kvs→getL x des=some (valueAt kvs x)
 | _,_,.nil=>rfl
 | _,_,.cons (e:=e) (kv:=(k,v)) is hv ps=>by
  have ih:=Ae x ps
  obtain ⟨t,ek⟩:=Value.isStrOf_shape is
  unfold getL valueAt at ih ⊢
  rw [List.find?_cons,List.find?_cons,List.any_cons]
  have e1:e.key.isStr x=decide (k=x):=by refine f0 (ek ..) ?_;exact (show (k==x)=_ from Bool.beq_eq_decide_eq k x)
  have e2:e.refKey=false:=by unfold DictEntry.refKey;exact f0 (ek ..) rfl
  refine f0 (e1 ..) (f0 (e2 ..) ?_)
  by_cases q:k=x
  ·refine f0 (decide_eq_true q ..) ?_;exact congrArg (fun z=>some (some z)) hv
  ·refine f0 (decide_eq_false q ..) (f0 (Bool.false_or ..) ?_);exact ih
theorem Gp{h:Heap}{w:World}{d:Addr}{kvs:List (Str×Value)}(x:h.DictOf (strKind pw w) d kvs):∃ des n,h.get? d=some (dictOf des n)∧∀ k,lookIn k (dictOf des n)=some (valueAt kvs k):=by
 refine Qi x ?_;(repeat clear x);intro XI es ep ho ZI hd hk hp _;obtain ⟨oc,od,odt,os⟩:=XI;refine i4 ZI ?_;(repeat clear ZI);intro e1 e2 e3
 dsimp only at e1 e2 e3 hd
 subst e1;subst e2;subst e3;subst hd
 exact W4 es.toList ep ho (fun k=>Ae k hp)
theorem Ka{K:Frag}{a:Addr}(e:Ld K a=true):hasDictIn K a=true∧plainOver K a=true∧findIn K (.ref a) "__setattr__"=some (some (.builtin "object.__setattr__"))∧plainGet K a ""=true∧∀ x,x<fS.length→findIn K (.ref a) (fN x)=some none:=by
 obtain ⟨e,e5⟩:=b2 e
 obtain ⟨e,e4⟩:=b2 e
 obtain ⟨e,e3⟩:=b2 e
 obtain ⟨e1,e2⟩:=b2 e
 exact Yq e1 e2 (beq_iff_eq.mp e3) e4 (fun x hx=>beq_iff_eq.mp (List.all_eq_true.mp e5 x (List.mem_range.mpr hx)))
section
variable{B:Bk}{K:Fr}{t t':St}{s s':Shared}{Q:X0}{pos p2 p3 p4:Pos}{k:Nat}
theorem Q6.obj{C:Cx}{c:Nat}{ns:List Nat}{xs:List V}{r:Value}(x:Q6 C t s.heap (.a (.obj c ns) xs) r):∃ a ca d des m,r = .ref a∧P8 C c ca∧InstAt s.heap a (instObj ca d) ca (some (dictOf des m)) ∧
  (∀ x v,x<fS.length→oD ns xs x=some v→∃ r,lookIn (fN x) (dictOf des m)=some (some r)∧G0 C t s.heap v r)∧∀ k,(∀ n∈ns,fN n≠k)→lookIn k (dictOf des m)=some none:=by
 refine q8 x ?_;(repeat clear x);intro a d rs TI VI vr;obtain rfl:=TI;refine F1 VI ?_;(repeat clear VI);intro ca hc ho AI;refine F1 AI ?_;(repeat clear AI);intro kvs hd e1 DI;obtain rfl:=DI
 refine Y1 (Gp hd) fun des m hg lk=>?_
 refine ir a ca d des m rfl hc ⟨ho,rfl,rfl,hg⟩ (fun x v hx e=>?_) (fun k hk=>?_)
 ·rw [Uy hx] at e
  exact ((rb (fN x) e1 rfl vr).1 v e).imp fun r z=>⟨(lk _).trans (congrArg some z.1),z.2⟩
 ·refine (lk k).trans (congrArg some ?_)
  have n:(kvs.map (·.1)).contains k=false:=by
   cases q:(kvs.map (·.1)).contains k with
   | false=>rfl
   | true =>
    rw [e1] at q
    refine A0 (List.mem_map.mp (List.contains_iff_mem.mp q)) fun n hn e=>?_
    exact absurd e (hk n hn)
  exact Option.not_isSome_iff_eq_none.mp (by refine f0 (Fh ..) (f0 (n ..) ?_);exact Bool.false_ne_true)
theorem G0.handed{v:V}{r:Value}(h:B.C.Ok)(vr:G0 B.C t s.heap v r):handedIn r=true:=by
 induction v using V.casesOn with
 | none=>obtain rfl:=(show r=_ from vr);rfl
 | bool _=>obtain rfl:=(show r=_ from vr);rfl
 | int _=>obtain ⟨_,rfl⟩:=vr;rfl
 | str _=>obtain ⟨_,rfl⟩:=vr;rfl
 | ref _=>obtain ⟨_,rfl⟩:=vr;rfl
 | a _ _=>refine nh vr ?_;(repeat clear vr);intro _ _ _ QI _;obtain rfl:=QI;rfl
 | g x =>
  refine A0 (h.gl x vr.1) fun a e Z=>?_
  cases vr.2.symm.trans e;rfl
 | b x =>
  obtain ⟨_,FI⟩:=h.bl x vr.1;refine A0 FI ?_;(repeat clear FI);intro r' e hh
  obtain rfl:=Option.some.inj (vr.2.symm.trans e);exact hh
 | m c x =>
  obtain ⟨hm,JI⟩:=vr;refine A0 JI ?_;(repeat clear JI);intro a hc e
  refine A0 (h.mth c a x hc hm) fun f e' Z=>?_
  cases e.symm.trans e';rfl
 | raw _=>obtain rfl:=(show r=_ from vr);rfl
theorem n3{en:Env}{o:Expr}{x:Str}(hb:me o=true)(whole:Sem Value):attributeBase o x en whole=whole:=by
 induction o using Expr.casesOn with
 | Call f a k p=>induction f using Expr.casesOn with
  | Name i q=>induction a using List.casesOn with
   | nil=>induction k using List.casesOn with
    | nil=>exact Bool.noConfusion hb
    | cons=>rfl
   | cons=>rfl
  | _=>rfl
 | _=>rfl
theorem aw{e:Expr}{x:Nat}{p:E}(w:SL B [e] p)(hb:me e=true)(hx:x<fS.length):SE B (.Attribute e (fN x) pos) (.op (.attr x) p):=fun K t s Q h q=>by
 refine f0 (arm_eval_Attribute ..) (f0 (n3 hb ..) ?_)
 refine wpAny_bind (yF w h q fun t' s' u r h' x' vr q=>wpAny_bind (wpAny_standAt (wpAny_bind (wpAny_holding ?_))))
 have d:=vr.der h'.rel
 refine Y1 (Ja q) ?_;(repeat clear q);intro A xs e1 q
 rw [e1] at d
 induction A using Ag.casesOn with
 | obj c ns =>
  refine A0 (D6 q) ?_;(repeat clear q);intro v e2 q
  refine Ri d.obj ?_;intro a ca dx des m OI hc I lk _;obtain rfl:=OI
  refine A0 (lk x v hx e2) fun r' e3 vr'=>?_
  refine Hv (Ka (h.ok.cls _ _ hc).1) fun g1 g2 g3 g4 g5=>?_
  exact get_value h'.inK I (plainGet_of g4).1 (findObj_own g1 (g5 x hx) rfl e3) (vr'.handed h.ok) (wpAny_bind (wpAny_letTemporaryGo (wpAny_pure (D0.trans x' (D0.tok h'.rel vr' q)))))
 | _=>exact q.elim
theorem e7{A:Around}{prog:Program}{w:World}{E:Value→Shared→Prop}{value slice:Expr}{o i:Value}{T id:String}{ops:List Value}{Q:Value→Shared→Prop}(hT:s.TypeIs o T)
  (hl:typeLookup (.type T) "__getitem__"=pure (some (.builtin id))) (h:wpAny (model prog w) A (getItem o i) Q E s)
  (hs:subscripted slice false o i=operate ops (getItem o i)) :
  wpAny (model prog w) A (subscriptTail value slice o i) Q E s:=by
 unfold subscriptTail
 refine wpAny_bind ?_
 refine f0 (getitemInPython_of_ne hT.not_modules ..) ?_
 refine wpAny_bind (wpAny_specialOf hT hl ?_)
 have K5:wpAny (model prog w) A (subscripted slice false o i) (fun r s₃=>wpAny (model prog w) A (letTemporaryGo value o r >>= fun Z=>pure r) Q E s₃) E s:=by
  refine f0 (hs ..) ?_
  exact wpAny_operating (wpAny_mono h (fun r s₃ h₃=>wpAny_bind (wpAny_letTemporaryGo (wpAny_pure h₃))) fun Z Z x=>x)
 first
  | exact wpAny_pure (wpAny_bind K5)
  | exact wpAny_bind (wpAny_pure (wpAny_bind K5))
  | exact wpAny_bind K5
theorem S6(slice:Expr)(o i:Value):∃ ops,subscripted slice false o i=operate ops (getItem o i):=by
 induction slice using Expr.casesOn with
 | Slice a b c p=>induction c using Option.casesOn<;>exact ⟨_,rfl⟩
 | _=>exact ⟨_,rfl⟩
theorem Ec{α:Type}:∀ {xs:List α} {n:Nat} {v:α},nth xs n=some v→n<xs.length
 | [],_,_,e=>nn e
 | _::_,0,_,_=>Nat.succ_pos _
 | _::_,n+1,_,e=>Nat.succ_lt_succ (Ec (n:=n) e)
theorem Bl{α:Type}{xs:List α}{i:Int}{v:α}(e:ga xs i=some v):(∃ n:Nat,i=n∧nth xs n=some v)∨∃ n:Nat,i=-(n+1:Nat)∧n<xs.length∧nth xs (xs.length - 1 - n)=some v:=by
 induction i using Int.casesOn with
 | ofNat n=>exact .inl (C0 n rfl e)
 | negSucc n =>
  have e:(if n<xs.length then nth xs (xs.length - 1 - n) else none)=some v:=e
  by_cases q:n<xs.length
  ·rw [if_pos q] at e;exact .inr (A2 n rfl q e)
  ·rw [if_neg q] at e;exact nn e
theorem ng{n m:Nat}(h:n<m):-((n+1:Nat):Int)+m=((m - 1 - n:Nat):Int):=by omega
theorem ia{n:Nat}(h:n<1000000):(n:Int)<2 ^ 63:=by omega
theorem ib(n:Nat):-2 ^ 63≤(n:Int):=Int.le_trans (by decide) (Int.natCast_nonneg n)
theorem ic{n:Nat}(h:n<1000000):-2 ^ 63≤-((n+1:Nat):Int):=by omega
theorem LH(n:Nat):-((n+1:Nat):Int)<2 ^ 63:=Int.lt_trans (Int.negSucc_lt_zero n) (by decide)
theorem w8{n m:Nat}(h:n<m):seqIndex? (n:Int) m=some n:=by
 have e:(if (n:Int)<0 then (n:Int)+m else n)=n:=if_neg (Int.not_lt.mpr (Int.natCast_nonneg n))
 unfold seqIndex?
 refine f0 (e ..) ?_
 exact if_pos (Bool.and_eq_true_iff.mpr ⟨decide_eq_true (Int.natCast_nonneg _),decide_eq_true (Int.ofNat_lt.mpr h)⟩)
theorem y8{n m:Nat}(h:n<m):seqIndex? (-(n+1:Nat):Int) m=some (m - 1 - n):=by
 have e:(if (-(n+1:Nat):Int)<0 then -((n+1:Nat):Int)+m else -((n+1:Nat):Int))=((m - 1 - n:Nat):Int):=(if_pos (Int.negSucc_lt_zero n)).trans (ng h)
 unfold seqIndex?
 refine f0 (e ..) ?_
 exact if_pos (Bool.and_eq_true_iff.mpr ⟨decide_eq_true (Int.natCast_nonneg _),decide_eq_true (Int.ofNat_lt.mpr (Nat.lt_of_le_of_lt (Nat.sub_le ..) (Nat.sub_one_lt_of_lt h)))⟩)
theorem gg{x:Str}{k:Nat}{v:V}(e:nth (G5 x) k=some v):∃ c,x.cps[k]?=some c∧v = .str ⟨#[c]⟩:=by
 have e:=Dh e
 unfold G5 at e
 rw [List.getElem?_map] at e
 refine A0 (Option.map_eq_some_iff.mp e) ?_;intro c ec MI;obtain rfl:=MI
 exact C0 c (by rw [←Array.getElem?_toList];exact ec) rfl
theorem I5(x:Str):(G5 x).length=x.length:=by unfold G5;refine f0 (List.length_map ..) (f0 (Array.length_toList ..) ?_);rfl
theorem Bs{value slice:Expr}{u i:V}{ru ri:Value}(h:W0 B K t s)(vu:Q6 B.C t s.heap u ru)(vi:G0 B.C t s.heap i ri)(q:Xz u i t.σ Q) :
  WE B K t s (subscriptTail value slice ru ri) Q:=by
 obtain ⟨ops,hs⟩:=S6 slice ru ri
 have agg:∀ A xs,u = .a A xs→WE B K t s (subscriptTail value slice ru ri) Q:=fun A xs e=>by
  subst e
  induction A using Ag.casesOn with
  | lst =>
   refine A0 (Ac q) ?_;intro j HI q1;obtain rfl:=HI
   refine A0 (D6 q1) fun v ev q2=>?_
   obtain ⟨tk,rfl⟩:=vi
   refine i7 vu.lst ?_;intro a its m EI ho vr hl hb;obtain rfl:=EI
   refine e7 (Q3 ho).typeIs slot_list_getitem.lookup ?_ hs
   rcases Bl ev with ⟨n,rfl,hv⟩|⟨n,rfl,hn,hv⟩
   ·refine A0 (vr.nth hv) fun r hr vv=>?_
    have:=Nat.lt_of_lt_of_le (Ec hv) hb
    exact wpAny_getItem_list (Q3 ho) (Int.natCast_nonneg _) (ia this) (by rw [Int.toNat_natCast,←Array.getElem?_toList];exact hr) (D0.now h.rel vv q2)
   ·refine A0 (vr.nth hv) fun r hr vv=>?_
    have:=Nat.lt_of_lt_of_le hn hb
    exact wpAny_getItem_list_neg (Q3 ho) (Int.negSucc_lt_zero n) (Int.neg_le_neg (Int.ofNat_le.mpr (hl▸hn))) (ic this) (by rw [hl,(congrArg Int.toNat (ng hn)).trans (Int.toNat_natCast _),←Array.getElem?_toList];exact hr) (D0.now h.rel vv q2)
  | tup =>
   refine A0 (Ac q) ?_;intro j CI q1;obtain rfl:=CI
   refine A0 (D6 q1) fun v ev q2=>?_
   obtain ⟨tk,rfl⟩:=vi
   refine O8 vu.tup ?_;intro a its zI ht vr hl hb;obtain rfl:=zI
   refine e7 ht.typeIs slot_tuple_getitem.lookup ?_ hs
   rcases Bl ev with ⟨n,rfl,hv⟩|⟨n,rfl,hn,hv⟩
   ·refine A0 (vr.nth hv) fun r hr vv=>?_
    have hn:=Ec hv
    have:=Nat.lt_of_lt_of_le hn hb
    exact PyProof.Rows.getItem_tuple ht (ib n) (ia this) (by refine f0 (hl ..) ?_;exact w8 hn) (by rw [←Array.getElem?_toList];exact hr) (D0.now h.rel vv q2)
   ·refine A0 (vr.nth hv) fun r hr vv=>?_
    have:=Nat.lt_of_lt_of_le hn hb
    exact PyProof.Rows.getItem_tuple ht (ic this) (LH n) (by refine f0 (hl ..) ?_;exact y8 hn) (by rw [←Array.getElem?_toList];exact hr) (D0.now h.rel vv q2)
  | ds ss =>
   refine A0 (Pr q) ?_;intro k xI q1;obtain rfl:=xI
   refine A0 (D6 q1) fun v ev q2=>?_
   obtain ⟨tk,rfl⟩:=vi
   refine O8 vu.ds ?_;intro a kvs vI _ hd e1 vr;obtain rfl:=vI
   refine A0 ((rb k e1 rfl vr).1 v ev) fun r er vv=>?_
   refine q8 (id hd) fun o Z Z ho hx Z=>?_
   exact e7 (C0 o ho hx.1) slot_dict_getitem.lookup (wpAny_getItem_of (knd:=strKind pw B.C.w) (bA k tk) hd.mapOf er (D0.tok h.rel vv q2)) hs
  | _=>exact q.elim
 induction u using V.casesOn with
 | a A xs=>exact agg A xs rfl
 | str x =>
  refine A0 (Ac q) ?_;(repeat clear q);intro j tI q;obtain rfl:=tI
  obtain ⟨hb,q1⟩:=S5 q
  refine A0 (D6 q1) fun v ev q2=>?_
  obtain ⟨tk,rfl⟩:=vi
  obtain ⟨tk',rfl⟩:=vu
  have K5:∀ {m},nth (G5 x) m=some v→seqIndex? j x.length=some m→j.natAbs≤1000000→WE B K t s (getItem (.str x tk') (.int j tk)) Q:=fun hv hj hz=>by
   refine A0 (gg hv) ?_;intro c hc rI;obtain rfl:=rI
   exact PyProof.Rows.getItem_str (Bool.or_eq_false_iff.mpr ⟨decide_eq_false (by omega),decide_eq_false (by omega)⟩) (by refine f0 (hj ..) ?_;exact hc) (D0.str h.rel q2)
  refine e7 (typeIs_str s _ _) slot_str_getitem.lookup ?_ hs
  rcases Bl ev with ⟨n,rfl,hv⟩|⟨n,rfl,hn,hv⟩
  ·exact K5 hv (by refine P5 (I5 ..) ?_;exact w8 (Ec hv)) (by have:=Ec hv;rw [I5] at this;exact Nat.le_trans (Nat.le_of_lt this) hb)
  ·exact K5 hv (by refine P5 (I5 ..) ?_;exact y8 hn) (by rw [I5] at hn;exact Nat.le_trans hn hb)
 | _=>exact False.elim q
theorem cA{e i:Expr}{p:E}(w:SL B [e,i] p):SE B (.Subscript e i pos) (.op .sub p):=fun K t s Q h q =>
 Subscript_ (Pk w h q fun t' s' u v r r' h' x' vu vv q=>WE.base h x' (Bs h' (vu.der h'.rel) vv q))
end
open PySem.Calls
section
variable{B:Bk}{K:Fr}{t t':St}{s s':Shared}{Q:X0}{pos p2 p3 p4:Pos}{k:Nat}
theorem vb{e:Expr}(h:Q4 e=true):∀ r env,starEach (e::r) env=(false,eval e env)::starEach r env:=by
 induction e using Expr.casesOn<;>first|exact fun Z Z=>rfl|exact Bool.noConfusion h
noncomputable abbrev Cs(C:Cx)(t:St)(s:Shared)(Q:LP)(rs:List Value)(s':Shared):Prop:=∃ t' vs,O3 C no t s t' s'∧E0 C t' s'.heap vs rs∧Q vs t'.σ
theorem La{es:List Expr}{p:E}(w:SL B es p):∀ K t s Q,W0 B K t s→w5 B.L.f K.X p K.ρ t.σ Q →
  Wp B K t s (spliced (backTo pos (starEach es K.en))) (fun rs s'=>(backTo pos (starEach es K.en)).any (·.1)=false∧Cs B.C t s (fun l σ=>l.length=es.length∧Q l σ) rs s') s:=by
 induction w with
 | nil=>exact fun K t s Q h q=>wpAny_items_nil ⟨rfl,t,[],.refl h.rel,rfl,rfl,q⟩
 | @cons e p es q he hs _ ih =>
  intro K t s Q h q
  refine wpAny_items_cons (WE.go h h.refl (he K t s _ h q) fun t' s' u r h' x Z vr q=>?_) (vb hs _ _)
  refine wpAny_mono (ih K t' s' _ h' q) (fun rs s2 z=>?_) fun Z Z y=>Z1.trans h.rel x y
  refine ⟨by refine f0 (vb hs ..) ?_;exact z.1,z.2.imp fun t2 y=>y.elim fun vs y=>i5 (u::vs) (x.trans y.1) (L1 r rs rfl (vr.go (h'.mo y.1) u) y.2.1) (congrArg Nat.succ y.2.2.1) y.2.2.2⟩
theorem bw{es:List Expr}{m:Md}{p:E}(w:SL B es p)(hl:es.length≤1000):SE B (.List es pos) (.op (.list m) p):=fun K t s Q h q =>
 wpAny_List (wpAny_mono (La w K t s _ h q) (fun rs s' z=>z.2.elim fun t' y=>y.elim fun vs y=>by
  refine R7 y ?_;(repeat clear y);intro x vr e q
  have hb:db vs.length:=by refine f0 (e ..) ?_;exact Nat.le_trans hl (by decide)
  exact ⟨by have:=X2 hb;rw [←vr.len] at this;exact this,D0.trans x (D0.list x.tr.rel (h.ext x).own (its:=rs.toArray) vr hb q)⟩) fun Z Z y=>y)
theorem dA{es:List Expr}{p:E}(w:SL B es p)(hl:es.length≤1000):SE B (.Tuple es k pos) (.op .tup p):=fun K t s Q h q =>
 wpAny_Tuple (wpAny_mono (La w K t s _ h q) (fun rs s' z=>z.2.elim fun t' y=>y.elim fun vs y=>by
  refine R7 y ?_;(repeat clear y);intro x vr e q
  have hb:db vs.length:=by refine f0 (e ..) ?_;exact Nat.le_trans hl (by decide)
  exact ⟨by have:=X2 hb;rw [←vr.len] at this;exact this,D0.trans x (D0.tup x.tr.rel (h.ext x).own (its:=rs.toArray) vr hb q)⟩) fun Z Z y=>y)
theorem Ds{e f:Expr}{p:E}(w:SL B [e,f] p)(hs:Q4 e=true):SE B (.List [e,.Starred f p2] pos) (.op .lstar p):=fun K t s Q h q=>by
 refine wpAny_List (wpAny_items_cons ?_ (vb hs _ _))
 refine wpAny_mono (Pk (G:=fun r r' s'=>∃ t' u v,W0 B K t' s'∧O3 B.C no t s t' s'∧G0 B.C t' s'.heap u r∧G0 B.C t' s'.heap v r'∧aP v fun A ys=>match A with | .tup | .lst=>pb (ys.length+1) (Q [.a .lst (u::ys)] t'.σ)|_=>False) w h q fun t' s' u v r r' h' x' vu vv q=>W8 t' u v h' x' vu vv q) (fun r s1 w2=>items_star (wpAny_mono w2 (fun r' s' z=>?_) fun Z Z y=>y)) fun Z Z y=>y
 refine i7 z ?_;(repeat clear z);intro t' u v h' x' vu vv q
 refine Y1 (Ja q) ?_;(repeat clear q);intro A ys XI q;obtain rfl:=XI
 have K5:∀ (a:Addr) (T:String) (o:Obj) (its:Array Value) (k:Nat),r' = .ref a→(T="list"∨T="tuple")→s'.heap.get? a=some o→o.cls = .type T→o.data = .seq its k→E0 B.C t' s'.heap ys its.toList→its.size=ys.length →
   db (ys.length+1)∧Q [.a .lst (u::ys)] t'.σ→StarOf (model pw B.C.w) K.A (XP B K t s) r' (fun here s₂=>wpAny (model pw B.C.w) K.A (spliced (backTo pos (starEach [] K.en))) (fun vs s₁=>(r::(here++vs)).length≤sizeLine ∧
    D0 B.C t s (fun v σ=>Q [v] σ) (.ref s₁.heap.objs.size) { s₁ with heap:=s₁.heap.push { cls := .type "list",data := .seq (r::(here++vs)).toArray } }) (XP B K t s) s₂) s':=fun a T o its k e1 hT ho hc hd vr hl qn=>by
  subst e1
  have hTy:s'.TypeIs (.ref a) T:=C0 o ho hc
  have z:wpAny (model pw B.C.w) K.A (collect (.ref a)) (fun here s₂=>wpAny (model pw B.C.w) K.A (spliced (backTo pos (starEach [] K.en))) (fun vs s₁=>(r::(here++vs)).length≤sizeLine ∧
    D0 B.C t s (fun v σ=>Q [v] σ) (.ref s₁.heap.objs.size) { s₁ with heap:=s₁.heap.push { cls := .type "list",data := .seq (r::(here++vs)).toArray } }) (XP B K t s) s₂) (XP B K t s) s':=by
   refine wpAny_collect_seq a hT ho hc hd (fun h2 hk=>wpAny_items_nil ?_) (by refine f0 (hl ..) ?_;exact X2 (Nat.le_of_succ_le qn.1))
   have E2:O3 B.C no t' s' t' { s' with heap:=h2 }:=⟨Tr.more h'.rel h'.own hk,rfl,rfl⟩
   have hz:(r::(its.toList++[])).length=ys.length+1:=by exact f0 (List.append_nil ..) (f0 (List.length_cons ..) (f0 (Array.length_toList ..) (f0 (hl ..) rfl)))
   exact ⟨by rw [hz];exact X2 qn.1,D0.trans x' (D0.trans E2 (D0.list (m := .fz) (xs:=u::ys) E2.tr.rel (h'.ext E2).own (L1 r its.toList (by rw [List.append_nil]) (vu.go (h'.mo E2) u) (vr.go (h'.mo E2) ys)) qn.1 qn.2))⟩
  unfold StarOf notIterableAtAll
  rcases hT with rfl|rfl
  ·exact wpAny_bind (wpAny_specialOf hTy PySem.F.slot_list_iter.lookup (wpAny_pure ⟨rfl,z⟩))
  ·exact wpAny_bind (wpAny_specialOf hTy PySem.F.slot_tuple_iter.lookup (wpAny_pure ⟨rfl,z⟩))
 have d:=vv.d
 induction A using Ag.casesOn with
 | tup =>
  refine O8 d.tup ?_;intro a its e VI vr hl _;refine F1 VI ?_;(repeat clear VI);intro o ho hc uI;obtain ⟨k,hd⟩:=uI
  exact K5 a "tuple" o its k e (.inr rfl) ho hc hd vr hl (S5 q)
 | lst =>
  refine i7 d.lst fun a its k e ho vr hl Z=>?_
  exact K5 a "list" _ its k e (.inl rfl) ho rfl rfl vr hl (S5 q)
 | _=>exact q.elim
theorem F6{C:Cx}(R:Y0 C t s.heap)(O:U1 t s.heap)(o:Obj):O3 C no t s t { s with heap:=s.heap.push o }:=⟨Tr.more R O fun Z Z e=>Heap.get?_push_of_some _ e,rfl,rfl⟩
theorem Qd{value slice:Expr}{r vl vh vs:Value}{xs ys:List V}{m:Md}{kl kh ks:Option Int}(h:W0 B K t s)(vu:Q6 B.C t s.heap (.a .lst xs) r)(pl:IsPart vl kl)(ph:IsPart vh kh)(ps:IsPart vs ks)(hs0:ks≠some 0)
  (hy:∀ (its:Array Value),its.size=xs.length→E0 B.C t s.heap xs its.toList→E0 B.C t s.heap ys (slicePick its kl kh ks).toList) (hl:ys.length≤xs.length) (q:Oi m (.a .lst ys) t.σ Q) :
  Wp B K t s (subscriptTail value slice r (.ref s.heap.objs.size)) (D0 B.C t s Q) { s with heap:=s.heap.push { cls := .type "slice",data := .fields #[vl,vh,vs] } }:=by
 obtain ⟨ops,hs⟩:=S6 slice r (.ref s.heap.objs.size)
 refine i7 vu.lst ?_;intro a its n TI ho vr hz hb;obtain rfl:=TI
 have X1:=F6 h.rel h.own { cls := .type "slice",data := .fields #[vl,vh,vs] }
 have h1:=h.ext X1
 have ho1:=Heap.get?_push_of_some { cls := .type "slice",data := .fields #[vl,vh,vs] } ho
 exact e7 (Q3 ho1).typeIs slot_list_getitem.lookup
  (wpAny_getItem_list_slice (Q3 ho1) (Heap.IsSliceOf.new ..) pl ph ps hs0 (D0.trans X1 (D0.list h1.rel h1.own ((hy its hz vr).go (h.mo X1) ys) (Nat.le_trans hl hb) q)) (by refine f0 (hz ..) ?_;exact X2 hb)) hs
theorem yb{A:Around}{t sl:Addr}{items:Array Value}{u:Tok}{E:Value→Shared→Prop}{Q:Value→Shared→Prop}(ht:IsTup s.heap t items)(hs:s.heap.IsSliceOf sl (.int 0 u) .none .none)
  (h:Q (.ref t) s):wpAny (model pw B.C.w) A (getItem (.ref t) (.ref sl)) Q E s:=by
 refine F1 (id hs) fun os hos hcs hds=>?_
 have hTs:s.TypeIs (.ref sl) "slice":=C0 os hos hcs
 unfold getItem
 try with_reducible refine wpAny_holding ?_
 first|refine wpAny_bind (wpAny_pure ?_)|skip
 refine wpAny_bind (wpAny_sequenceKey ht.typeIs (by decide) ?_)
 refine wpAny_bind (wpAny_callSpecial?_slot (name:=Str.ofString "__getitem__") ht.typeIs slot_tuple_getitem
  (wpAny_call_entry slot_tuple_getitem ht.typeIs entry_tuple_getitem ?_ (args_tuple_getitem _ _)))
 show wpAny _ _ (Builtin.Tuple.tupleItemsOf (.ref t) >>= _) _ _ s
 refine wpAny_bind (tupleItemsOf_ ht ?_)
 refine wpAny_bind (wpAny_typeOf hTs ?_)
 refine f0 (if_pos (by decide) ..) ?_
 refine wpAny_bind (sliceApplied_from (a:=0) hs (Nat.zero_le _) ?_)
 have hyes:(((0:Nat):Int)==0&&(1:Int)==1&&(items.size - 0)==items.size)=true:=by simp
 show wpAny _ _ (if (((0:Nat):Int)==0&&(1:Int)==1&&(items.size - 0)==items.size)=true then _ else _) _ _ s
 refine f0 (if_pos hyes ..) ?_
 refine F1 ht ?_;(repeat clear ht);intro o ho hc QI;obtain ⟨m,hd⟩:=QI
 have ex:∀ {Q':Bool→Shared→Prop} {E':Value→Shared→Prop},Q' true s→wpAny (model pw B.C.w) A.in1 (Builtin.Tuple.tupleIsExact (.ref t)) Q' E' s:=fun hq=>by
  unfold Builtin.Tuple.tupleIsExact
  exact wpAny_bind (wpAny_typeOf (T:="tuple") (C0 o ho hc) (wpAny_pure (by simpa using hq)))
 refine wpAny_bind (ex ?_)
 refine f0 (if_pos rfl ..) ?_
 exact wpAny_bind (wpAny_rule (wpAny_pure (C0 _ rfl (wpAny_pure h))))
theorem eA{value slice:Expr}{r:Value}{xs:List V}{i:Int}{tk:Tok}(h:W0 B K t s)(vu:G0 B.C t s.heap (.a .tup xs) r)(h0:0≤i)(h1:i≤xs.length)(q:Q (.a .tup (xs.drop i.toNat)) t.σ) :
  Wp B K t s (subscriptTail value slice r (.ref s.heap.objs.size)) (D0 B.C t s Q) { s with heap:=s.heap.push { cls := .type "slice",data := .fields #[.int i tk,.none,.none] } }:=by
 obtain ⟨ops,hs⟩:=S6 slice r (.ref s.heap.objs.size)
 have X1:=F6 h.rel h.own { cls := .type "slice",data := .fields #[.int i tk,.none,.none] }
 have h1':=h.ext X1
 have vu1:=vu.go (h.mo X1)
 refine O8 vu1.d.tup ?_;intro a its OI ht vr hz hb;obtain rfl:=OI
 refine e7 ht.typeIs slot_tuple_getitem.lookup ?_ hs
 obtain ⟨k,rfl⟩:=Int.eq_ofNat_of_zero_le h0
 rw [Int.toNat_natCast] at q
 have hk:k≤xs.length:=Int.ofNat_le.mp h1
 cases k with
 | zero=>exact yb ht (Heap.IsSliceOf.new ..) (D0.trans X1 (D0.now h1'.rel vu1 q))
 | succ k=>exact getItem_tuple_from ht (Heap.IsSliceOf.new ..) (Nat.succ_pos _) (by refine f0 (hz ..) ?_;exact hk) (D0.trans X1 (D0.tup h1'.rel h1'.own (vr.drop _) (Nat.le_trans (by refine f0 (List.length_drop ..) ?_;exact Nat.sub_le _ _) hb) q)) (by refine f0 (hz ..) ?_;exact X2 hb)
theorem Fc{its:Array Value}{n:Nat}{a b:Option Int}(hz:its.size=n):(slicePick its a b none).toList=(its.toList.drop (a.elim 0 (clipAt n))).take (b.elim n (clipAt n) - a.elim 0 (clipAt n)):=by subst hz;exact f0 (slicePick_plain ..) rfl
theorem cw{C:Cx}{u:V}{xs:List V}{r:Value}(vu:G0 C t s.heap u r)(R:Y0 C t s.heap)(e:der t.σ u = .a .tup xs):u = .a .tup xs:=by
 induction u using V.casesOn with
 | ref k =>
  obtain ⟨v,ev⟩:=vu.1
  refine q8 (R.cell k v ev) ?_;intro A ys _ MI n _;obtain rfl:=MI
  have e:(A1 t.σ k).getD .none = .a .tup xs:=e
  rw [ev] at e
  cases e
  exact absurd rfl n
 | _=>exact e
theorem U5{C:Cx}{h:Heap}{v:V}{r:Value}{Kn:Int→Prop}(vr:G0 C t h v r)(q:iP v Kn):∃ i tk,r = .int i tk∧Kn i:=by
 refine A0 (Ac q) ?_;(repeat clear q);intro i HI q;obtain rfl:=HI
 obtain ⟨tk,rfl⟩:=vr
 exact W4 i tk rfl q
theorem dw{e f:Expr}{m:Md}{p:E}(w:SL B [e,f] p):SE B (.Subscript e (.Slice (some f) none none p2) pos) (.op (.slLo m) p):=fun K t s Q h q=>by
 refine Subscript_ (wpAny_mono (Pk w h q fun t' s' u v r r' h' x' vu vv q=>((W8 t' u v h' x' vu vv q):∃ t' u v,W0 B K t' s'∧O3 B.C no t s t' s'∧G0 B.C t' s'.heap u r∧G0 B.C t' s'.heap v r'∧Y8 t'.σ u fun u=>Py m u v t'.σ fun v σ=>Q [v] σ)) (fun r s1 w2=>wpAny_Slice (wpAny_mono w2 (fun r' s' z=>wpAny_pure (wpAny_pure ?_)) fun Z Z y=>y)) fun Z Z y=>y)
 refine i7 z ?_;(repeat clear z);intro t' u v h' x' vu vv q
 have d:=vu.der h'.rel
 refine Y1 (Ja q) ?_;(repeat clear q);intro A xs e1 q
 rw [e1] at d
 refine wpAny_mono (E:=XP B K t' s') (Q:=D0 B.C t' s' fun v σ=>Q [v] σ) ?_ (fun Z Z y=>D0.trans x' y) fun Z Z y=>Z1.trans h.rel x' y
 induction A using Ag.casesOn with
 | lst =>
  refine Y1 (U5 vv q) ?_;(repeat clear q);intro i tk EI q;obtain rfl:=EI
  exact Qd h' d (.int i tk) .none .none (fun Z=>nn Z) (fun its hz vr=>by refine f0 (Fc hz ..) ?_;exact (vr.drop _ |> fun v=>by
   have e2:(xs.drop (clipAt xs.length i)).take (xs.length - clipAt xs.length i)=xs.drop (clipAt xs.length i):=List.take_of_length_le (by refine f0 (List.length_drop ..) ?_;exact Nat.le_refl _)
   exact e2▸v.take _)) (by refine f0 (List.length_drop ..) ?_;exact Nat.sub_le _ _) q
 | tup =>
  refine Y1 (U5 vv q) ?_;(repeat clear q);intro i tk CI q;obtain rfl:=CI
  obtain ⟨q0,q⟩:=Z8 q
  obtain ⟨q1,q⟩:=Z8 q
  exact eA h' (cw vu h'.rel e1▸vu) q0 q1 q
 | _=>exact q.elim
theorem gw{e f:Expr}{m:Md}{p:E}(w:SL B [e,f] p):SE B (.Subscript e (.Slice none (some f) none p2) pos) (.op (.slHi m) p):=fun K t s Q h q=>by
 refine Subscript_ (wpAny_mono (Pk w h q fun t' s' u v r r' h' x' vu vv q=>((W8 t' u v h' x' vu vv q):∃ t' u v,W0 B K t' s'∧O3 B.C no t s t' s'∧G0 B.C t' s'.heap u r∧G0 B.C t' s'.heap v r'∧Y8 t'.σ u fun u=>lP u fun xs=>Yz xs.length v fun h=>Oi m (.a .lst (xs.take h)) t'.σ fun v σ=>Q [v] σ)) (fun r s1 w2=>wpAny_Slice (wpAny_pure (wpAny_mono w2 (fun r' s' z=>wpAny_pure ?_) fun Z Z y=>y))) fun Z Z y=>y)
 refine i7 z ?_;(repeat clear z);intro t' u v h' x' vu vv q
 have d:=vu.der h'.rel
 refine A0 (aj q) ?_;(repeat clear q);intro xs e1 q
 rw [e1] at d
 refine Y1 (U5 vv q) ?_;(repeat clear q);intro i tk zI q;obtain rfl:=zI
 exact wpAny_mono (Qd h' d .none (.int i tk) .none (fun Z=>nn Z) (fun its hz vr=>by refine f0 (Fc hz ..) ?_;exact vr.take _) (by refine f0 (List.length_take ..) ?_;exact Nat.min_le_right _ _) q) (fun Z Z y=>D0.trans x' y) fun Z Z y=>Z1.trans h.rel x' y
theorem Hp{e f g:Expr}{m:Md}{p:E}(w:SL B [e,f,g] p):SE B (.Subscript e (.Slice (some f) (some g) none p2) pos) (.op (.slBoth m) p):=fun K t s Q h q=>by
 refine Subscript_ (wpAny_mono (KH w h q fun t' s' u v v' r r' r'' h' x' vu vv vw q=>(⟨t',u,v,v',h',x',vu,vv,vw,q⟩:∃ t' u v v',W0 B K t' s'∧O3 B.C no t s t' s'∧G0 B.C t' s'.heap u r∧G0 B.C t' s'.heap v r'∧G0 B.C t' s'.heap v' r''∧Y8 t'.σ u fun u=>lP u fun xs=>Yz xs.length v fun a=>Yz xs.length v' fun h=>Oi m (.a .lst (slL xs a h)) t'.σ fun v σ=>Q [v] σ)) (fun r s1 w2=>wpAny_Slice (wpAny_mono w2 (fun r' s2 w3=>wpAny_mono w3 (fun r'' s' z=>wpAny_pure ?_) fun Z Z y=>y) fun Z Z y=>y)) fun Z Z y=>y)
 refine VF z ?_;(repeat clear z);intro t' u v v' h' x' vu vv vw q
 have d:=vu.der h'.rel
 refine A0 (aj q) ?_;(repeat clear q);intro xs e1 q
 rw [e1] at d
 refine Y1 (U5 vv q) ?_;(repeat clear q);intro i tk xI q;obtain rfl:=xI
 refine Y1 (U5 vw q) ?_;(repeat clear q);intro j tk' vI q;obtain rfl:=vI
 exact wpAny_mono (Qd h' d (.int i tk) (.int j tk') .none (fun Z=>nn Z) (fun its hz vr=>by refine f0 (Fc hz ..) ?_;exact (vr.drop _).take _) (by unfold slL;refine f0 (List.length_take ..) (f0 (List.length_drop ..) ?_);exact Nat.le_trans (Nat.min_le_right _ _) (Nat.sub_le _ _)) q) (fun Z Z y=>D0.trans x' y) fun Z Z y=>Z1.trans h.rel x' y
theorem c9{α β:Type}{f:α→Option β}{g:α→β}:∀ {l:List α},(∀ x∈l,f x=some (g x))→l.filterMap f=l.map g
 | [],_=>rfl
 | x::l,h=>by exact f0 (List.filterMap_cons ..) (f0 (h x (.head _) ..) (f0 (List.map_cons ..) (f0 (c9 fun y hy=>h y (.tail _ hy) ..) rfl)))
theorem tn{n k:Nat}(h:k<n):((n:Int) - 1+-1*(k:Int)).toNat=n - 1 - k:=by omega
theorem Ip(items:Array Value):(slicePick items none none (some (-1))).toList=items.toList.reverse:=by
 unfold slicePick
 have e1:sliceBounds none none (some (-1)) items.size=((items.size:Int) - 1,-1,-1):=by
  simp [sliceBounds]
 refine f0 (e1 ..) ?_
 dsimp only
 unfold sliceRange
 refine f0 (if_neg (by decide) ..) ?_
 refine List.ext_getElem? fun i=>?_
 by_cases h0:items.size=0
 ·have:items=#[]:=Array.size_eq_zero_iff.mp h0
  subst this
  simp
 ·refine f0 (if_pos (by omega) ..) ?_
  have e2:(((items.size:Int) - 1 - -1 - -1 - 1) / - -1).toNat=items.size:=by simp
  dsimp only
  refine f0 (e2 ..) ?_
  have e3:List.filterMap (fun x=>items[x]?) (List.map (fun (k:Nat)=>((items.size:Int) - 1+-1*(k:Int)).toNat) (List.range items.size))=(List.range items.size).map (fun k=>items.toList.reverse[k]!):=by
   refine f0 (List.filterMap_map ..) ?_
   refine c9 fun k hk=>?_
   have hk':k<items.size:=List.mem_range.mp hk
   show items[((items.size:Int) - 1+-1*(k:Int)).toNat]?=some _
   refine f0 (tn hk') ?_
   rw [List.getElem!_eq_getElem?_getD,List.getElem?_reverse (by simpa using hk'),Array.length_toList,Array.getElem?_toList,Array.getElem?_eq_getElem (Nat.lt_of_le_of_lt (Nat.sub_le ..) (Nat.sub_one_lt_of_lt hk'))]
   rfl
  refine f0 (e3 ..) ?_
  by_cases hi:i<items.size
  ·rw [List.getElem?_map,List.getElem?_range hi,Option.map_some,List.getElem!_eq_getElem?_getD,List.getElem?_eq_getElem (by simpa using hi)]
   rfl
  ·rw [List.getElem?_eq_none (by simpa using hi),List.getElem?_eq_none (by simpa using hi)]
theorem Es{e:Expr}{p:E}(w:SL B [e] p):SE B (.UnaryOp .USub e pos) (.op .neg p):=fun K t s Q h q =>
 wpAny_UnaryOp (yF w h q fun t' s' u r h' x' vu q=>by
  refine Y1 (U5 vu q) ?_;(repeat clear q);intro i tk tI q;obtain rfl:=tI
  exact neg_int (D0.trans x' (D0.int h'.rel q)))
theorem fA{e:Expr}{p:E}(w:SL B [e] p):SE B (.Subscript e (.Slice none none (some (.UnaryOp .USub (.Constant (.int 1) k p2) p3)) p4) pos) (.op .rev p):=fun K t s Q h q=>by
 refine Subscript_ (yF w h q fun t' s' u r h' x' vu q=>wpAny_Slice (wpAny_pure (wpAny_pure ?_)))
 have w1:=Es (B:=B) (pos:=p3) (SL.cons (cj (c := .int 1) (k:=k) (pos:=p2) (v := .int 1) rfl) rfl .nil) K t' s' (fun l σ=>l=[.int (-1)]∧σ=t'.σ) h' ⟨rfl,rfl⟩
 refine WE.go h x' w1 fun t2 s2 v r' h2 x2 m vv q2=>?_
 obtain ⟨e0,e2⟩:=q2
 obtain ⟨tk,rfl⟩:=(List.cons.inj e0).1▸vv
 have d:=(vu.go m u).der h2.rel
 rw [e2] at d
 refine A0 (aj q) ?_;(repeat clear q);intro xs e1 q
 rw [e1] at d
 exact wpAny_mono (Qd (m := .fz) (ys:=xs.reverse) h2 d .none .none (.int (-1) tk) nofun (fun its hz vr=>by refine f0 (Ip ..) ?_;exact vr.rev) (by refine f0 (List.length_reverse ..) ?_;exact Nat.le_refl _) (e2.symm▸q)) (fun Z Z y=>D0.trans x2 y) fun Z Z y=>Z1.trans h.rel x2 y
theorem iA{e:Expr}{p:E}(w:SL B [e] p):SE B (.UnaryOp .Not e pos) (.op .not p):=fun K t s Q h q =>
 wpAny_UnaryOp (yF w h q fun t' s' u r h' x' vu q=>by
  refine A0 (kD q) ?_;(repeat clear q);intro b rI q;obtain rfl:=rI
  obtain rfl:=(show r = .bool b from vu)
  exact not_value (wpAny_truthy_bool (D0.trans x' (D0.bool h'.rel q))))
theorem jA{e f:Expr}{o:rC}{op:Operator}{p:E}(w:SL B [e,f] p)(eo:ke op=some o):SE B (.BinOp e op f pos) (.op (.bin o) p):=fun K t s Q h q =>
 wpAny_BinOp (Pk w h q fun t' s' u v r r' h' x' vu vv q=>WE.base h x' (Vr eo h' vu vv q))
theorem kA{e f:Expr}{m:Md}{p:E}(w:SL B [e,f] p):SE B (.BinOp e .Add f pos) (.op (.cat m) p):=fun K t s Q h q =>
 wpAny_BinOp (Pk w h q fun t' s' u v r r' h' x' vu vv q=>WE.base h x' (Xr h' vu vv q))
theorem lA{e f:Expr}{m:Md}{p:E}(w:SL B [e,f] p):SE B (.BinOp e .Mult f pos) (.op (.rep m) p):=fun K t s Q h q =>
 wpAny_BinOp (Pk w h q fun t' s' u v r r' h' x' vu vv q=>WE.base h x' (Yr h' vu vv q))
theorem mA{e f:Expr}{o:Tk}{op:CmpOp}{p:E}(w:SL B [e,f] p)(hm:behindInMarks op f=false)(eo:J8 op=o):SE B (.Compare e [op] [f] pos) (.op (.cmp o) p):=fun K t s Q h q =>
 wpAny_Compare1 (Pk w h q fun t' s' u v r r' h' x' vu vv q=>WE.base h x' (ub eo h' (vu.der h'.rel) (vv.der h'.rel) q)) hm
end
open PySem.Calls
section
variable{B:Bk}{K:Fr}{t t':St}{s s':Shared}{Q:X0}{pos p2 p3 p4:Pos}{k:Nat}
theorem Rd{C:Cx}{h:Heap}{v:V}{r:Value}{Kn:Bool→Prop}(vr:G0 C t h v r)(q:bP v Kn):∃ c,r = .bool c∧v = .bool c∧Kn c:=by
 refine A0 (kD q) ?_;(repeat clear q);intro c XI q;obtain rfl:=XI
 exact A2 c vr rfl q
theorem fj{e:Expr}{p:E}(he:SE B e p)(hf:∀ en w,isTrue e en w=(do let v ←w;standAt e.pos;holding [v] (truthy v))):SB B e p:=fun K t s Q h q =>
 wpAny_isTrue_value (WE.go h h.refl (he K t s _ h q) fun t' s' u r h' x Z vu q=>by
  refine F1 (Rd vu q) ?_;(repeat clear q);intro c TI VI q;obtain rfl:=TI;obtain rfl:=VI
  exact wpAny_truthy_bool (C0 t' x q)) (hf _ _)
theorem nA{e:Expr}{p1:E}(he:SB B e p1):SB B (.UnaryOp .Not e pos) (.op .not (.cons p1 .nil)):=fun K t s Q h q=>wpAny_isTrue_Not (he K t s (fun c σ=>Q (!c) σ) h q)
theorem gj{o:Tk}{op:CmpOp}{u v:V}{ru rv:Value}{Q:Bool→y0→Prop}(eo:J8 op=o)(h:W0 B K t s)(vu:Q6 B.C t s.heap u ru)(vv:Q6 B.C t s.heap v rv)(q:ue o u v fun b=>Q b t.σ) :
  Wp B K t s (compareOp op ru rv) (fun r s'=>∃ c,r = .bool c∧td B.C t s Q c s') s:=by
 refine wpAny_mono (ub (Q:=fun v σ=>a1 [v] fun u=>bP u fun c=>Q c σ) eo h vu vv q) (fun r s' p=>?_) fun Z Z y=>y
 refine Z0 p ?_;(repeat clear p);intro t' v x vr q
 refine F1 (Rd vr q) ?_;(repeat clear q);intro c OI QI q;obtain rfl:=OI;obtain rfl:=QI
 exact C0 c rfl ⟨t',x,q⟩
theorem oA{e f:Expr}{o:Tk}{op:CmpOp}{p:E}(w:SL B [e,f] p)(hm:behindInMarks op f=false)(eo:J8 op=o):SB B (.Compare e [op] [f] pos) (.op (.cmp o) p):=fun K t s Q h q =>
 wpAny_isTrue_Compare1 (Pk w h q fun t' s' u v r r' h' x' vu vv q=>wpAny_mono (gj eo h' (vu.der h'.rel) (vv.der h'.rel) q) (fun r s2 p=>by
  refine A0 p ?_;(repeat clear p);intro c HI MI;obtain rfl:=HI;refine A0 MI ?_;(repeat clear MI);intro t2 x2 q
  exact wpAny_truthy_bool (C0 t2 (x'.trans x2) q)) fun Z Z y=>Z1.trans h.rel x' y) hm
theorem pA{c e f:Expr}{pc pe pf:E}(hc:SB B c pc)(he:SE B e pe)(hf:SE B f pf):SE B (.IfExp c e f pos) (.ite pc pe pf):=fun K t s Q h q =>
 wpAny_IfExp (WB.go h h.refl (hc K t s (fun c σ=>Bf c (w5 B.L.f K.X pe K.ρ σ Q) (w5 B.L.f K.X pf K.ρ σ Q)) h q) fun t' s' c h' x Z q=>by
  induction c using Bool.casesOn with
  | true=>exact WE.base h x (he K t' s' _ h' q)
  | false=>exact WE.base h x (hf K t' s' _ h' q))
theorem qA{c e f:Expr}{pc pe pf:E}(hc:SB B c pc)(he:SB B e pe)(hf:SB B f pf):SB B (.IfExp c e f pos) (.ite pc pe pf):=fun K t s Q h q=>by
 show wpAny _ _ (do if ←isTrue c K.en (eval c K.en) then isTrue e K.en (eval e K.en) else isTrue f K.en (eval f K.en)) _ _ s
 refine wpAny_bind (WB.go h h.refl (hc K t s (fun c σ=>Bf c (VB B.L.f K.X pe K.ρ σ Q) (VB B.L.f K.X pf K.ρ σ Q)) h q) fun t' s' c h' x Z q=>?_)
 induction c using Bool.casesOn with
 | true=>exact WB.base h x (he K t' s' _ h' q)
 | false=>exact WB.base h x (hf K t' s' _ h' q)
inductive L8(B:Bk)(f:E→E→E):List Expr→E→Prop
 | one {e p}:SE B e p→SB B e p→L8 B f [e] p
 | more {e p e2 r q}:SE B e p→SB B e p→L8 B f (e2::r) q→L8 B f (e::e2::r) (f p q)
 | dead {es}:L8 B f es .dead
theorem ig{es:List Expr}{p:E}(w:L8 B .and es p):∀ K t s Q,W0 B K t s→w5 B.L.f K.X p K.ρ t.σ Q→WE B K t s (boolOp pos .And (evalEach es K.en)) fun v σ=>Q [v] σ:=by
 induction w with
 | dead=>exact fun Z Z Z Z Z q=>False.elim q
 | one he _=>exact he
 | @more e p e2 r q he _ _ ih =>
  intro K t s Q h q
  show wpAny _ _ (do
   let v ←eval e K.en
   standAt pos
   let t ←holding [v] (truthy v)
   match BoolOp.And,t with
   | .And,false | .Or,true=>pure v
   | _,_=>boolOp pos .And (evalEach (e2::r) K.en)) _ _ s
  refine wpAny_bind (WE.go h h.refl (he K t s _ h q) fun t' s' u r h' x Z vu q=>wpAny_bind (wpAny_standAt (wpAny_bind (wpAny_holding ?_))))
  refine F1 (Rd vu q) ?_;(repeat clear q);intro c CI EI q;obtain rfl:=CI;obtain rfl:=EI
  induction c using Bool.casesOn with
  | true=>exact wpAny_truthy_bool (WE.base h x (ih K t' s' _ h' q))
  | false=>exact wpAny_truthy_bool (wpAny_pure (D0.trans x (D0.bool h'.rel q)))
theorem ij{es:List Expr}{p:E}(w:L8 B .or es p):∀ K t s Q,W0 B K t s→w5 B.L.f K.X p K.ρ t.σ Q→WE B K t s (boolOp pos .Or (evalEach es K.en)) fun v σ=>Q [v] σ:=by
 induction w with
 | dead=>exact fun Z Z Z Z Z q=>False.elim q
 | one he _=>exact he
 | @more e p e2 r q he _ _ ih =>
  intro K t s Q h q
  show wpAny _ _ (do
   let v ←eval e K.en
   standAt pos
   let t ←holding [v] (truthy v)
   match BoolOp.Or,t with
   | .And,false | .Or,true=>pure v
   | _,_=>boolOp pos .Or (evalEach (e2::r) K.en)) _ _ s
  refine wpAny_bind (WE.go h h.refl (he K t s _ h q) fun t' s' u r h' x Z vu q=>wpAny_bind (wpAny_standAt (wpAny_bind (wpAny_holding ?_))))
  refine F1 (Rd vu q) ?_;(repeat clear q);intro c xI zI q;obtain rfl:=xI;obtain rfl:=zI
  induction c using Bool.casesOn with
  | false=>exact wpAny_truthy_bool (WE.base h x (ih K t' s' _ h' q))
  | true=>exact wpAny_truthy_bool (wpAny_pure (D0.trans x (D0.bool h'.rel q)))
theorem Fs{es:List Expr}{p:E}(w:L8 B .and es p):∀ K t s Q,W0 B K t s→VB B.L.f K.X p K.ρ t.σ Q→Wp B K t s (allTrue .And es K.en) (td B.C t s Q) s:=by
 induction w with
 | dead=>exact fun Z Z Z Z Z q=>False.elim q
 | one _ he =>
  intro K t s Q h q
  refine wpAny_allTrue_And_cons (WB.go h h.refl (he K t s _ h q) fun t' s' c h' x Z q=>?_)
  induction c using Bool.casesOn with
  | true=>exact wpAny_allTrue_And_nil (C0 t' x q)
  | false=>exact C0 t' x q
 | @more e p e2 r p' _ hb _ ih =>
  intro K t s Q h q
  refine wpAny_allTrue_And_cons (WB.go h h.refl (hb K t s (fun c σ=>Bf c (VB B.L.f K.X p' K.ρ σ Q) (Q false σ)) h q) fun t' s' c h' x Z q=>?_)
  induction c using Bool.casesOn with
  | true=>exact WB.base h x (ih K t' s' _ h' q)
  | false=>exact C0 t' x q
theorem iw{es:List Expr}{p:E}(w:L8 B .or es p):∀ K t s Q,W0 B K t s→VB B.L.f K.X p K.ρ t.σ Q→Wp B K t s (allTrue .Or es K.en) (td B.C t s Q) s:=by
 induction w with
 | dead=>exact fun Z Z Z Z Z q=>False.elim q
 | one _ he =>
  intro K t s Q h q
  refine wpAny_allTrue_Or_cons (WB.go h h.refl (he K t s _ h q) fun t' s' c h' x Z q=>?_)
  induction c using Bool.casesOn with
  | false=>exact wpAny_allTrue_Or_nil (C0 t' x q)
  | true=>exact C0 t' x q
 | @more e p e2 r p' _ hb _ ih =>
  intro K t s Q h q
  refine wpAny_allTrue_Or_cons (WB.go h h.refl (hb K t s (fun c σ=>Bf c (Q true σ) (VB B.L.f K.X p' K.ρ σ Q)) h q) fun t' s' c h' x Z q=>?_)
  induction c using Bool.casesOn with
  | false=>exact WB.base h x (ih K t' s' _ h' q)
  | true=>exact C0 t' x q
theorem jg{α:Type}{e f:Expr}{o o':Tk}{u:CmpOp}{pe pf pg:E}{Q:LP}{G:α→Shared→Prop}{rest:Value→Sem α}{lo:Value→Sem α}(he:SE B e pe)(hf:SE B f pf)(eo:J8 u=o)(h:W0 B K t s)
  (q:w5 B.L.f K.X (.cmp2 o o' pe pf pg) K.ρ t.σ Q)
  (hl:∀ t' s' v rv,W0 B K t' s'→O3 B.C no t s t' s'→G0 B.C t' s'.heap v rv→w5 B.L.f K.X pg K.ρ t'.σ (fun l σ=>a1 l fun w=>ue o' v w fun r=>Q [.bool r] σ)→Wp B K t s (rest rv) G s')
  (hn:∀ t' s',W0 B K t' s'→O3 B.C no t s t' s'→Q [.bool false] t'.σ→Wp B K t s (lo (.bool false)) G s') :
  Wp B K t s (do
   let lv ←eval e K.en
   let rv ←holding [lv] (eval f K.en)
   standAt pos
   let c ←holding [lv,rv] (compareOp u lv rv)
   release [lv,rv] [c]
   if ←holding [c,rv] (truthy c) then rest rv else lo c) G s:=by
 refine wpAny_bind (WE.go h h.refl (he K t s _ h q) fun t' s' a r h' x Z vu q=>wpAny_bind (wpAny_holding (WE.go h x (hf K t' s' _ h' q) fun t2 s2 v r' h2 x2 m vv q=>wpAny_bind (wpAny_standAt (wpAny_bind (wpAny_holding ?_))))))
 have q:ue o a v fun c=>Bf c (w5 B.L.f K.X pg K.ρ t2.σ (fun l σ=>a1 l fun w=>ue o' v w fun r=>Q [.bool r] σ)) (Q [.bool false] t2.σ):=q
 have w:=ub (Q:=fun w σ=>∃ c,w = .bool c∧σ=t2.σ∧Bf c (w5 B.L.f K.X pg K.ρ t2.σ (fun l σ=>a1 l fun w=>ue o' v w fun r=>Q [.bool r] σ)) (Q [.bool false] t2.σ)) eo h2 (vu.go m a).d vv.d
  (by
   induction o using Tk.casesOn<;>first
    | (refine A0 (Ac q) fun x1 e1 y1=>?_;refine A0 (Ac y1) fun x2 e2 y2=>?_;subst e1;subst e2;exact A2 _ rfl rfl y2)
    | (obtain ⟨e1,y1⟩:=Uz q;refine A0 (D6 y1) fun x2 e2 y2=>?_;subst e1;show oP _ _;refine f0 (e2 ..) ?_;exact A2 _ rfl rfl y2)
    | (refine A0 (D6 q) fun x2 e2 y2=>?_;show oP _ _;refine f0 (e2 ..) ?_;exact A2 _ rfl rfl y2))
 refine WE.go h x2 w fun t3 s3 w r3 h3 x3 m3 vw q3=>?_
 refine F1 q3 ?_;(repeat clear q3);intro c vI eσ q3;obtain rfl:=vI
 obtain rfl:=(show r3 = .bool c from vw)
 refine wpAny_bind (wpAny_release (wpAny_bind (wpAny_holding (wpAny_truthy_bool ?_))))
 rw [←eσ] at q3
 induction c using Bool.casesOn with
 | true=>exact hl t3 s3 v r' h3 x3 (vv.go m3 v) q3
 | false=>exact hn t3 s3 h3 x3 q3
theorem jw{e f g:Expr}{o o':Tk}{u u':CmpOp}{pe pf pg:E}(he:SE B e pe)(hf:SE B f pf)(hg:SE B g pg)(hm:behindInMarks u' g=false)(eo:J8 u=o)(eo':J8 u'=o'):SE B (.Compare e [u,u'] [f,g] pos) (.cmp2 o o' pe pf pg):=fun K t s Q h q=>by
 have e0:markedEach [u,u'] [f,g] (evalEach [f,g] K.en)=[eval f K.en,eval g K.en]:=by
  show [eval f K.en,markedBehindIn u' g (eval g K.en)]=_
  exact f0 (markedBehindIn_of_false hm ..) rfl
 rw [arm_eval_Compare,e0]
 show Wp B K t s (do
   let lv ←eval e K.en
   let rv ←holding [lv] (eval f K.en)
   standAt pos
   let c ←holding [lv,rv] (compareOp u lv rv)
   release [lv,rv] [c]
   if ←holding [c,rv] (truthy c) then (do
    let rw ←holding [rv] (eval g K.en)
    standAt pos
    operate [rv,rw] (compareOp u' rv rw)) else pure c) _ s
 refine jg he hf eo h q (fun t' s' v rv h' x vv q=>?_) fun t' s' h' x q=>wpAny_pure (D0.trans x (D0.bool h'.rel q))
 refine wpAny_bind (wpAny_holding (WE.go h x (hg K t' s' _ h' q) fun t2 s2 w rw h2 x2 m vw q=>wpAny_bind (wpAny_standAt ?_)))
 have q:ue o' v w fun r=>Q [.bool r] t2.σ:=q
 exact wpAny_operateT (WE.base h x2 (ub (Q:=fun v σ=>Q [v] σ) eo' h2 (vv.go m v).d vw.d q))
theorem mw{e f g:Expr}{o o':Tk}{u u':CmpOp}{pe pf pg:E}(he:SE B e pe)(hf:SE B f pf)(hg:SE B g pg)(hm:behindInMarks u' g=false)(eo:J8 u=o)(eo':J8 u'=o'):SB B (.Compare e [u,u'] [f,g] pos) (.cmp2 o o' pe pf pg):=fun K t s Q h q=>by
 have e0:markedEach [u,u'] [f,g] (evalEach [f,g] K.en)=[eval f K.en,eval g K.en]:=by
  show [eval f K.en,markedBehindIn u' g (eval g K.en)]=_
  exact f0 (markedBehindIn_of_false hm ..) rfl
 show wpAny _ _ (do testChain pos (←eval e K.en) [u,u'] (markedEach [u,u'] [f,g] (evalEach [f,g] K.en))) _ _ s
 rw [e0]
 show Wp B K t s (do
   let lv ←eval e K.en
   let rv ←holding [lv] (eval f K.en)
   standAt pos
   let c ←holding [lv,rv] (compareOp u lv rv)
   release [lv,rv] [c]
   if ←holding [c,rv] (truthy c) then (do
    let rw ←holding [rv] (eval g K.en)
    standAt pos
    let c ←operate [rv,rw] (compareOp u' rv rw)
    holding [c] (truthy c)) else pure false) _ s
 refine jg (lo:=fun Z=>pure false) he hf eo h q (fun t' s' v rv h' x vv q=>?_) fun t' s' h' x q=>wpAny_pure (C0 t' x q)
 refine wpAny_bind (wpAny_holding (WE.go h x (hg K t' s' _ h' q) fun t2 s2 w rw h2 x2 m vw q=>wpAny_bind (wpAny_standAt ?_)))
 have q:ue o' v w fun r=>Q r t2.σ:=q
 refine wpAny_bind (wpAny_operateT (wpAny_mono (gj (Q:=Q) eo' h2 (vv.go m v).d vw.d q) (fun r s3 p=>?_) fun Z Z y=>Z1.trans h.rel x2 y))
 refine A0 p ?_;(repeat clear p);intro c rI tI;obtain rfl:=rI;refine A0 tI ?_;(repeat clear tI);intro t3 x3 q
 exact wpAny_holding (wpAny_truthy_bool (C0 t3 (x2.trans x3) q))
end
open PySem.Calls
theorem zb:typeLookup (.type "function") "__class__"=pure (some (.builtin "object.__class__")):=by refine f0 (typeLookup_type ..) (f0 (builtinLookup_eq_fast ..) ?_);kernel_rfl
theorem Q7:isSubtype (.type "function") (.type (".".intercalate ("object.__class__".cutAt '.').dropLast))=pure true:=by
 refine f0 (F.owner_object_class ..) (f0 (isSubtype_type ..) ?_);kernel_rfl
section
variable{prog:Program}{w:World}{A:Around}{E:Value→Shared→Prop}{h:Heap}{g:Array GenState}{d:Drawn}{t:Nat}{os:OsState}{a:Addr}{o:Obj}
theorem Ma{R:Result→Shared→Prop}(hx:h.get? a=some o)(hc:o.cls = .type "function")(hq:R (.ok (.ret (.type "function"))) ⟨h,g,d,t,os⟩) :
  codeAny (model prog w) A (.call (.builtin "getset_descriptor.__get__") ⟨[.builtin "object.__class__",.ref a,.type "function"],[]⟩) R ⟨h,g,d,t,os⟩:=by
 have hT:(⟨h,g,d,t,os⟩:Shared).TypeIs (.ref a) "function":=C0 _ hx hc
 have hT5:(⟨h,g,d,t,os⟩:Shared).TypeIs (.builtin "object.__class__") "getset_descriptor":=F.typeOf_object_class
 have f8:=Q7
 refine codeAny_call_builtin F.slot_gs_get.plain F.entry_gs_get (F.slot_gs_get.check _ _ _ _ _ _ _ _ hT5 (F.args_gs_get _ _ _) ?_)
 repeat (any_goals (first|assumption|wp_step))
 refine ⟨Code.quiet_builtin _ (by decide +kernel),codeAny_builtin F.entry_object_class ?_⟩
 repeat (any_goals (first|assumption|wp_step))
theorem R4:Slot "function" "__getattribute__" "object.__getattribute__" :=
 .of (owner:="object") (n:="__getattribute__") (by refine f0 (typeLookup_type ..) (f0 (builtinLookup_eq_fast ..) ?_);kernel_rfl) (by decide +kernel) (by decide +kernel) (by decide +kernel)
  (by first|exact .inl (by decide +kernel)|exact .inr (by decide +kernel)) (by refine f0 (isSubtype_type ..) ?_;kernel_rfl)
theorem d9{tk:Tok}{Q:Fin→Shared→Prop}(hx:h.get? a=some o)(hc:o.cls = .type "function")(hq:Q (.done (.ret (.type "function"))) ⟨h,g,d,t,os⟩) :
  wpAny (model prog w) A (Builtin.«object.__getattribute__» ⟨[.ref a,.str "__class__" tk],[]⟩) Q E ⟨h,g,d,t,os⟩:=by
 have hT:(⟨h,g,d,t,os⟩:Shared).TypeIs (.ref a) "function":=C0 _ hx hc
 have hT5:(⟨h,g,d,t,os⟩:Shared).TypeIs (.builtin "object.__class__") "getset_descriptor":=F.typeOf_object_class
 have f4:=zb
 have f5:=F.typeOf_object_class
 have f6:=F.slot_gs_get.lookup
 have f7:=F.slot_gs_set.lookup
 repeat (any_goals (first|assumption|wp_step))
 refine Ma hx hc ?_
 repeat (any_goals (first|assumption|wp_step))
theorem ja{tk:Tok}{R:Result→Shared→Prop}(hx:h.get? a=some o)(hc:o.cls = .type "function")(hq:R (.ok (.ret (.type "function"))) ⟨h,g,d,t,os⟩) :
  codeAny (model prog w) A (.call (.builtin "object.__getattribute__") ⟨[.ref a,.str "__class__" tk],[]⟩) R ⟨h,g,d,t,os⟩ :=
 codeAny_call_builtin R4.plain F.entry_object_getattribute (R4.check _ _ _ _ _ _ _ _ (show (⟨h,g,d,t,os⟩:Shared).TypeIs (.ref a) "function" from (C0 _ hx hc)) (F.args_object_getattribute_2 _ _) (d9 hx hc hq))
theorem Ab{tk:Tok}{Q:Value→Shared→Prop}(hx:h.get? a=some o)(hc:o.cls = .type "function")(hq:Q (.type "function") ⟨h,g,d,t,os⟩):wpAny (model prog w) A (getAttrBy (.ref a) (.str "__class__" tk) false) Q E ⟨h,g,d,t,os⟩:=by
 have hT:(⟨h,g,d,t,os⟩:Shared).TypeIs (.ref a) "function":=C0 _ hx hc
 have f2:=R4.lookup
 have f3:=R4.bind (.ref a)
 repeat (any_goals (first|assumption|wp_step))
 refine ja hx hc ?_
 repeat (any_goals (first|assumption|wp_step))
theorem ma{Q:Option Value→Shared→Prop}(hx:h.get? a=some o)(hc:o.cls = .type "function")(hq:Q (some (.type "function")) ⟨h,g,d,t+1,os⟩):wpAny (model prog w) A (getAttr? (.ref a) "__class__") Q E ⟨h,g,d,t,os⟩:=by
 unfold getAttr? getAttrBy?
 repeat (any_goals (first|assumption|with_reducible apply Ab hx hc|wp_step))
end
theorem Gf{K:Frag}{a:Addr}:KitX K (.ref a) (.type "function") (KitAt a "function"):=kitx_of kitAt_ty (fun {_ _ _ _ _ s} p k=>by obtain ⟨h,g,d,t,os⟩:=s;refine A0 p ?_;(repeat clear p);intro o h1 h2;exact ma h1 h2 k)
theorem rA(K:Frag):specialIn K (.builtin "object.__class__") "__get__"=some (some (.builtin "getset_descriptor.__get__")):=by kernel_rfl
theorem sA(K:Frag):takesIn K (.builtin "object.__class__")=some true:=by kernel_rfl
theorem tA(K:Frag):∀ T∈jc,∀ p∈bU,kitOne K (.type T) (.type p.2)=some (pD T p.2):=by
 unfold jc bU
 simp only [List.mem_cons,List.not_mem_nil,or_false,forall_eq_or_imp,forall_eq]
 repeat' (first|refine And.intro ?_ ?_)
 all_goals kernel_rfl
theorem qw:∀ p∈bU,bootBuiltins (bN p.1)=some (.type p.2)∧qh.contains p.2=true:=by
 unfold bU
 simp only [List.mem_cons,List.not_mem_nil,or_false,forall_eq_or_imp,forall_eq]
 repeat' (first|refine And.intro ?_ ?_)
 all_goals kernel_rfl
theorem Be{α:Type}:∀ {l:List (Nat×α)} {x:Nat} {v:α},l.lookup x=some v→(x,v)∈l
 | (k,w)::l,x,v,e=>by
  rw [List.lookup_cons] at e
  cases q:x==k with
  | true=>rw [q] at e;refine f0 (eq_of_beq q ..) (f0 (Option.some.inj e ..) ?_);exact .head _
  | false=>rw [q] at e;exact .tail _ (Be e)
section
variable{B:Bk}{K:Fr}{t t':St}{s s':Shared}{Q:X0}{pos p2 p3 p4:Pos}{k:Nat}
noncomputable def xD(C:Cx)(ty:String ⊕ Nat)(tv:Value):Prop:=match ty with | .inl T=>tv = .type T∧jc.contains T=true | .inr c=>∃ a,tv = .ref a∧P8 C c a
theorem Dl{ty:String ⊕ Nat}{tv:Value}(h:W0 B K t s)(ht:xD B.C ty tv){c:V}{rc:Value}{b:Bool}(vc:G0 B.C t s.heap c rc)(e:ve ty c=some b):kitOne B.C.K tv rc=some b:=by
 induction c using V.casesOn with
 | b x =>
  refine A0 (F4 (show (bU.lookup x).map (Wz ty)=some b from e)) ?_;intro U e1 QI;obtain rfl:=QI
  have hm:=Be e1
  obtain ⟨e2,hU⟩:=qw _ hm
  obtain rfl:=Option.some.inj (e2.symm.trans vc.2)
  induction ty using Sum.casesOn with
  | inl T=>obtain ⟨rfl,hT⟩:=ht;exact tA _ _ (List.contains_iff_mem.mp hT) _ hm
  | inr c=>refine A0 ht ?_;(repeat clear ht);intro a OI hc;obtain rfl:=OI;exact h.ok.isi.ct _ _ _ hc hU
 | g x =>
  have e:(if x<11 then some (Vv ty x) else none)=some b:=e
  by_cases hx:x<11
  ·rw [if_pos hx] at e
   obtain rfl:=Option.some.inj e
   refine A0 (h.ok.gl x vc.1) fun a er Z=>?_
   cases er.symm.trans vc.2
   induction ty using Sum.casesOn with
   | inl T=>obtain ⟨rfl,hT⟩:=ht;exact h.ok.isi.tc x a T ⟨hx,er⟩ hT
   | inr c=>refine A0 ht ?_;(repeat clear ht);intro a' MI hc;obtain rfl:=MI;exact h.ok.isi.cc _ _ _ _ hc ⟨hx,er⟩
  ·rw [if_neg hx] at e;exact nn e
 | _=>exact nn e
theorem sw{u:V}{r:Value}{ty:String ⊕ Nat}(h:W0 B K t s)(vr:Q6 B.C t s.heap u r)(e:Ny u=some ty) :
  ∃ tv HH,KitX B.C.K r tv HH∧HH s.heap∧r ≠ .builtin "__main__.__loader__#opaque"∧xD B.C ty tv:=by
 induction u using V.casesOn with
 | none=>cases e;cases (show r = .none from vr);exact aa _ _ kitx_none trivial nofun ⟨rfl,by decide⟩
 | bool x=>cases e;cases (show r = .bool x from vr);exact aa _ _ kitx_bool trivial nofun ⟨rfl,by decide⟩
 | int x=>obtain rfl:=Option.some.inj e;obtain ⟨_,rfl⟩:=vr;exact aa _ _ kitx_int trivial nofun ⟨rfl,by decide⟩
 | str x=>obtain rfl:=Option.some.inj e;obtain ⟨_,rfl⟩:=vr;exact aa _ _ kitx_str trivial nofun ⟨rfl,by decide⟩
 | g x =>
  have e:(if x<11 then none else some (.inl "function"))=some ty:=e
  by_cases hx:x<11
  ·rw [if_pos hx] at e;exact nn e
  ·rw [if_neg hx] at e
   obtain rfl:=Option.some.inj e
   refine A0 (h.ok.gl x vr.1) fun a er Z=>?_
   cases er.symm.trans vr.2
   refine A0 (h.ok.isi.fn x a (Nat.not_lt.mp hx) er) fun o hl hc=>?_
   exact aa _ _ Gf (C0 o (h.inK _ _ hl) hc) nofun ⟨rfl,by decide⟩
 | a A xs=>induction A using Ag.casesOn with
  | tup =>
   obtain rfl:=Option.some.inj e
   refine Z0 vr.tup ?_;intro a its EI HI _;obtain rfl:=EI;refine F1 HI ?_;(repeat clear HI);intro o ho hc _
   exact aa _ _ kitx_tuple (C0 o ho hc) nofun ⟨rfl,by decide⟩
  | lst =>
   obtain rfl:=Option.some.inj e
   refine q8 vr.lst ?_;intro a its k CI ho _;obtain rfl:=CI
   exact aa _ _ kitx_list (C0 _ ho rfl) nofun ⟨rfl,by decide⟩
  | obj c ns =>
   obtain rfl:=Option.some.inj e
   refine jr vr.obj ?_;intro a ca d des m zI hc I _;obtain rfl:=zI
   refine R7 (h.ok.isi.own _ _ hc) fun o1 o2 o3 o4=>?_
   exact aa _ _ (kitx_own o1 o2 o3 (rA _) (sA _) o4) I nofun ⟨_,rfl,hc⟩
  | _=>exact nn (show none=some ty from e)
 | _=>exact nn (show none=some ty from e)
theorem Gs{u c:V}{r rc:Value}{ty:String ⊕ Nat}{b:Bool}(h:W0 B K t s)(vr:Q6 B.C t s.heap u r)(vc:G0 B.C t s.heap c rc)(e:Ny u=some ty)(e2:Oy ty c=some b)(q:Q (.bool b) t.σ) :
  WE B K t s (call (.builtin "isinstance") [r,rc]) Q:=by
 refine lh (sw h vr e) fun tv HH Z p ne ht=>?_
 have K5:∀ tk,D0 B.C t s Q (.bool b) { s with toks:=tk }:=fun tk=>D0.tok (v := .bool b) h.rel rfl q
 have one:ve ty c=some b→WE B K t s (call (.builtin "isinstance") [r,rc]) Q:=fun e=>kia_one Z h.inK p (Dl h ht vc e) ne fun tk=>K5 _
 induction c using V.casesOn with
 | a A xs=>induction A using Ag.casesOn with
  | tup=>match xs,e2,vc with
   | [c,d],e2,vc =>
    refine A0 (M4 (show ((ve ty c).bind fun a=>(ve ty d).map fun b=>a||b)=some b from e2)) ?_;(repeat clear e2);intro b1 q1 e2
    refine A0 (F4 e2) ?_;intro b2 q2 xI;obtain rfl:=xI
    refine lh vc.d.tup ?_;intro tp its rI tI vI _;obtain rfl:=rI;refine F1 tI ?_;(repeat clear tI);intro o ho hc yI;obtain ⟨m,hd⟩:=yI;refine Z0 vI ?_;(repeat clear vI);intro r1 rt e3 v1 wI;refine Z0 wI ?_;(repeat clear wI);intro r2 rt2 e4 v2 e5
    obtain ⟨oc,od,odt,osl⟩:=o
    dsimp only at hc hd
    subst hc;subst hd
    have hits:its=[r1,r2].toArray:=by rw [←Array.toList_inj,e3,e4,show rt2=[] from e5]
    subst hits
    refine kia_tup Z h.inK p ho ?_ ne fun tk=>K5 _
    unfold kitAny
    refine f0 (Dl h ht v1 q1 ..) ?_
    induction b1 using Bool.casesOn
    ·simp only
     unfold kitAny
     refine f0 (Dl h ht v2 q2 ..) ?_
     induction b2 using Bool.casesOn<;>rfl
    ·rfl
  | _=>exact nn (show none=some b from e2)
 | b x=>exact one e2
 | g x=>exact one e2
 | _=>exact nn (show none=some b from e2)
end
open PySem.Calls
theorem Ce{a:Int}(h:a.natAbs<1000000):a.natAbs.log2<1920:=by
 have h1:a.natAbs.log2≤a.natAbs:=Nat.log2_le_self _
 by_cases z:a.natAbs=0
 ·refine f0 (z ..) ?_;decide
 ·exact (Nat.log2_lt z).mpr (Nat.lt_of_lt_of_le h (by decide))
theorem El{a:Int}(h:a.natAbs<1000000):(Str.ofString (toString a)).length≤1000:=by
 have h1:a.natAbs<10 ^ 6:=h
 have:=int_text_length_le10 (a:=a) (k:=6) (by decide) h1
 refine f0 (Str.ofString_eq_toList ..) ?_
 unfold Str.length
 simp
 show (toString a).length≤1000
 exact ak this (by simp +arith)
theorem tw:∀ i:Int,(if i<0 then -i else i)=(i.natAbs:Int)
 | .ofNat n=>if_neg (Int.not_lt.mpr (Int.natCast_nonneg n))
 | .negSucc n=>if_pos (Int.negSucc_lt_zero n)
section
variable{B:Bk}{K:Fr}{t t':St}{s s':Shared}{Q:X0}{pos p2 p3 p4:Pos}{k:Nat}
noncomputable def Vy:BF→Value
 | .len => .builtin "len" | .isinst => .builtin "isinstance" | .repr => .builtin "repr" | .str => .type "str" | .abs => .builtin "abs" | .max2 => .builtin "max"
theorem j5{C:Cx}{h:Heap}{v:V}{rs:List Value}(x:E0 C t h [v] rs):∃ r,rs=[r]∧G0 C t h v r:=by
 refine Z0 x ?_;(repeat clear x);intro r rt dJ vr e;obtain rfl:=dJ
 exact C0 r (by exact f0 (show rt=[] from e) rfl) vr
theorem G6{C:Cx}{h:Heap}{u v:V}{rs:List Value}(x:E0 C t h [u,v] rs):∃ r r',rs=[r,r']∧G0 C t h u r∧G0 C t h v r':=by
 refine Z0 x ?_;(repeat clear x);intro r rt bJ vr x;obtain rfl:=bJ
 refine A0 (j5 x) ?_;intro r' ZI vr';obtain rfl:=ZI
 exact L1 r r' rfl vr vr'
theorem Hs{w:V}{r:Value}(h:W0 B K t s)(d:Q6 B.C t s.heap w r)(q:rD w t.σ Q):WE B K t s (call (.builtin "len") [r]) Q:=by
 induction w using V.casesOn with
 | str x =>
  obtain ⟨u,rfl⟩:=d
  obtain ⟨hb,q⟩:=S5 q
  exact PySem.P.len_str (by unfold db at hb;omega) (D0.tok (v := .int _) h.rel ⟨_,rfl⟩ q)
 | a A xs=>induction A using Ag.casesOn with
  | lst =>
   refine i7 d.lst ?_;intro a its k XI ho _ hl hb;obtain rfl:=XI
   exact PyProof.Rows.len_list (Q3 ho) (by refine f0 (hl ..) ?_;exact Int.lt_of_le_of_lt (Int.ofNat_le.mpr hb) (by decide)) (by refine f0 (hl ..) ?_;exact D0.tok (v := .int _) h.rel ⟨_,rfl⟩ q)
  | tup =>
   refine O8 d.tup ?_;intro a its VI ht _ hl hb;obtain rfl:=VI
   exact PyProof.Rows.len_tuple ht (by refine f0 (hl ..) ?_;exact Int.lt_of_le_of_lt (Int.ofNat_le.mpr hb) (by decide)) (by refine f0 (hl ..) ?_;exact D0.tok (v := .int _) h.rel ⟨_,rfl⟩ q)
  | _=>exact q.elim
 | _=>exact False.elim q
theorem uw{f:BF}{vs:List V}{rs:List Value}(h:W0 B K t s)(vv:E0 B.C t s.heap vs rs)(q:oH f vs t.σ Q):WE B K t s (call (Vy f) rs) Q:=by
 have R:=h.rel
 induction f using BF.casesOn with
 | len =>
  refine A0 (Fd q) ?_;(repeat clear q);intro u TI q;obtain rfl:=TI
  refine A0 (j5 vv) ?_;intro r QI vr;obtain rfl:=QI
  exact Hs h (vr.der R) q
 | isinst =>
  refine Y1 (Zk q) ?_;(repeat clear q);intro u c OI q;obtain rfl:=OI
  refine Z0 (G6 vv) ?_;intro r r' MI vr vc;obtain rfl:=MI
  refine A0 (D6 q) ?_;(repeat clear q);intro ty e1 q
  refine A0 (D6 q) ?_;(repeat clear q);intro b e2 q
  exact Gs h (vr.der R) vc e1 e2 q
 | repr =>
  refine A0 (Fd q) ?_;(repeat clear q);intro u HI q;obtain rfl:=HI
  refine A0 (j5 vv) ?_;intro r EI vr;obtain rfl:=EI
  refine A0 (D6 q) ?_;(repeat clear q);intro x e q
  induction u using V.casesOn with
  | none=>cases e;cases (show r=_ from vr);exact PySem.P.repr_of_none (D0.str R q)
  | bool b=>cases e;cases (show r=_ from vr);exact PySem.P.repr_of_bool (D0.str R q)
  | int i =>
   obtain ⟨tk,rfl⟩:=vr
   obtain ⟨hi,rfl⟩:=Dc e
   exact PySem.P.repr_of_int (Ce (Nat.lt_of_lt_of_le (Nat.le_of_ble_eq_true hi) (by decide))) (D0.str R q)
  | str y =>
   obtain ⟨tk,rfl⟩:=vr
   obtain ⟨hy,rfl⟩:=Dc e
   refine PySem.P.repr_of_str (D0.str R q) ?_
   rcases Bool.or_eq_true_iff.mp hy with z|z
   ·refine f0 (k7.mp z ..) ?_;decide +kernel
   ·refine f0 (k7.mp z ..) ?_;decide +kernel
  | _=>exact nn e
 | str =>
  refine A0 (Fd q) ?_;(repeat clear q);intro u CI q;obtain rfl:=CI
  refine A0 (j5 vv) ?_;intro r zI vr;obtain rfl:=zI
  induction u using V.casesOn with
  | str x=>obtain ⟨tk,rfl⟩:=vr;exact PySem.P.str_of_str (D0.now (v := .str x) R ⟨tk,rfl⟩ q)
  | int i=>obtain ⟨tk,rfl⟩:=vr;obtain ⟨b1,q⟩:=V4 q;have b1:=Nat.le_of_ble_eq_true b1;exact PySem.P.str_of_int (Ce b1) (D0.str R (q _ (El b1)))
  | _=>exact False.elim q
 | abs =>
  refine A0 (Fd q) ?_;(repeat clear q);intro u xI q;obtain rfl:=xI
  refine A0 (j5 vv) ?_;intro r vI vr;obtain rfl:=vI
  refine Y1 (U5 vr q) ?_;(repeat clear q);intro i tk tI q;obtain rfl:=tI
  exact call_abs_int fun u tk=>D0.tok (v := .int _) R ⟨u,by exact f0 (tw ..) rfl⟩ q
 | max2 =>
  refine Y1 (Zk q) ?_;(repeat clear q);intro u v rI q;obtain rfl:=rI
  refine Z0 (G6 vv) ?_;intro r r' pI vr vc;obtain rfl:=pI
  refine Y1 (U5 vr q) ?_;(repeat clear q);intro i tk CJ q;obtain rfl:=CJ
  refine Y1 (U5 vc q) ?_;(repeat clear q);intro j tk' AJ q;obtain rfl:=AJ
  refine max_two_ints h.amb.hand fun h' tk2 k=>L1 t (.int (max i j)) ⟨Tr.more R h.own k,rfl,rfl⟩ ?_ q
  split
  ·exact ⟨tk',by congr 1;omega⟩
  ·exact ⟨tk,by congr 1;omega⟩
noncomputable def ww:CM→String
 | .append=>"list.append" | .pop0=>"list.pop" | .pop1=>"list.pop" | .extend=>"list.extend" | .insert=>"list.insert" | .get1=>"dict.get" | .get2=>"dict.get"
theorem Jp{f:CM}{u:V}{r:Value}{pl:Sem Bool}{Q:Value×List Value→Shared→Prop}{E:Value→Shared→Prop}{A:Around}(vr:Q6 B.C t s.heap u r)(e:Sr f u=true)
  (q:Q (.builtin (ww f),[r]) s):wpAny (model pw B.C.w) A (getMethod r (Str.ofString f.nm.1) pl) Q E s:=by
 have dict:∀ a o,r = .ref a→s.heap.get? a=some o→o.ExactDict→f.get=true→wpAny (model pw B.C.w) A (getMethod r (Str.ofString f.nm.1) pl) Q E s:=fun a o er ho hx e=>by
  subst er
  have hd:∀ a',Value.ref a = .ref a'→∃ o,s.heap.get? a'=some o∧o.dict=none:=fun a' e=>by cases e;exact C0 _ ho hx.2.1
  have hT:s.TypeIs (.ref a) "dict":=C0 _ ho hx.1
  induction f using CM.casesOn<;>first|exact getMethod_builtin hT PySem.F.plainAttrs_dict PySem.F.slot_dict_get PySem.F.type_dict_get hd q|exact Bool.noConfusion e
 induction u using V.casesOn with
 | a A xs=>induction A using Ag.casesOn with
  | lst =>
   refine q8 vr.lst ?_;intro a its k yJ ho _;obtain rfl:=yJ
   have hd:∀ a',Value.ref a = .ref a'→∃ o,s.heap.get? a'=some o∧o.dict=none:=fun a' e=>by cases e;exact C0 _ ho rfl
   have hT:s.TypeIs (.ref a) "list":=C0 _ ho rfl
   induction f using CM.casesOn<;>first
    | exact getMethod_builtin hT PySem.F.plainAttrs_list PySem.F.slot_list_append PySem.F.type_list_append hd q
    | exact getMethod_builtin hT PySem.F.plainAttrs_list PySem.F.slot_list_pop PySem.F.type_list_pop hd q
    | exact getMethod_builtin hT PySem.F.plainAttrs_list PySem.F.slot_list_extend PySem.F.type_list_extend hd q
    | exact getMethod_builtin hT PySem.F.plainAttrs_list PySem.F.slot_list_insert PySem.F.type_list_insert hd q
    | exact Bool.noConfusion e
  | ds ss=>refine q8 vr ?_;(repeat clear vr);intro a d rs er wJ _;refine i4 wJ ?_;(repeat clear wJ);intro _ _ DI;refine A0 DI ?_;(repeat clear DI);intro kvs FI _;refine q8 FI ?_;(repeat clear FI);intro o _ _ ho hx _;exact dict a o er ho hx e
  | dt ss=>refine q8 vr ?_;(repeat clear vr);intro a d rs er uJ _;refine i4 uJ ?_;(repeat clear uJ);intro _ _ JI;refine A0 JI ?_;(repeat clear JI);intro kvs NI _;refine q8 NI ?_;(repeat clear NI);intro o _ _ ho hx _;exact dict a o er ho hx e
  | _=>exact Bool.noConfusion e
 | _=>exact Bool.noConfusion e
theorem De{C:Cx}{u:V}{r:Value}{Kn:Nat→List V→Prop}(R:Y0 C t s.heap)(vu:G0 C t s.heap u r)(q:Ep t.σ u Kn):∃ k xs its n,r = .ref (t.al k)∧u = .ref k∧A1 t.σ k=some (.a .lst xs)∧s.heap.get? (t.al k)=some (listOf its n)∧t.dl k=t.al k∧E0 C t s.heap xs its.toList∧its.size=xs.length∧db xs.length∧Kn k xs:=by
 refine A0 (Tv q) ?_;(repeat clear q);intro k sJ q;obtain rfl:=sJ
 refine A0 (D6 q) ?_;(repeat clear q);intro c e q
 refine A0 (aj q) ?_;(repeat clear q);intro xs qJ q;obtain rfl:=qJ
 refine R5 (R.cell k _ e) ?_;(repeat clear _);(repeat clear _);(repeat clear _);intro _ _ rs e2 _ sh vr
 cases e2
 obtain ⟨ed,PI⟩:=sh;refine Z0 PI ?_;(repeat clear PI);intro its n ho er hl
 subst er
 exact ⟨k,xs,its,n,vu.2,rfl,e,ho,ed,vr,vr.len,vr.len▸hl,q⟩
theorem D0.put{C:Cx}{k:Nat}{xs xs':List V}{its its':Array Value}{n:Nat}{f:Array Value→Array Value}{v:V}{r:Value}(R:Y0 C t s.heap)(O:U1 t s.heap)(e:A1 t.σ k=some (.a .lst xs))(ho:s.heap.get? (t.al k)=some (listOf its n))(ed:t.dl k=t.al k)
  (ef:f its=its') (vr:E0 C t s.heap xs' its'.toList) (hb:db xs'.length) (vv:G0 C t s.heap v r) (q:Q v (R2 t.σ k (some (.a .lst xs')))) (tk:Nat) :
  D0 C t s Q r { s with heap:=s.heap.update (t.al k) (Obj.mapSeq f),toks:=tk }:=by
 have hg:∃ k',(s.heap.update (t.al k) (Obj.mapSeq f)).get? (t.al k)=some (listOf its' k'):=by
  rw [Heap.get?_update_self _ ho (by rfl)]
  subst ef
  exact ⟨_,rfl⟩
 obtain ⟨k',hg⟩:=hg
 have T:=Tr.put R O ⟨_,e⟩ (.inl rfl) (Heap.SameBut.update ..) (K := .lst) (xs:=xs') (rs:=its'.toList) nofun ⟨ed,its',k',hg,rfl,vr.len.symm▸hb⟩ vr
 exact L1 _ v ⟨T,rfl,rfl⟩ (vv.tr R O T) q
set_option tactic.hygienic true in
theorem e9(its:Array Value)(k:Nat):(its.eraseIdxIfInBounds k).toList=its.toList.eraseIdx k:=by
 unfold Array.eraseIdxIfInBounds
 split
 ·rw [Array.toList_eraseIdx]
 ·rename_i h
  exact f0 (List.eraseIdx_of_length_le (by simpa using Nat.not_lt.mp h) ..) rfl
theorem E0.erase{C:Cx}{h:Heap}{xs:List V}{rs:List Value}(x:E0 C t h xs rs)(k:Nat):E0 C t h (xs.eraseIdx k) (rs.eraseIdx k):=by
 refine f0 (List.eraseIdx_eq_take_drop_succ ..) (f0 (List.eraseIdx_eq_take_drop_succ ..) ?_)
 exact (x.take _).append (x.drop _)
theorem Sd{α:Type}:∀ {l:List α} {i:Nat} {v:α},l[i]?=some v→Mine.nth l i=some v
 | [],_,_,e=>nn e
 | _::_,0,_,e=>e
 | _::_,i+1,_,e=>Sd (i:=i) e
theorem jj{C:Cx}{h:Heap}:G0 C t h .none .none:=rfl
theorem uA{n m:Nat}(h:n≤m)(hb:db m):db n:=Nat.le_trans h hb
theorem fits{j m:Nat}(h:j<m)(hb:db m):Builtin.List.listFitsIndex (j:Int)=true:=by
 exact Bool.and_eq_true_iff.mpr ⟨decide_eq_true (ib j),decide_eq_true (ia (Nat.lt_of_lt_of_le h hb))⟩
theorem xw{f:CM}{u:V}{r:Value}{vs:List V}{rs:List Value}(h:W0 B K t s)(vu:G0 B.C t s.heap u r)(vv:E0 B.C t s.heap vs rs)(q:xF f u vs t.σ Q)(hf:f.get=false) :
  WE B K t s (call (.builtin (ww f)) (r::rs)) Q:=by
 have R:=h.rel
 have O:=h.own
 induction f using CM.casesOn with
 | append =>
  refine A0 (Fd q) ?_;(repeat clear q);intro v oJ q;obtain rfl:=oJ
  refine A0 (j5 vv) ?_;intro r' mJ v1;obtain rfl:=mJ
  refine Ap (De R vu q) ?_;(repeat clear q);intro k xs its n iJ kJ e ho ed vr hl hb q;obtain rfl:=iJ;obtain rfl:=kJ
  obtain ⟨hz,q⟩:=S5 q
  have hT:s.TypeIs (.ref (t.al k)) "list":=C0 _ ho rfl
  refine call_meets PySem.F.slot_list_append hT PySem.F.entry_list_append (PySem.F.args_list_append_2 _ _) (AutoListH.list_append_list_val_0 _ its n r' (by rw [hl];exact X2 hb)) ⟨ho,?_⟩
  exact D0.put R O e ho ed rfl (by rw [Array.toList_push];exact vr.append (L1 r' [] rfl v1 rfl)) (by rw [List.length_append];exact hz) jj q _
 | pop0 =>
  refine Ap (De R vu q) ?_;(repeat clear q);intro k xs its n dJ fJ e ho ed vr hl hb q;obtain rfl:=dJ;obtain rfl:=fJ
  have hT:s.TypeIs (.ref (t.al k)) "list":=C0 _ ho rfl
  refine A0 (D6 q) ?_;(repeat clear q);intro v ev q
  induction vs using List.casesOn with
  | cons=>exact q.elim
  | nil =>
  obtain rfl:=(show rs=[] from vv)
  rw [List.getLast?_eq_getElem?] at ev
  refine A0 (vr.nth (Sd ev)) fun r' er v1=>?_
  rw [Array.getElem?_toList,←hl] at er
  refine call_meets PySem.F.slot_list_pop hT PySem.F.entry_list_pop (PySem.F.args_list_pop_1 _) (MeetsSeq.list_pop_last _ its n r' er (by rw [hl];exact X2 hb)) ⟨ho,?_⟩
  refine D0.put R O e ho ed rfl ?_ (by rw [List.length_dropLast];exact Nat.le_trans (Nat.sub_le _ _) hb) v1 q _
  have hlt:=(List.getElem?_eq_some_iff.mp ev).1
  have:xs.dropLast=xs.eraseIdx (its.size - 1):=by
   exact f0 (List.eraseIdx_eq_take_drop_succ ..) (f0 (List.dropLast_eq_take ..) (f0 (hl ..) (f0 (List.drop_eq_nil_of_le (Nat.le_add_of_sub_le (Nat.le_refl _)) ..) (f0 (List.append_nil ..) rfl))))
  rw [e9,this]
  exact vr.erase _
 | pop1 =>
  refine A0 (Fd q) ?_;(repeat clear q);intro v bJ q;obtain rfl:=bJ
  refine A0 (j5 vv) ?_;intro r' ZI v1;obtain rfl:=ZI
  refine Ap (De R vu q) ?_;(repeat clear q);intro k xs its n VI XI e ho ed vr hl hb q;obtain rfl:=VI;obtain rfl:=XI
  have hT:s.TypeIs (.ref (t.al k)) "list":=C0 _ ho rfl
  refine Y1 (U5 v1 q) ?_;(repeat clear q);intro i tk TI q;obtain rfl:=TI
  obtain ⟨q0,q⟩:=Z8 q
  refine A0 (D6 q) ?_;(repeat clear q);intro w ev q
  obtain ⟨j,ej⟩:=Int.eq_ofNat_of_zero_le q0
  have en:i.toNat=j:=by rw [ej];rfl
  rw [en] at ev q
  have hj:=Ec ev
  refine A0 (vr.nth ev) fun r2 er v2=>?_
  rw [Array.getElem?_toList] at er
  have hf:Builtin.List.listFitsIndex i=true:=by rw [ej];exact fits hj hb
  have hk:seqIndex? i its.size=some j:=by rw [hl,ej];exact w8 hj
  have hz:its.size≤sizeLine:=by rw [hl];exact X2 hb
  have M:=MeetsSeq.list_pop_at (t.al k) its n i tk j r2 hf hk er hz
  refine call_meets PySem.F.slot_list_pop hT PySem.F.entry_list_pop (PySem.F.args_list_pop_2 _ _) M ⟨ho,?_⟩
  refine D0.put R O e ho ed rfl ?_ (uA (List.length_eraseIdx_le ..) hb) v2 q _
  rw [e9]
  exact vr.erase _
 | extend =>
  refine A0 (Fd q) ?_;(repeat clear q);intro v QI q;obtain rfl:=QI
  refine A0 (j5 vv) ?_;intro r' OI v1;obtain rfl:=OI
  refine Ap (De R vu q) ?_;(repeat clear q);intro k xs its n HI MI e ho ed vr hl hb q;obtain rfl:=HI;obtain rfl:=MI
  have hT:s.TypeIs (.ref (t.al k)) "list":=C0 _ ho rfl
  refine Y1 (Ja q) ?_;(repeat clear q);intro A ys EI q;obtain rfl:=EI
  induction A using Ag.casesOn with
  | lst =>
   refine i7 v1.d.lst ?_;intro b2 its2 n2 CI ho2 vr2 hl2 hb2;obtain rfl:=CI
   obtain ⟨bq,q⟩:=S5 q
   have hz:=X2 bq
   rw [List.length_append,←hl,←hl2] at hz
   refine call_meets PySem.F.slot_list_extend hT PySem.F.entry_list_extend (PySem.F.args_list_extend_2 _ _) (AutoSeq1.list_extend_list_list_0 _ its n b2 its2 n2 ?_ (by rw [hl];exact X2 hb) (Nat.le_succ_of_le hz)) (V0 ho ho2 ?_)
   ·simp [Builtin.List.listTooLong]
    intro _
    exact hz
   ·exact D0.put R O e ho ed rfl (by rw [Array.toList_append];exact vr.append vr2) bq jj q _
  | _=>exact q.elim
 | insert =>
  refine Y1 (Zk q) ?_;(repeat clear q);intro i v zI q;obtain rfl:=zI
  refine Z0 (G6 vv) ?_;intro r1 r2 xI v1 v2;obtain rfl:=xI
  refine Ap (De R vu q) ?_;(repeat clear q);intro k xs its n tI vI e ho ed vr hl hb q;obtain rfl:=tI;obtain rfl:=vI
  have hT:s.TypeIs (.ref (t.al k)) "list":=C0 _ ho rfl
  refine Y1 (U5 v1 q) ?_;(repeat clear q);intro i tk rI q;obtain rfl:=rI
  obtain ⟨q0,q⟩:=Z8 q
  obtain ⟨q1,q⟩:=V4 q
  obtain ⟨q2,q⟩:=S5 q
  have q1:=Nat.le_of_ble_eq_true q1
  obtain ⟨j,ej⟩:=Int.eq_ofNat_of_zero_le q0
  have en:i.toNat=j:=by rw [ej];rfl
  rw [en] at q1 q
  have hj:=Nat.le_trans q1 hb
  have hf:¬(!Builtin.List.listFitsIndex i)=true:=by rw [ej,fits (Nat.lt_succ_of_le q1) q2];exact Bool.noConfusion
  refine call_meets PySem.F.slot_list_insert hT PySem.F.entry_list_insert (PySem.F.args_list_insert_3 _ _ _) (AutoListH.list_insert_list_int_val_1 _ its n i tk r2 hf (by rw [hl];exact X2 hb)) ⟨ho,?_⟩
  refine D0.put R O e ho ed rfl ?_ (f0 (List.length_append ..) (f0 (List.length_cons ..) (f0 (List.length_take ..) (f0 (List.length_drop ..) (f0 (Nat.min_eq_left q1) (show db (j+(xs.length - j)+1) from f0 (Nat.add_sub_cancel' q1) q2)))))) jj q _
  have hmin:(if i<0 then (i+((its.size:Nat):Int)).toNat else min i.toNat its.size)=j:=by
   rw [if_neg (Int.not_lt.mpr q0),hl,en];exact Nat.min_eq_left q1
  show E0 B.C t s.heap _ ((its.extract 0 (if i<0 then (i+((its.size:Nat):Int)).toNat else min i.toNat its.size)).push r2++its.extract (if i<0 then (i+((its.size:Nat):Int)).toNat else min i.toNat its.size)).toList
  rw [hmin,Array.toList_append,Array.toList_push,Array.toList_extract,Array.toList_extract]
  simp only [List.extract_eq_take_drop,List.drop_zero,Nat.sub_zero,List.append_assoc,List.singleton_append]
  refine (vr.take _).append (L1 r2 _ rfl v2 ?_)
  rw [List.take_of_length_le (by rw [List.length_drop,Array.length_toList];exact Nat.le_refl _)]
  exact vr.drop _
 | get1=>exact Bool.noConfusion hf
 | get2=>exact Bool.noConfusion hf
end
open PySem.Calls
section
variable{B:Bk}{K:Fr}{t t':St}{s s':Shared}{Q:X0}{pos p2 p3 p4 ap p:Pos}{k:Nat}
theorem Bb{C:Cx}{h:Heap}{o:Option V}{o':Option Value}{d:V}{r:Value}(h1:∀ v,o=some v→∃ r,o'=some r∧G0 C t h v r)(h2:o=none→o'=none)(vd:G0 C t h d r):G0 C t h (o.getD d) (o'.getD r):=by
 induction o using Option.casesOn with
 | none=>refine f0 (h2 rfl ..) ?_;exact vd
 | some v=>refine A0 (h1 v rfl) fun r' e v'=>?_;refine f0 (e ..) ?_;exact v'
theorem lg{C:Cx}{h:Heap}:∀ {vs:List V} {ks:List MK} {rs:List Value},bj vs=some ks→E0 C t h vs rs→ItemsAre (Cn pw C.w) ks rs
 | [],ks,rs,e,v=>by cases e;cases (show rs=[] from v);exact .nil
 | x::vs,ks,rs,e,v=>by
  refine Z0 v ?_;(repeat clear v);intro r rt oJ vr vrs;obtain rfl:=oJ
  refine A0 (M4 (show (sD x).bind (fun k=>(bj vs).map (k::·))=some ks from e)) ?_;(repeat clear k);(repeat clear e);intro k ek e
  refine A0 (F4 e) ?_;intro ks' eks mJ;obtain rfl:=mJ
  refine .cons ?_ (lg eks vrs)
  induction x using V.casesOn with
  | none=>cases ek;cases (show r = .none from vr);rfl
  | int i=>obtain rfl:=Option.some.inj ek;obtain ⟨u,rfl⟩:=vr;exact beq_iff_eq.mpr rfl
  | str i=>obtain rfl:=Option.some.inj ek;obtain ⟨u,rfl⟩:=vr;exact beq_iff_eq.mpr rfl
  | _=>exact nn ek
theorem Fl{C:Cx}{k:V}{rk:Value}{Kn:List MK→Prop}(vk:G0 C t s.heap k rk)(q:kP k Kn):∃ ks a,rk = .ref a∧(Zf C.w).is s.heap ks a∧Kn ks:=by
 refine Y1 (Ja q) ?_;(repeat clear q);intro A xs kJ q;obtain rfl:=kJ
 induction A using Ag.casesOn with
 | tup =>
  refine A0 (D6 q) ?_;(repeat clear q);intro ks e q
  refine lh vk.d.tup ?_;intro a its fJ iJ vr _;obtain rfl:=fJ;refine F1 iJ ?_;(repeat clear iJ);intro o ho hc wI;obtain ⟨n,hd⟩:=wI
  exact L1 ks a rfl (X4 o its n ho hc hd (lg e vr)) q
 | _=>exact q.elim
theorem Gl{C:Cx}{h:Heap}(x:List MK):∀ {kk:List (List MK)} {xs:List V} {es:List (List MK×Addr×Value)} {rs:List Value},es.map (·.1)=kk→es.map (·.2.2)=rs→E0 C t h xs rs →
  (∀ v,Qr kk xs x=some v→∃ r,(atKey es x).map (·.2)=some r∧G0 C t h v r)∧(Qr kk xs x=none→(atKey es x).map (·.2)=none)
 | _,_,[],_,e1,e2,vr=>by subst e1;exact ⟨fun w e=>(nn (show none=some w from e)),fun Z=>rfl⟩
 | _,[],(k,r)::es,_,e1,e2,vr=>by subst e2;exact nomatch (show _=[] from vr)
 | _,v::xs,(k,a,r)::es,_,e1,e2,vr=>by
  subst e1
  subst e2
  refine Z0 vr ?_;(repeat clear vr);intro r' rt e v1 v2
  obtain ⟨rfl,rfl⟩:=List.cons.inj e
  have ih:=Gl (kk:=es.map (·.1)) x rfl rfl v2
  have e3:(atKey ((k,a,r)::es) x).map (·.2)=if k=x then some r else (atKey es x).map (·.2):=by
   unfold atKey
   rw [List.find?_cons]
   by_cases q:k=x
   ·refine f0 (if_pos q ..) (f0 (decide_eq_true q ..) ?_);rfl
   ·exact f0 (if_neg q ..) (f0 (decide_eq_false q ..) rfl)
  refine f0 (e3 ..) ?_
  show (∀ w,(match Bv k x with|true=>some v|false=>Qr (es.map (·.1)) xs x)=some w→_)∧((match Bv k x with|true=>some v|false=>Qr (es.map (·.1)) xs x)=none→_)
  cases q:Bv k x with
  | true=>refine f0 (if_pos (ye.mp q) ..) ?_;exact ⟨fun w e=>C0 r rfl (Option.some.inj e▸v1),fun e=>nn e.symm⟩
  | false=>refine f0 (if_neg fun z=>Bool.noConfusion (q.symm.trans (ye.mpr z)) ..) ?_;exact ih
theorem Gh(h:W0 B K t s):(Zf B.C.w).room K.A.in1:=h.amb.room 1 (by decide)
theorem yw{f:CM}{u:V}{r:Value}{vs:List V}{rs:List Value}(h:W0 B K t s)(vu:G0 B.C t s.heap u r)(vv:E0 B.C t s.heap vs rs)(q:xF f u vs t.σ Q)(hf:f.get=true) :
  WE B K t s (call (.builtin (ww f)) (r::rs)) Q:=by
 have du:=vu.der h.rel
 have ds:∀ {ss xs},der t.σ u = .a (.ds ss) xs→∃ a kvs,r = .ref a∧(a==sysModules)=false∧s.heap.DictOf (strKind pw B.C.w) a kvs∧kvs.map (·.1)=ss∧E0 B.C t s.heap xs (kvs.map (·.2)):=fun e=>(e▸du).ds
 have dt:∀ {kk xs},der t.σ u = .a (.dt kk) xs→∃ a es,r = .ref a∧(a==sysModules)=false∧s.heap.DictOfH (Zf B.C.w) a es∧es.map (·.1)=kk∧E0 B.C t s.heap xs (es.map (·.2.2)):=fun e=>by
  rw [e] at du
  refine q8 du ?_;(repeat clear du);intro a d rs er dJ vr;refine i4 dJ ?_;(repeat clear dJ);intro _ ns yI;refine F1 yI ?_;(repeat clear yI);intro es hd e1 e2
  exact O6 a es er ns hd e1 (e2▸vr)
 clear du
 induction f using CM.casesOn with
 | get1 =>
  refine A0 (Fd q) ?_;(repeat clear q);intro k bJ q;obtain rfl:=bJ
  refine A0 (j5 vv) ?_;intro rk ZI vk;obtain rfl:=ZI
  refine Y1 (Ja q) ?_;(repeat clear q);intro A xs ea q
  induction A using Ag.casesOn with
  | ds ss =>
   refine A0 (Pr q) ?_;(repeat clear q);intro x XI q;obtain rfl:=XI
   obtain ⟨tk,rfl⟩:=vk
   refine O8 (ds ea) ?_;intro a kvs VI nsm hm e1 vr;obtain rfl:=VI
   have lk:=rb x e1 rfl vr
   refine call_meetsIn PySem.F.slot_dict_get hm.typeIs PySem.F.entry_dict_get (PySem.F.args_dict_get_2 _ _) (meets_dict_get (strKind pw B.C.w) a (bA x tk) nsm) (C0 _ hm.mapOf ?_)
   exact D0.tok h.rel (Bb lk.1 lk.2 jj) q
  | dt kk =>
   refine Z0 (Fl vk q) ?_;(repeat clear q);intro ks ka TI isk q;obtain rfl:=TI
   refine O8 (dt ea) ?_;intro a es QI nsm hm e1 vr;obtain rfl:=QI
   have lk:=Gl ks e1 rfl vr
   exact call_meetsIn PySem.F.slot_dict_get hm.typeIs PySem.F.entry_dict_get (PySem.F.args_dict_get_2 _ _) (meetsH_dict_get (Zf B.C.w) a ka nsm) ⟨Gh h,ks,es,isk,hm,D0.tok h.rel (Bb lk.1 lk.2 jj) q⟩
  | _=>exact q.elim
 | get2 =>
  refine Y1 (Zk q) ?_;(repeat clear q);intro k d OI q;obtain rfl:=OI
  refine Z0 (G6 vv) ?_;intro rk rd MI vk vd;obtain rfl:=MI
  refine Y1 (Ja q) ?_;(repeat clear q);intro A xs ea q
  induction A using Ag.casesOn with
  | ds ss =>
   refine A0 (Pr q) ?_;(repeat clear q);intro x HI q;obtain rfl:=HI
   obtain ⟨tk,rfl⟩:=vk
   refine O8 (ds ea) ?_;intro a kvs EI nsm hm e1 vr;obtain rfl:=EI
   have lk:=rb x e1 rfl vr
   refine call_meetsIn PySem.F.slot_dict_get hm.typeIs PySem.F.entry_dict_get (PySem.F.args_dict_get_3 _ _ _) (meets_dict_get_default (strKind pw B.C.w) a (bA x tk) nsm rd) (C0 _ hm.mapOf ?_)
   exact D0.tok h.rel (Bb lk.1 lk.2 vd) q
  | dt kk =>
   refine Z0 (Fl vk q) ?_;(repeat clear q);intro ks ka CI isk q;obtain rfl:=CI
   refine O8 (dt ea) ?_;intro a es zI nsm hm e1 vr;obtain rfl:=zI
   have lk:=Gl ks e1 rfl vr
   exact call_meetsIn PySem.F.slot_dict_get hm.typeIs PySem.F.entry_dict_get (PySem.F.args_dict_get_3 _ _ _) (meetsH_dict_get_default (Zf B.C.w) a ka nsm rd) ⟨Gh h,ks,es,isk,hm,D0.tok h.rel (Bb lk.1 lk.2 vd) q⟩
  | _=>exact q.elim
 | _=>exact Bool.noConfusion hf
theorem zw{f:CM}{u:V}{r:Value}{vs:List V}{rs:List Value}(h:W0 B K t s)(vu:G0 B.C t s.heap u r)(vv:E0 B.C t s.heap vs rs)(q:xF f u vs t.σ Q):WE B K t s (call (.builtin (ww f)) (r::rs)) Q:=by
 cases e:f.get with
 | true=>exact yw h vu vv q e
 | false=>exact xw h vu vv q e
theorem Hh{f:Value}{A:Around}{E:Value→Shared→Prop}{Q:Args→Shared→Prop}(h:Q ⟨[],[]⟩ s):wpAny (model pw B.C.w) A (evalArgs f true [] []) Q E s:=by
 unfold evalArgs
 show wpAny _ A (spliced [] >>= _) Q E s
 refine wpAny_bind (wpAny_pure (wpAny_bind (wpAny_pure (wpAny_holding ?_))))
 exact wpAny_bind (wpAny_pure (wpAny_bind (wpAny_pure (wpAny_pure h))))
theorem Lp{f:Value}{es:List Expr}{p:E}{Q:LP}(w:SL B es p)(h:W0 B K t s)(q:w5 B.L.f K.X p K.ρ t.σ Q) :
  Wp B K t s (evalArgs f true (backTo pos (starEach es K.en)) []) (fun a s'=>a.kw=[]∧(backTo pos (starEach es K.en)).any (·.1)=false∧Cs B.C t s Q a.pos s') s:=by
 have it:=La (pos:=pos) w K t s Q h q
 induction w using SL.casesOn with
 | nil=>exact Hh (V0 rfl rfl ⟨t,[],.refl h.rel,rfl,q⟩)
 | @cons e p es q he hs _ =>
  have e0:∃ x rest,backTo pos (starEach (e::es) K.en)=(false,x)::rest:=by refine f0 (vb hs ..) ?_;exact V8 _ _ rfl
  refine jh e0 ?_;(repeat clear e0);intro x rest e0
  rw [e0] at it ⊢
  exact evalArgs_plain (wpAny_mono it (fun vs s' p=>V0 rfl p.1 (p.2.imp fun t' y=>y.imp fun vs z=>V0 z.1 z.2.1 z.2.2.2)) fun Z Z y=>y)
noncomputable def Ih(C:Cx)(f:Value):Prop:=∀ h,C.K.In h→∃ k,(k=Keeper.frame∨k=Keeper.machine∨k=Keeper.boundFrame)∧Looks (model pw C.w) h (keeperOf f) k
theorem V5{C:Cx}{i:String}:Ih C (.builtin i):=fun h Z=>C0 .machine (.inr (.inl rfl)) (Looks.of_pure rfl)
theorem xd{C:Cx}{i:String}:Ih C (.type i):=fun h Z=>C0 .machine (.inr (.inl rfl)) (Looks.of_pure rfl)
theorem Cb{C:Cx}{f:Value}(hk:keepIn C.K f=true):Ih C f:=fun h X=>keeps_K hk h X
theorem Db{f:Value}{first:List Value}{es:List Expr}{p:E}{P:LP}{G:Value→Shared→Prop}(w:SL B es p)(h:W0 B K t s)(x:O3 B.C no t s t' s')(q:w5 B.L.f K.X p K.ρ t'.σ P)(hk:Ih B.C f)
  (go:∀ t2 s2 vs rs,W0 B K t2 s2→O3 B.C no t s t2 s2→Mo t' s'.heap t2 s2.heap→E0 B.C t2 s2.heap vs rs→P vs t2.σ→Wp B K t s (call f (first++rs) []) G s2) :
  Wp B K t s (callWith pos f first (backTo pos (starEach es K.en)) []) G s':=by
 unfold callWith
 have h':=h.ext x
 refine wpAny_bind (wpAny_holding (wpAny_mono (Lp w h' q) (fun a s₁ h₁=>wpAny_bind (wpAny_standAt ?_)) fun Z Z y=>Z1.trans h.rel x y))
 refine i4 h₁ ?_;(repeat clear h₁);intro hkw hplain xI;refine Z0 xI ?_;(repeat clear xI);intro t2 vs y vr p
 obtain ⟨apos,akw⟩:=a
 dsimp only at hkw vr
 subst hkw
 have h2:=h'.ext y
 have go':=go t2 s₁ vs apos h2 (x.trans y) (h'.mo y) vr p
 refine A0 (hk _ h2.inK) fun k hk' L=>?_
 refine f0 (hplain ..) (f0 (List.any_nil ..) (f0 (Bool.or_false ..) ?_))
 refine wpAny_bind (L.here ?_)
 have tail:∀ {m:Sem Value},Wp B K t s m G s₁→Wp B K t s (m >>= fun r=>holding [r] point >>= fun Z=>pure r) G s₁ :=
  fun ht=>wpAny_bind (wpAny_mono ht (fun r s₂ hr=>wpAny_bind (wpAny_holding (wpAny_point (wpAny_pure hr)))) fun Z Z x=>x)
 have marked (mk:Value):Wp B K t s (callMarked mk f (first++apos) []) G s₁:=by unfold callMarked;exact Calls.wpAny_keep go'
 rcases hk' with rfl|rfl|rfl<;>dsimp only<;>first|exact tail go'|(split<;>first|exact tail go'|exact tail (marked _))
theorem WE.call{fv:V}{r:Value}{vs:List V}{rs:List Value}(h:W0 B K t s)(vf:G0 B.C t s.heap fv r)(vv:E0 B.C t s.heap vs rs)(q:B0 B.C B.n fv vs t.σ Q K.X):WE B K t s (PySem.call r rs []) Q :=
 wpAny_call (codeAny_mono (q.run r rs K.A K.l t s rfl vf vv h.rel h.own h.amb.call h.fr) fun res s' p=>by
  induction res using Except.casesOn with
  | ok f=>induction f using Flow.casesOn<;>exact p
  | error e=>exact p)
theorem Jh{f:Expr}{es:List Expr}{pos:Pos}(h:yh f=true):∀ en,eval (.Call f es [] pos) en=(do callWith pos (←eval f en) [] (backTo pos (starEach es en)) (backToKw pos (keywordEach [] en))):=fun en=>by
 induction f using Expr.casesOn<;>first
  | rfl
  | exact Bool.noConfusion h
theorem Aw{f:Expr}{es:List Expr}{pf q:E}(hf:SE B f pf)(w:SL B es q)(hn:yh f=true):SE B (.Call f es [] pos) (.call pf q):=fun K t s Q h q=>by
 show wpAny _ _ (eval (.Call f es [] pos) K.en) _ _ s
 refine f0 (Jh hn ..) ?_
 refine wpAny_bind (WE.go h h.refl (hf K t s _ h q) fun t' s' u r h' x Z vu q=>?_)
 refine A0 (nG q) ?_;(repeat clear q);intro i vI q;obtain rfl:=vI
 refine A0 (h.ok.gl i vu.1) fun a er hk=>?_
 cases er.symm.trans vu.2
 exact Db w h x q (Cb hk) fun t2 s2 vs rs h2 x2 m vv q=>WE.base h x2 (WE.call h2 (fv := .g i) vu vv (B.L.ok _ _ _ _ _ q))
theorem kj(p:Pos)(en:Env):∀ as:List Expr,as.all Q4=true→(backTo p (starEach as en)).all (fun x=>!x.1)=true
 | [],_=>rfl
 | a::r,e=>by
  rw [List.all_cons] at e
  have e:=b2 e
  refine f0 (vb e.1 ..) ?_
  exact kj p en r e.2
theorem g7{o:Expr}{as:List Expr}(ok:j7 o as ap p=true):as.all Q4=true∧as.length<29∧(ap.endLine==p.line)=true∧me o=true:=by
 obtain ⟨ok,o4⟩:=b2 ok
 obtain ⟨ok,o3⟩:=b2 ok
 exact E3 ((b2 ok).1) (of_decide_eq_true (b2 ok).2) o3 o4
theorem z4{o:Expr}{x:Str}{ov:Value}{as:List Expr}{A:Around}{en:Env}{E:Value→Shared→Prop}{Q:Value→Shared→Prop}(ok:j7 o as ap p=true)
  (h:∀ pl,wpAny (model pw B.C.w) A (getMethod ov x pl) (fun fr s'=>wpAny (model pw B.C.w) A (callWith p fr.1 fr.2 (backTo p (starEach as en)) []) Q E s') E s) :
  wpAny (model pw B.C.w) A (methodCall o x ap p en ov (as.length+([]:List Keyword).length) (backTo p (starEach as en)) (backToKw p (keywordEach [] en))) Q E s:=by
 refine R7 (g7 ok) fun o1 o2 o3 Z=>?_
 have hform:methodCallForm (as.length+([]:List Keyword).length) (backTo p (starEach as en)) (backToKw p (keywordEach [] en))=true:=by
  unfold methodCallForm
  refine f0 (kj p en as o1 ..) ?_
  exact decide_eq_true (Nat.lt_of_lt_of_le o2 (by decide):as.length<30)
 have hpos:methodCallPos true o en ap p=pure p:=by unfold methodCallPos;refine f0 (o3 ..) ?_;rfl
 unfold methodCall
 refine f0 (hform ..) ?_
 refine wpAny_bind (wpAny_holding (wpAny_mono (h _) (fun fr s' hh=>?_) fun Z Z y=>y))
 obtain ⟨f,first⟩:=fr
 exact wpAny_bind (wpAny_of_eq hpos hh)
theorem vA{x n:Nat}(hx:x<mS.length):fN n≠mN x:=fun e=>by
 have two:(List.range 13).all (fun x=>(List.range 46).all fun n=>!(fN n==mN x))=true:=by decide +kernel
 have out:(List.range 13).all (fun x=>!(Str.ofString ""==mN x))=true:=by decide +kernel
 have mx:x∈List.range 13:=List.mem_range.mpr hx
 by_cases hn:n<46
 ·have z:=List.all_eq_true.mp (List.all_eq_true.mp two x mx) n (List.mem_range.mpr hn)
  rw [e,beq_self_eq_true] at z;exact Bool.noConfusion z
 ·have q:fN n=Str.ofString "":=by unfold fN nm;rw [List.getD_eq_getElem?_getD,List.getElem?_eq_none (Nat.not_lt.mp hn)];rfl
  have z:=List.all_eq_true.mp out x mx
  rw [←q,e,beq_self_eq_true] at z;exact Bool.noConfusion z
theorem Bw{o:Expr}{x:Nat}{es:List Expr}{po q:E}(ho:SE B o po)(w:SL B es q)(ok:j7 o es ap pos=true)(hx:x<mS.length):SE B (.Call (.Attribute o (mN x) ap) es [] pos) (.meth x po q):=fun K t s Q h q=>by
 refine f0 (arm_eval_Call ..) (f0 (n3 (g7 ok).2.2.2 ..) ?_)
 refine wpAny_bind (WE.go h h.refl (ho K t s _ h q) fun t' s' u r h' y Z vu q=>wpAny_bind (wpAny_standAt (z4 ok fun pl=>?_)))
 have d:=vu.der h'.rel
 refine Y1 (Ja q) ?_;(repeat clear q);intro A xs ea q
 rw [ea] at d
 induction A using Ag.casesOn with
 | obj c ns =>
  obtain ⟨q2,q⟩:=V4 q
  refine Ri d.obj ?_;intro a ca dx des m tI hc I _ off;obtain rfl:=tI
  refine Hv (Ka (h.ok.cls _ _ hc).1) fun g1 g2 g3 g4 g5=>?_
  refine F1 (h.ok.mth _ _ _ hc q2) fun fa hf hfn hkeep=>?_
  refine method_fn h'.inK I (plainGet_of g4).1 (plainGet_of g4).2 hf (beq_iff_eq.mp hfn) (by show (lookIn (mN x) (dictOf des m)).map _=_;rw [off _ fun n Z=>vA hx];rfl) ?_
  exact Db w h y q (Cb hkeep) fun t2 s2 vs rs h2 x2 m vv q=>WE.base h x2 (WE.call h2 (fv := .m c x) ⟨q2,ca,hc,hf⟩ (show E0 B.C t2 s2.heap (u::vs) (.ref a::rs) from (L1 _ rs rfl (vu.go m u) vv)) (B.L.ok _ _ _ _ _ q))
 | _=>exact q.elim
theorem yD{f:CM}{o:Expr}{es:List Expr}{po q:E}(ho:SE B o po)(w:SL B es q)(ok:j7 o es ap pos=true):SE B (.Call (.Attribute o (Str.ofString f.nm.1) ap) es [] pos) (.cm f po q):=fun K t s Q h q=>by
 refine f0 (arm_eval_Call ..) (f0 (n3 (g7 ok).2.2.2 ..) ?_)
 refine wpAny_bind (WE.go h h.refl (ho K t s _ h q) fun t' s' u r h' y Z vu q=>wpAny_bind (wpAny_standAt (z4 ok fun pl=>?_)))
 obtain ⟨q1,q⟩:=V4 q
 refine Jp (vu.der h'.rel) q1 (Db w h y q V5 fun t2 s2 vs rs h2 x2 m vv q=>?_)
 exact WE.base h x2 (zw h2 (vu.go m u) vv q)
theorem Js{cn:Str}{c x:Nat}{es:List Expr}{q:E}(hg:B.b.isG gS c cn=true)(hc11:c<11)(w:SL B es q)(ok:j7 (.Name cn p) es ap pos=true):SE B (.Call (.Attribute (.Name cn p) (mN x) ap) es [] pos) (.cmeth c x q):=fun K t s Q h q=>by
 refine f0 (arm_eval_Call ..) (f0 (n3 (g7 ok).2.2.2 ..) ?_)
 obtain ⟨q1,q⟩:=V4 q
 refine wpAny_bind (WE.go h h.refl (Ry hg K t s (fun l σ=>l=[.g c]∧σ=t.σ) h ⟨rfl,rfl⟩) fun t' s' u r h' y Z vu e=>wpAny_bind (wpAny_standAt (z4 ok fun pl=>?_)))
 obtain ⟨e1,e2⟩:=e
 obtain rfl:=(List.cons.inj e1).1
 refine A0 (h.ok.gl c vu.1) fun a ea Z=>?_
 cases ea.symm.trans vu.2
 have hc:P8 B.C c a:=⟨hc11,ea⟩
 refine i4 (h.ok.cms _ _ _ hc q1) ?_;intro r1 r2 rI;refine A0 rI ?_;(repeat clear rI);intro f hf hv
 refine F1 (h.ok.mth _ _ _ hc q1) fun f' hf' hfn hkeep=>?_
 cases hf.symm.trans hf'
 refine method_cls h'.inK r2 (cls_value h'.inK r1 hv rfl ?_)
 exact Db w h y.toks (e2.symm▸q) (Cb hkeep) fun t2 s2 vs rs h2 x2 m vv q=>WE.base h x2 (WE.call h2 (fv := .m c x) ⟨q1,a,hc,hf⟩ vv (B.L.ok _ _ _ _ _ q))
theorem zD{f:BF}{x:Str}{es:List Expr}{q:E}(hg:B.b.isG bS f.nm.1 x=true)(w:SL B es q):SE B (.Call (.Name x p) es [] pos) (.op (.bf f) q):=fun K t s Q h q=>by
 show wpAny _ _ (eval (.Call (.Name x p) es [] pos) K.en) _ _ s
 refine f0 (Jh rfl ..) ?_
 refine wpAny_bind (WE.go h h.refl (Gn hg K t s (fun l σ=>l=[.b f.nm.1]∧σ=t.σ) h ⟨rfl,rfl⟩) fun t' s' u r h' y Z vu e=>?_)
 obtain ⟨e1,e2⟩:=e
 obtain rfl:=(List.cons.inj e1).1
 have er:r=Vy f:=by
  have z:=vu.2
  induction f using BF.casesOn<;>exact (Option.some.inj (z.symm.trans (by kernel_rfl)))
 subst er
 exact Db w h y (e2.symm▸q) (by induction f using BF.casesOn<;>first|exact V5|exact xd) fun t2 s2 vs rs h2 x2 m vv q=>WE.base h x2 (uw h2 vv q)
end
noncomputable def St.as(t:St)(o f:Addr→Prop):St:=⟨t.al,t.dl,t.σ,o,f⟩
noncomputable abbrev St.hid0(t' t:St)(P F:Addr→Prop):St:=t'.as (fun b=>t.ow b∨P b) fun b=>t.sl b∨F b
noncomputable abbrev St.hid(t:St)(P F:Addr→Prop):St:=t.as (fun b=>t.ow b∨P b) fun b=>t.sl b∨F b
section
variable{C:Cx}{ex P F:Addr→Prop}{t t':St}{h h1 h':Heap}
theorem Cw(R:Y0 C t h)(O:U1 t h)(keep:∀ b o,h.get? b=some o→h1.get? b=some o)(fr:∀ b,P b→h.get? b=none)(hF:∀ b,F b→P b)(ok:∀ b,P b→∃ o,h1.get? b=some o∧Y4 o∧¬Wi o) :
  Y0 C (t.hid P F) h1∧U1 (t.hid P F) h1∧Mo t h (t.hid P F) h1:=by
 have m:Mo t h (t.hid P F) h1:=⟨fun Z l=>V0 l rfl rfl,fun b o e f=>Or.elim f (fun f=>f.elim .inl fun p=>Q5 (fr b p) e) .inr,fun b o e Z Z=>keep b o e,R.nt O⟩
 exact V0 ⟨fun k v e=>(R.cell k v e).imp fun K x=>x.imp fun xs x=>x.imp fun rs z=>E3 z.1 z.2.1 (z.2.2.1.obj _ fun b o e Z Z=>keep b o e) (z.2.2.2.go m xs),fun b f=>Or.elim f (fun f=>f.elim (fun f=>R.own b (.inl f)) fun p=>R.off (fr b p)) fun f=>R.own b (.inr f),
  R.sep,fun b f c=>f.elim (fun f=>R.apart b f c) fun p=>R.fresh O (fr b p) (.inr c),fun b o e=>keep b o (R.base b o e),fun b f=>f.imp (R.sub b) (hF b)⟩ (fun b f=>f.elim (fun f=>(O b f).imp fun o z=>⟨keep b o z.1,z.2⟩) (ok b)) m
theorem Gc(R':Y0 C t' h')(nt:∀ b o,h'.get? b=some o→Wi o→¬t'.foot b){o f:Addr→Prop}(ho:∀ b,o b→t'.ow b)(hf:∀ b,f b→o b):Y0 C (t'.as o f) h'∧Mo t' h' (t'.as o f) h':=by
 have m:Mo t' h' (t'.as o f) h':=⟨fun Z l=>V0 l rfl rfl,fun b Z Z f=>Or.elim f (fun f => .inl (ho b f)) .inr,fun b o e Z Z=>e,nt⟩
 exact ⟨⟨fun k v e=>(R'.cell k v e).imp fun K x=>x.imp fun xs x=>x.imp fun rs z=>E3 z.1 z.2.1 z.2.2.1 (z.2.2.2.go m xs),fun b f=>R'.own b (Or.elim f (fun f => .inl (ho b f)) .inr),R'.sep,fun b f=>R'.apart b (ho b f),R'.base,hf⟩,m⟩
theorem Rn{e2:Addr→Prop}(R0:Y0 C t h)(keep:∀ b o,h.get? b=some o→h1.get? b=some o)(fr:∀ b,P b→h.get? b=none)(hF:∀ b,F b→P b)(hx:∀ b o,ex b→h.get? b=some o→e2 b)(T:Tr C ex (t.hid P F) h1 t' h')(O':U1 t' h') :
  Tr C e2 t h (t'.as t.ow t.sl) h'∧Mo t' h' (t'.as t.ow t.sl) h':=by
 obtain ⟨R,m⟩:=Gc T.rel (T.rel.nt O') (o:=t.ow) (f:=t.sl) (fun b f=>T.ow ▸ .inl f) R0.sub
 have np:∀ {b o},h.get? b=some o→¬P b:=fun e p=>Q5 (fr _ p) e
 exact ⟨⟨R,fun b o e nc n2=>(T.keep b o (keep b o e) nc fun q=>n2 (hx b o q e)).imp fun Z z=>V0 z.1 (fun n=>z.2.1 fun w=>w.elim n (fun f=>np e (hF b f))) z.2.2,fun b f=>(T.grow b f).imp id fun q=>by
  cases e:h.get? b with
  | none=>rfl
  | some o=>exact Q5 q (keep b o e),fun b o e=>T.alive b o (keep b o e),T.lv,rfl,rfl⟩,m⟩
theorem unhide(R0:Y0 C t h)(keep:∀ b o,h.get? b=some o→h1.get? b=some o)(fr:∀ b,P b→h.get? b=none)(hF:∀ b,F b→P b)(hx:∀ b,ex b→h.get? b=none)(T:Tr C ex (t.hid P F) h1 t' h')(O':U1 t' h') :
  Tr C no t h (t'.as t.ow t.sl) h'∧Mo t' h' (t'.as t.ow t.sl) h':=Rn R0 keep fr hF (fun b o q e=>Q5 (hx b q) e) T O'
structure Hx(C:Cx)(ex P F:Addr→Prop)(t:St)(h:Heap)(t':St)(h':Heap):Prop where
 tr:Tr C ex t h (t'.as t.ow t.sl) h'
 rel:Y0 C t' h'
 ow:t'.ow=fun b=>t.ow b∨P b
 sl:t'.sl=fun b=>t.sl b∨F b
 fr:∀ b,P b→h.get? b=none
 fF:∀ b,F b→P b
theorem Hx.step{e':Addr→Prop}{t2:St}{h2:Heap}(R0:Y0 C t h)(H:Hx C ex P F t h t' h')(T:Tr C e' t' h' t2 h2)(O2:U1 t2 h2)(hx:∀ b o,e' b→h.get? b=some o→ex b):Hx C ex P F t h t2 h2 where
 tr:=by
  obtain ⟨R,_⟩:=Gc T.rel (T.rel.nt O2) (o:=t.ow) (f:=t.sl) (fun b f=>T.ow▸H.ow ▸ .inl f) R0.sub
  refine ⟨R,fun b o e nc ne=>?_,fun b f=>(T.grow b f).elim (H.tr.grow b) fun q => .inr (by
   cases e:h.get? b with
   | none=>rfl
   | some o=>exact (H.tr.alive b o e).elim fun o' e'=>Q5 q e'),fun b o e=>(H.tr.alive b o e).elim fun o' e'=>T.alive b o' e',fun k l=>?_,rfl,rfl⟩
  ·refine fe (H.tr.keep b o e nc ne) fun o1 e1 q1 c1 d1=>?_
   refine fe (T.keep b o1 e1 (H.tr.ncel e nc) fun q=>ne (hx b o q e)) fun o2 e2 q2 c2 d2=>?_
   exact i5 o2 e2 (fun n=>(q2 fun w=>(congrFun H.sl b▸w:t.sl b∨F b).elim n fun f=>Q5 (H.fr b (H.fF b f)) e).trans (q1 n)) (c2.trans c1) (d2.trans d1)
  ·refine i4 (H.tr.lv k l) fun l1 a1 d1=>?_
   refine i4 (T.lv k l1) fun l2 a2 d2=>?_
   exact V0 l2 (a2.trans a1) (d2.trans d1)
 rel:=T.rel
 ow:=T.ow.trans H.ow
 sl:=T.sl.trans H.sl
 fr:=H.fr
 fF:=H.fF
theorem Hx.start(R:Y0 C t h)(O:U1 t h)(keep:∀ b o,h.get? b=some o→h1.get? b=some o)(fr:∀ b,P b→h.get? b=none)(hF:∀ b,F b→P b)(ok:∀ b,P b→∃ o,h1.get? b=some o∧Y4 o∧¬Wi o):Hx C ex P F t h (t.hid P F) h1:=by
 refine i4 (Cw R O keep fr hF ok) fun R1 O1 Z=>?_
 exact ⟨(unhide (ex:=no) R keep fr hF (fun Z=>False.elim) (.refl R1) O1).1.of0,R1,rfl,rfl,fr,hF⟩
theorem Hx.mo(R0:Y0 C t h)(H:Hx C ex P F t h t' h')(O':U1 t' h'):Mo t' h' (t'.as t.ow t.sl) h':=(Gc H.rel (H.rel.nt O') (o:=t.ow) (f:=t.sl) (fun b f=>H.ow ▸ .inl f) R0.sub).2
theorem Hx.mo1(R:Y0 C t h)(O:U1 t h)(H:Hx C ex P F t h t' h')(hx:∀ b,ex b→t.ow b):Mo t h t' h' where
 lv:=H.tr.lv
 ft b o e f:=Or.elim f (fun f=>(congrFun H.ow b▸f:t.ow b∨P b).elim .inl fun p=>Q5 (H.fr b p) e) fun f=>(H.tr.grow b f).elim .inr fun q=>Q5 q e
 kp b o e _ nf:=by
  refine F1 (H.tr.keep b o e (fun f=>nf (.inr f)) fun q=>nf (.inl (hx b q))) ?_;(repeat clear q);intro o' e' q _
  exact q (fun f=>nf (.inl (R.sub b f)))▸e'
 nt:=R.nt O
theorem Hx.adopt{P':Addr→Prop}{Q:X0}(R:Y0 C t h)(O:U1 t h)(H:Hx C ex P F t h t' h')(O':U1 t' h')
  {a:Addr} (pa:P a) (hP:∀ b,P' b→P b∧b≠a) (hF:∀ b,F b→P' b) {m:Md} {K:Ag} {xs:List V} {rs:List Value} (hK:K ≠ .tup) (sh:Sh C h' a a rs K) (vr:E0 C t' h' xs rs) (q:Oi m (.a K xs) t'.σ Q) :
  ∃ t'' v,Hx C ex P' F t h t'' h'∧U1 t'' h'∧Mo t' h' t'' h'∧G0 C t'' h' v (.ref a)∧Q v t''.σ:=by
 have sbo:∀ b,t.ow b∨P' b→t'.ow b:=fun b f=>H.ow▸f.imp id fun p=>(hP b p).1
 have sbf:∀ b,t.sl b∨F b→t.ow b∨P' b:=fun b f=>f.imp (R.sub b) (hF b)
 have m1:=(Gc H.rel (H.rel.nt O') (o:=fun b=>t.ow b∨P' b) (f:=fun b=>t.sl b∨F b) sbo sbf).2
 have wa:t'.ow a:=H.ow ▸ .inr pa
 have na:¬(t.ow a∨P' a):=fun f=>f.elim (fun f=>(O a f).elim fun o z=>Q5 (H.fr a pa) z.1) fun p=>(hP a p).2 rfl
 have nf:¬(t'.hid0 t P' F).foot a:=fun f=>Or.elim f na (H.rel.apart a wa)
 have O1:∀ b,t.ow b∨P' b→∃ o,h'.get? b=some o∧Y4 o∧¬Wi o:=fun b f=>O' b (sbo b f)
 have mk:∀ t2:St,Y0 C t2 h'→Y0 C (t2.as t.ow t.sl) h'→t2.ow=(fun b=>t.ow b∨P' b)→t2.sl=(fun b=>t.sl b∨F b)→(∀ b,t2.cel b→b=a∨t'.cel b)→(∀ j,t'.live j→t2.live j∧t2.al j=t'.al j∧t2.dl j=t'.dl j)→Hx C ex P' F t h t2 h':=fun t2 r1 r2 e1 e2 c l =>
  ⟨⟨r2,H.tr.keep,fun b f=>(c b f).elim (fun q => .inr (q▸H.fr a pa)) (H.tr.grow b),H.tr.alive,fun j lj=>by
   refine i4 (H.tr.lv j lj) fun l1 a1 d1=>?_
   refine i4 (l j l1) fun l2 a2 d2=>?_
   exact V0 l2 (a2.trans a1) (d2.trans d1),rfl,rfl⟩,r1,e1,e2,fun b p=>H.fr b (hP b p).1,hF⟩
 have reg:∀ k,A1 t'.σ k=none→Q (.ref k) (R2 t'.σ k (some (.a K xs)))→∃ t'' v,Hx C ex P' F t h t'' h'∧U1 t'' h'∧Mo t' h' t'' h'∧G0 C t'' h' v (.ref a)∧Q v t''.σ:=fun k dead q=>by
  have ne:∀ j,t'.live j→j≠k:=fun j l q=>by subst q;exact l.elim fun v e=>Q5 dead e
  have nl:∀ j,j≠k→((t'.hid0 t P' F).new k a a (.a K xs)).live j→t'.live j:=fun j n l=>S7 (t:=t'.hid0 t P' F) n l
  have ac:∀ j,t'.live j→t'.al j≠a∧t'.dl j≠a:=fun j l=>⟨fun q=>H.rel.apart a wa (C0 j l (.inl q.symm)),fun q=>H.rel.apart a wa (C0 j l (.inr q.symm))⟩
  have cl:∀ b,((t'.hid0 t P' F).new k a a (.a K xs)).cel b→b=a∨t'.cel b:=fun b f=>(kb f).elim .inl fun f=>f.elim .inl .inr
  have lv:∀ j,t'.live j→((t'.hid0 t P' F).new k a a (.a K xs)).live j∧((t'.hid0 t P' F).new k a a (.a K xs)).al j=t'.al j∧((t'.hid0 t P' F).new k a a (.a K xs)).dl j=t'.dl j:=fun j l=>⟨l.imp fun Z e=>(T1 t'.σ _ (ne j l)).trans e,Z2 (t:=t'.hid0 t P' F) (ne j l)⟩
  have ft:∀ b,((t'.hid0 t P' F).new k a a (.a K xs)).foot b→t'.foot b:=fun b f=>f.elim (fun f => .inl (sbo b f)) fun f=>(cl b f).elim (fun q => .inl (q▸wa)) .inr
  have m:Mo t' h' ((t'.hid0 t P' F).new k a a (.a K xs)) h':=⟨lv,fun b Z Z=>ft b,fun b o e Z Z=>e,H.rel.nt O'⟩
  have r1:Y0 C ((t'.hid0 t P' F).new k a a (.a K xs)) h':=by
   refine ⟨fun j v e=>?_,fun b f=>H.rel.own b (ft b f),fun i j li lj n=>?_,fun b f c=>?_,H.rel.base,sbf⟩
   ·by_cases n:j=k
    ·subst n
     obtain rfl:=Option.some.inj ((N1 t'.σ j _).symm.trans e)
     exact X4 K xs rs rfl hK (M3.1.symm▸M3.2.symm▸sh) (vr.go m xs)
    ·refine f0 ((Z2 n).1) (f0 ((Z2 n).2) ?_)
     exact (H.rel.cell j v ((T1 t'.σ _ n).symm.trans e)).imp fun K x=>x.imp fun xs x=>x.imp fun rs z=>E3 z.1 z.2.1 z.2.2.1 (z.2.2.2.go m xs)
   ·by_cases p:i=k
    ·have q:j≠k:=fun q=>n (p.trans q.symm)
     subst p
     refine f0 (M3.1 ..) (f0 (M3.2 ..) (f0 ((Z2 q).1) (f0 ((Z2 q).2) ?_)))
     have z:=ac j (nl j q lj)
     exact V0 z.1.symm z.2.symm z.2.symm
    ·by_cases q:j=k
     ·subst q
      refine f0 (M3.1 ..) (f0 (M3.2 ..) (f0 ((Z2 p).1) (f0 ((Z2 p).2) ?_)))
      have z:=ac i (nl i p li)
      exact V0 z.1 z.1 z.2
     ·refine f0 ((Z2 p).1) (f0 ((Z2 p).2) (f0 ((Z2 q).1) (f0 ((Z2 q).2) ?_)))
      exact H.rel.sep i j (nl i p li) (nl j q lj) n
   ·exact (cl b c).elim (fun q=>na (q▸f)) (H.rel.apart b (sbo b f))
  have O2:U1 ((t'.hid0 t P' F).new k a a (.a K xs)) h':=O1
  exact O6 _ (.ref k) (mk _ r1 (Gc r1 (r1.nt O2) (fun b f => .inl f) R.sub).1 rfl rfl cl lv) O2 m ⟨⟨_,N1 ..⟩,congrArg Value.ref M3.1.symm⟩ q
 induction m using Md.casesOn with
 | fz =>
  have r1:Y0 C (t'.hid0 t P' F) h':=(Gc H.rel (H.rel.nt O') sbo sbf).1
  have O2:U1 (t'.hid0 t P' F) h':=O1
  exact O6 (t'.hid0 t P' F) (.a K xs) (mk _ r1 (Gc r1 (r1.nt O2) (fun b f => .inl f) R.sub).1 rfl rfl (fun b f => .inr f) fun j l=>V0 l rfl rfl) O2 m1 (W8 a a rs rfl nf nf sh (vr.go m1 xs)) q
 | pick=>exact q.elim fun k z=>reg k z.1 z.2
theorem D0.adopt{s s1 s':Shared}{Q:X0}{a:Addr}(R:Y0 C t s.heap)(O:U1 t s.heap)(keep:∀ b o,s.heap.get? b=some o→s1.heap.get? b=some o)(fr:∀ b,b=a→s.heap.get? b=none)(T:Tr C (·=a) (t.hid (·=a) no) s1.heap t' s'.heap)(O':U1 t' s'.heap)
  (hg:s'.gens=s.gens) (ho:s'.os=s.os) {m:Md} {K:Ag} {xs:List V} {rs:List Value} (hK:K ≠ .tup) (sh:Sh C s'.heap a a rs K) (vr:E0 C t' s'.heap xs rs) (q:Oi m (.a K xs) t'.σ Q):D0 C t s Q (.ref a) s':=by
 refine O8 (Hx.adopt (P':=no) R O (ex:=no) ⟨(unhide R keep fr (fun Z=>False.elim) fr T O').1,T.rel,T.ow,T.sl,fr,fun Z=>False.elim⟩ O' rfl (fun Z=>False.elim) (fun Z=>False.elim) hK sh vr q) ?_;(repeat clear _);(repeat clear q);intro t2 v H O2 _ vv q
 exact L1 (t2.as t.ow t.sl) v ⟨H.tr,hg,ho⟩ (vv.go (H.mo R O2) v) q
theorem Nk.unhide{l l':List Env}{s s1 s':Shared}{Bx:Heap}(R0:Y0 C t s.heap)(keep:∀ b o,s.heap.get? b=some o→s1.heap.get? b=some o)(fr:∀ b,P b→s.heap.get? b=none)(hF:∀ b,F b→P b)(hx:∀ b,ex b→s.heap.get? b=none)
  (hl:∀ env∈l',env∈l∨∃ L,env.frame=some L∧P L) (hg:s1.gens=s.gens) (ho:s1.os=s.os) (T:Nk C ex l' (t.hid P F) s1 t' s' Bx):Nk C no l t s (t'.as t.ow t.sl) s' Bx:=by
 obtain ⟨R,m⟩:=Gc T.rel T.nt (o:=t.ow) (f:=t.sl) (fun b f=>T.ow ▸ .inl f) R0.sub
 have np:∀ {b o},s.heap.get? b=some o→¬P b:=fun e p=>Q5 (fr _ p) e
 refine ⟨R,fun b o e nc Z=>(T.keep b o (keep b o e) nc fun q=>Q5 (hx b q) e).imp (fun z=>?_) fun z=>z.imp fun Z z=>V0 z.1 (fun n=>z.2.1 fun w=>w.elim n (fun f=>np e (hF b f))) z.2.2,fun b o e i f=>T.nt b o e i (m.ft b o e f),fun b o e w=>?_,
  fun b f=>(T.grow b f).imp id fun q=>?_,T.lv,rfl,rfl,T.gens.trans hg,T.os.trans ho⟩
 ·refine A0 z ?_;(repeat clear z);intro env he hf
  rcases hl env he with h|⟨L,hf',p⟩
  ·exact C0 env h hf
  ·obtain rfl:=Option.some.inj (hf.symm.trans hf')
   exact absurd p (np e)
 ·exact (T.ows b o (keep b o e) (.inl w)).imp fun Z z=>V0 z.1 z.2.1 (fun Z=>z.2.2 fun q=>Q5 (hx b q) e)
 ·cases e:s.heap.get? b with
  | none=>rfl
  | some o=>exact Q5 q (keep b o e)
theorem Z1.unhide{l:List Env}{s s1 s':Shared}{X:y0→Prop}{e:Value}(R0:Y0 C t s.heap)(keep:∀ b o,s.heap.get? b=some o→s1.heap.get? b=some o)(fr:∀ b,P b→s.heap.get? b=none)(hF:∀ b,F b→P b)
  (hx:∀ b,ex b→s.heap.get? b=none) (hg:s1.gens=s.gens) (ho:s1.os=s.os) (p:Z1 C ex l none (t.hid P F) s1 X e s'):Z1 C no l none t s X e s' :=
 p.elim fun t' p=>⟨t'.as t.ow t.sl,p.imp fun Z p=>p.imp fun Z p=>p.imp fun Z p=>p.imp fun Z z=>V0 z.1 (z.2.1.unhide R0 keep fr hF hx (fun Z h => .inl h) hg ho) z.2.2⟩
end
section
variable{B:Bk}{K:Fr}{t t':St}{s s1:Shared}{P F:Addr→Prop}
theorem W0.hid(h:W0 B K t s)(keep:∀ b o,s.heap.get? b=some o→s1.heap.get? b=some o)(fr:∀ b,P b→s.heap.get? b=none)(hF:∀ b,F b→P b)(ok:∀ b,P b→∃ o,s1.heap.get? b=some o∧Y4 o∧¬Wi o):W0 B K (t.hid P F) s1:=by
 refine i4 (Cw h.rel h.own keep fr hF ok) fun R O m=>?_
 refine ⟨h.ok,h.amb,fun env he=>?_,h.sc,⟨h.env.kind,h.env.glob,h.env.blt,?_,.inl h.env.nloc,fun x i v a b c=>?_⟩,R,O,fun b hb => .inl (h.oa b hb)⟩
 ·obtain ⟨k,wI⟩:=h.fr env he;refine Ia wI ?_;(repeat clear wI);intro L o es n hf w e hd
  exact ⟨k,L,o,es,n,hf,.inl w,keep _ _ e,hd⟩
 ·exact h.env.loc.imp fun Z z=>⟨t8 z.1 fun o e=>C0 o (keep _ _ e) rfl,fun x i v a b c=>(z.2 x i v a b c).imp fun Z y=>⟨y.1,y.2.go m v⟩⟩
 ·exact (h.env.cel x i v a b c).imp fun Z z=>z.imp fun Z y=>E3 y.1 (m6 y.2.1 fun o e=>C0 o (keep _ _ e) rfl) (y.2.2.1.go m v) (.inl y.2.2.2)
theorem W0.owned(h:W0 B K t s){a:Addr}{h':Heap}{tk:Nat}(wa:t.ow a)(ns:¬t.sl a)(he:∀ b,i3 K.en b→b≠a)(sb:Heap.SameBut a s.heap h')(al:∃ o,h'.get? a=some o∧Y4 o∧¬Wi o) :
  W0 B K t { s with heap:=h',toks:=tk }∧O3 B.C (·=a) t s t { s with heap:=h',toks:=tk }∧Mo t s.heap t h':=by
 obtain ⟨T,m⟩:=Tr.own h.rel h.own wa sb (al.imp fun Z z=>z.1)
 exact V0 ⟨h.ok,h.amb,h.fr.tr h.rel T fun env hm L hf q=>by
  obtain ⟨_,yI⟩:=h.fr env hm;refine da yI ?_;(repeat clear yI);intro L' _ _ _ hf' w _
  obtain rfl:=Option.some.inj (hf.symm.trans hf')
  exact ns (q▸w),h.sc,h.env.tr h.rel T m he,T.rel,(h.own.tr h.rel T fun b q=>q▸al),h.oa⟩ ⟨T,rfl,rfl⟩ m
end
open PySem.Calls
theorem Hc{k:Option Expr}{x:Str}(e:P6 k=some x):∃ n p,k=some (.Constant (.str x) n p):=by
 refine A0 (M4 e) ?_;intro k1 xI e0;obtain rfl:=xI
 refine A0 (M4 e0) ?_;intro vI e2 e3;obtain ⟨c,n,p⟩:=vI
 refine f0 (Xk e2 ..) ?_
 induction c using Const.casesOn with
 | str y=>obtain rfl:=Option.some.inj e3;exact V8 n p rfl
 | _=>exact nn e3
section
variable{B:Bk}{K:Fr}{t t':St}{s s':Shared}{Q:X0}{pos:Pos}
theorem g9{α β:Type}:∀ {as:List α} {bs:List β},as.length=bs.length→(as.zip bs).map (·.1)=as∧(as.zip bs).map (·.2)=bs
 | [],[],_=>⟨rfl,rfl⟩
 | [],_::_,h=>nomatch h
 | _::_,[],h=>nomatch h
 | a::as,b::bs,h=>let z:=g9 (Nat.succ.inj h);⟨congrArg (a::·) z.1,congrArg (b::·) z.2⟩
theorem Ee{es:List Expr}{p:E}(w:SL B es p):∀ {ks:List (Option Expr)} {ss:List Str},ks.map P6=ss.map some→ks.length=es.length→∀ K t s Q,W0 B K t s→w5 B.L.f K.X p K.ρ t.σ Q →
  Wp B K t s (evalPairs (pairTrees ks es K.en pos)) (fun ps s'=>∃ rs,Carries (strKind pw B.C.w) ps (ss.zip rs)∧ss.length=rs.length∧Cs B.C t s Q rs s') s:=by
 induction w with
 | nil =>
  intro ks ss e hl K t s Q h q
  induction ks using List.casesOn with
  | nil=>induction ss using List.casesOn with
   | nil=>exact pairTrees_nil_walk (A2 [] trivial rfl ⟨t,[],.refl h.rel,rfl,q⟩)
   | cons=>exact nomatch e
  | cons=>exact nomatch hl
 | @cons x p es q he hs _ ih =>
  intro ks ss e hl K t s Q h q
  induction ks using List.casesOn with
  | nil=>exact nomatch hl
  | cons k ks=>induction ss using List.casesOn with
   | nil=>exact nomatch e
   | cons y ss =>
    refine jh (Hc (List.cons.inj e).1) ?_;intro n pp tI;obtain rfl:=tI
    have E1:O3 B.C no t s t { s with toks:=s.toks+1 }:=h.refl.toks
    refine pairTrees_cons_walk (wpAny_Constant_str (WE.go h E1 (he K t _ _ (h.ext E1) q) fun t' s' u r h' x' Z vr q=>?_))
    refine wpAny_mono (ih (List.cons.inj e).2 (Nat.succ.inj hl) K t' s' _ h' q) (fun ps s2 z=>?_) fun Z Z y=>Z1.trans h.rel x' y
    refine F1 z ?_;(repeat clear z);intro rs c hl2 rI;refine Z0 rI ?_;(repeat clear rI);intro t2 vs x2 vs2 q
    exact A2 (r::rs) (V0 (bA y _) rfl c) (congrArg Nat.succ hl2) ⟨t2,u::vs,x'.trans x2,(L1 r rs rfl (vr.go (h'.mo x2) u) vs2),q⟩
theorem Eb{w:World}{h:Heap}{a:Addr}{kvs:List (Str×Value)}(x:h.DictOf (strKind pw w) a kvs):∃ o,h.get? a=some o∧Y4 o∧¬Wi o :=
 x.imp fun Z x=>x.elim fun Z x=>x.elim fun Z z=>V0 z.1 (U2 z.2.2.1) (fun i=>i.2.elim fun Z i=>i.elim fun Z q=>Data.noConfusion (z.2.2.1.symm.trans q))
theorem mj{w:World}{h:Heap}{a:Addr}(e:h.get? a=some (dictOf [] 0)):h.DictOf (strKind pw w) a []:=Zq _ _ _ e (V0 rfl rfl rfl) rfl (fun e he=>by simp at he) .nil List.nodup_nil
theorem Fb(h:W0 B K t s):W0 B K (t.hid (·=s.heap.objs.size) no) { s with heap:=s.heap.push emptyDict }∧(s.heap.push emptyDict).DictOf (strKind pw B.C.w) s.heap.objs.size []∧(∀ b o,s.heap.get? b=some o→(s.heap.push emptyDict).get? b=some o)∧(∀ b,b=s.heap.objs.size→s.heap.get? b=none) ∧
  (s.heap.objs.size==sysModules)=false∧(∀ b,i3 K.en b→b≠s.heap.objs.size)∧¬(t.hid (·=s.heap.objs.size) no).sl s.heap.objs.size:=by
 have d:=mj (w:=B.C.w) (Heap.get?_push_size s.heap (o:=dictOf [] 0) rfl)
 have fr:∀ b,b=s.heap.objs.size→s.heap.get? b=none:=fun b q=>q▸M2 _ (Nat.le_refl _)
 have keep:∀ b o,s.heap.get? b=some o→(s.heap.push emptyDict).get? b=some o:=fun b o e=>Heap.get?_push_of_some _ e
 refine ⟨h.hid (s1:={ s with heap:=s.heap.push emptyDict }) keep fr (fun Z=>False.elim) fun b q=>q▸Eb d,d,keep,fr,beq_eq_false_iff_ne.mpr fun q=>?_,fun b hb q=>?_,fun f=>f.elim (fun f=>?_) id⟩
 ·obtain ⟨o,e⟩:=h.ok.sysm
  exact Q5 (fr _ rfl) (q▸h.rel.base _ _ e)
 ·exact (h.own b (h.oa b hb)).elim fun o z=>Q5 (fr _ q) z.1
 ·exact (h.own _ (h.rel.sub _ f)).elim fun o z=>Q5 (fr _ rfl) z.1
end
open PySem.Calls
noncomputable abbrev SP:=Sem Value×Sem Value
theorem Sn(f:(Option (Sem Value)×Sem Value)→(Option Addr×List SP)→Sem (ForInStep (Option Addr×List SP)))
  (hf:∀ (p:SP) (main:Option Addr) (run:List SP),run.length+1<17→f (some p.1,p.2) (main,run)=pure (.yield (main,run++[p]))) :
  ∀ (items:List SP) (main:Option Addr) (run:List SP),run.length+items.length<17→forIn (items.map fun p=>(some p.1,p.2)) (main,run) f=pure (main,run++items)
 | [],main,run,_=>by simp
 | p::rest,main,run,h=>by
  refine f0 (List.map_cons ..) (f0 (List.forIn_cons ..) (f0 (hf p main run (by simp at h;exact ak h (by simp +arith)) ..) (f0 (pure_bind ..) ?_)))
  have:=Sn f hf rest main (run++[p]) (by simp at h ⊢;exact ak h (by simp +arith))
  simpa using this
theorem Tn(f:(Option (Sem Value)×Sem Value)→(Option Addr×List SP)→Sem (ForInStep (Option Addr×List SP)))
  (hf:∀ (p:SP) (main:Option Addr) (run:List SP),run.length+1<17→f (some p.1,p.2) (main,run)=pure (.yield (main,run++[p])))
  (hf2:∀ (p:SP) (run:List SP),run.length+1=17→f (some p.1,p.2) (none,run)=(do let d ←subDict (run++[p]);pure (.yield (some d,[])))) :
  ∀ (items:List SP) (p:SP) (rest run:List SP),run.length+items.length=16 →
   forIn ((items++p::rest).map fun p=>(some p.1,p.2)) ((none:Option Addr),run) f=(do let d ←subDict (run++items++[p]);forIn (rest.map fun p=>(some p.1,p.2)) (some d,[]) f)
 | [],p,rest,run,h=>by
  refine f0 (List.nil_append ..) (f0 (List.map_cons ..) (f0 (List.forIn_cons ..) (f0 (hf2 p run (by simp at h;exact ar h (by simp +arith)) ..) ?_)))
  simp
 | q::items,p,rest,run,h=>by
  refine f0 (List.cons_append ..) (f0 (List.map_cons ..) (f0 (List.forIn_cons ..) (f0 (hf q none run (by simp at h;exact ae h (by simp +arith)) ..) (f0 (pure_bind ..) ?_))))
  have:=Tn f hf hf2 items p rest (run++[q]) (by simp at h ⊢;exact ar h (by simp +arith))
  simpa using this
theorem Ic(ps:List SP)(p:SP)(qs:List SP)(h1:ps.length=16)(h2:qs≠[])(h3:qs.length<17) :
  dictDisplay ((ps++p::qs).map fun p=>(some p.1,p.2))=(do
   let d ←subDict (ps++[p])
   let sub ←holding [.ref d] (subDict qs)
   (holding [.ref d,.ref sub] (mergeMapping d (.ref sub) false)).onRaise fun x=>do let _ ←holding [.ref d,x] (runValue (.builtin "proto.let_go" {}))
   pure (.ref d)):=by
 unfold dictDisplay
 dsimp only
 rw [Tn _ (fun p main run h=>by
  have hne:((run++[(p.1,p.2)]).length==17)=false:=by simp;omega
  simp only [hne,Bool.false_eq_true,if_false]) (fun p run h=>by
  have hne:((run++[(p.1,p.2)]).length==17)=true:=by simp;exact ar h (by simp +arith)
  have he:(run++[(p.1,p.2)]).isEmpty=false:=by simp
  simp only [hne,if_true,he,Bool.false_eq_true,if_false]
  simp) ps p qs [] (by simpa using h1)]
 refine f0 (bind_assoc ..) ?_
 congr 1
 funext d
 rw [Sn _ (fun p main run h=>by
  have hne:((run++[(p.1,p.2)]).length==17)=false:=by simp;omega
  simp only [hne,Bool.false_eq_true,if_false]) qs (some d) [] (by simpa using h3)]
 have he:qs.isEmpty=false:=by induction qs using List.casesOn<;>first|exact absurd rfl h2|rfl
 simp only [he,List.nil_append,Bool.false_eq_true,if_false,bind_assoc,pure_bind]
section
variable{B:Bk}{K:Fr}{t t':St}{s s':Shared}{Q:X0}{pos:Pos}
theorem Hl{ks:List (Option Expr)}{ss:List Str}(e:ks.map P6=ss.map some):ks.all (·.isSome)=true:=List.all_eq_true.mpr fun k hk=>by
 have:P6 k∈ss.map some:=e▸List.mem_map.mpr (C0 k hk rfl)
 refine A0 (List.mem_map.mp this) fun x Z ex=>?_
 refine jh (Hc ex.symm) ?_;intro n p xI;obtain rfl:=xI
 rfl
theorem Jc{s1 s2:Shared}{t2:St}{a:Addr}{h':Heap}{tk:Nat}{ss:List Str}{vs:List V}{rs:List Value}{m:Md}(h:W0 B K t s)(h2:W0 B K t2 s2)(T:O3 B.C (·=a) (t.hid (·=a) no) s1 t2 s2)(hg:s1.gens=s.gens)(ho:s1.os=s.os)(keep:∀ b o,s.heap.get? b=some o→s1.heap.get? b=some o)(fr:∀ b,b=a→s.heap.get? b=none)
  (nsm:(a==sysModules)=false) (he:∀ b,i3 K.en b→b≠a) (nsl:¬(t.hid (·=a) no).sl a) (hl:ss.length=rs.length) (vr:E0 B.C t2 s2.heap vs rs) (hd:h'.DictOf (strKind pw B.C.w) a (ss.zip rs)) (sb:Heap.SameBut a s2.heap h') (q:Oi m (.a (.ds ss) vs) t2.σ Q) :
  D0 B.C t s Q (.ref a) { s2 with heap:=h',toks:=tk }:=by
 refine i4 (h2.owned (tk:=tk) (a:=a) (T.tr.ow ▸ .inr rfl) (fun f=>nsl (T.tr.sl▸f)) he sb (Eb hd)) fun h3 x3 m3=>?_
 obtain ⟨z1,z2⟩:=g9 hl
 exact D0.adopt (s1:=s1) h.rel h.own keep fr (T.trans x3).tr h3.own ((T.trans x3).gens.trans hg) ((T.trans x3).os.trans ho) (K := .ds ss) nofun ⟨rfl,nsm,ss.zip rs,hd,z1,z2⟩ (vr.go m3 vs) q
theorem Kh{a:Addr}{e:Value}{s1 s2:Shared}(h:W0 B K t s)(hg:s1.gens=s.gens)(ho:s1.os=s.os)(keep:∀ b o,s.heap.get? b=some o→s1.heap.get? b=some o)(fr:∀ b,b=a→s.heap.get? b=none)(p:Z1 B.C (·=a) K.l none (t.hid (·=a) no) s1 K.X e s2):XP B K t s e s2 :=
 Z1.unhide (P:=(·=a)) (F:=no) h.rel keep fr (fun Z=>False.elim) fr hg ho p
theorem AD{es:List Expr}{ks:List (Option Expr)}{ss:List Str}{m:Md}{p:E}(w:SL B es p)(e:ks.map P6=ss.map some)(hl:ks.length=es.length)(nd:ss.Nodup)(hz:ks.length≤15):SE B (.Dict ks es pos) (.op (.ds ss m) p):=fun K t s Q h q=>by
 refine Ez (Fb h) fun h1 d1 keep fr nsm he nsl=>?_
 induction ks using List.casesOn with
 | nil =>
  induction w using SL.casesOn with
  | cons=>exact nomatch hl
  | nil =>
   induction ss using List.casesOn with
   | cons=>exact nomatch e
   | nil =>
    exact wpAny_Dict_empty (Jc (s1:={ s with heap:=s.heap.push emptyDict }) (s2:={ s with heap:=s.heap.push emptyDict }) (tk:=s.toks) (rs:=[]) (ss:=[]) h h1 (.refl h1.rel) rfl rfl keep fr nsm he nsl rfl (vs:=[]) rfl d1 (Heap.SameBut.refl _ _) q)
 | cons k ks =>
  refine wpAny_Dict_walk (knd:=strKind pw B.C.w) (Hl e) hl (by intro q;exact nomatch q) hz ?_
  refine wpAny_mono (Ee w e hl K _ _ _ h1 q) (fun ps s2 z=>?_) fun Z Z y=>Kh (s1:={ s with heap:=s.heap.push emptyDict }) h rfl rfl keep fr y.of0
  refine F1 z ?_;(repeat clear z);intro rs c hl2 vI;refine Z0 vI ?_;(repeat clear vI);intro t2 vs x2 vr q
  have d2:s2.heap.DictOf (strKind pw B.C.w) s.heap.objs.size []:=xc (C:=B.C) (fun o e n=>by
   refine F1 (x2.tr.keep _ o e (h1.rel.apart _ (.inr rfl)) id) ?_;(repeat clear _);intro o' e' q _
   exact q nsl▸e') d1
  refine A2 (ss.zip rs) c d2 (fun h' hd hs=>?_)
  rw [merged_nil_of_nodup _ (by refine f0 ((g9 hl2).1) ?_;exact nd)] at hd
  exact Jc (s1:={ s with heap:=s.heap.push emptyDict }) h (h1.ext x2) x2.of0 rfl rfl keep fr nsm he nsl hl2 vr hd hs q
theorem BD{m:Md}:SE B (.Dict [] [] pos) (.op (.dt m) .nil):=fun K t s Q h q=>by
 refine RF (Fb h) fun Z Z keep fr nsm Z=>?_
 have vr:E0 B.C t s.heap [] []:=rfl
 exact wpAny_Dict_empty (D0.mk (K := .dt []) h.rel h.own keep (fr _ rfl) (fr _ rfl) nofun ⟨rfl,nsm,[],(Zq _ _ _ (Heap.get?_push_size s.heap (o:=dictOf [] 0) rfl) (V0 rfl rfl rfl) rfl rfl (fun Z h=>nomatch h) List.nodup_nil),rfl,rfl⟩ vr q)
theorem Mp{A:Around}{d:Addr}{kvs:List (Str×Value)}{k:Str}{key v:Value}{Q:Unit→Shared→Prop}{E:Value→Shared→Prop}{w:World}(hkey:(strKind pw w).is k key=true)(hm:s.heap.DictOf (strKind pw w) d kvs)(hf:((kvs++[(k,v)]).map (·.1)).Nodup)
  (hQ:∀ h',h'.DictOf (strKind pw w) d (kvs++[(k,v)])→Heap.SameBut d s.heap h'→Q () { s with heap:=h' }) (hsz:kvs.length≤sizeLine) :
  wpAny (model pw w) A (dictPut d ((strKind pw w).hash k) key v) Q E s:=by
 refine Qi hm ?_;(repeat clear hm);intro o es ep ho hc hd hk hp hn
 have hnot:k∉kvs.map (·.1):=by
  rw [List.map_append,List.nodup_append] at hf
  exact fun hm=>hf.2.2 k hm k (by simp) rfl
 have hes:es.size≤sizeLine:=by have:=hp.length;rw [Array.length_toList] at this;exact ak hsz (ae this (by simp +arith))
 unfold dictPut
 refine wpAny_bind (wpAny_dictFind_of hkey ho hd hk ?_)
 have hidx:(es.findIdx? fun e=>(strKind pw w).is k e.key)=kvs.findIdx? fun kv=>decide (kv.1=k):=by
  refine P5 (hp.findIdx k ..) ?_;obtain ⟨l⟩:=es;simp
 have hi:(es.findIdx? fun e=>(strKind pw w).is k e.key)=none:=by
  rw [hidx,List.findIdx?_eq_none_iff]
  intro x hx
  exact decide_eq_false fun e=>hnot (List.mem_map.mpr (C0 x hx e))
 refine f0 (hi ..) ?_
 refine wpAny_updateDictKeys (hz:=hes) ho hd (hQ _ (Zq _ _ (ep+1) (Heap.get?_update_self _ ho (Obj.isFreed_of_dict (Obj.data_mapDictKeys hd _))) (hc.mapDictKeys _) (Obj.data_mapDictKeys hd _) (hk.push hkey _) ?_ hf) (Heap.SameBut.update ..))
 have:=hp.append hkey ((strKind pw w).hash k) v
 obtain ⟨l⟩:=es
 simpa using this
theorem Il{A:Around}{d o:Addr}{kvs more:List (Str×Value)}{Q:Unit→Shared→Prop}{E:Value→Shared→Prop}{w:World}(hdo:d≠o)(hoS:(o==sysModules)=false)(hne:kvs≠[])
  (hd:s.heap.DictOf (strKind pw w) d kvs) (ho:s.heap.DictOf (strKind pw w) o more) (hf:((kvs++more).map (·.1)).Nodup) (hsz:kvs.length+more.length≤sizeLine)
  (hQ:∀ h',h'.DictOf (strKind pw w) d (kvs++more)→Heap.SameBut d s.heap h'→Q () { s with heap:=h' }) :
  wpAny (model pw w) A (mergeMapping d (.ref o) false) Q E s:=by
 refine Qi (id hd) fun od esd epd hod hcd hdd hkd hpd hnd=>?_
 refine Qi (id ho) fun oo eso epo hoo hco hdo' hko hpo hno=>?_
 have hlen:more.length=eso.size:=by refine P5 (hpo.length ..) ?_;simp
 have hemp:esd.isEmpty=false:=by
  have:=hpd.length
  cases q:esd.isEmpty with
  | false=>rfl
  | true =>
   have h0:esd=#[]:=Array.isEmpty_iff.mp q
   rw [h0] at this
   exact absurd (List.length_eq_zero_iff.mp (by simpa using this.symm)) hne
 unfold mergeMapping
 refine wpAny_bind (wpAny_isInstance ho.typeIs isSubtype_dict_dict ?_)
 dsimp only
 refine f0 (if_pos rfl ..) ?_
 refine wpAny_bind (wpAny_specialOf ho.typeIs F.slot_dict_iter.lookup (wpAny_bind (wpAny_pure ?_)))
 simp only [beq_self_eq_true]
 refine f0 (if_neg (by rw [hoS];exact Bool.false_ne_true) ..) ?_
 refine wpAny_bind (wpAny_dictEntries hod hdd ?_)
 refine f0 (hemp ..) (f0 (if_neg Bool.false_ne_true ..) ?_)
 refine wpAny_bind (wpAny_dictEntries hoo hdo' (wpAny_bind (wpAny_dictEpoch hoo hdo' (wpAny_bind ?_))))
 simp only [Bool.false_eq_true,if_false]
 have keysTake:∀ i,((kvs++more.take i).map (·.1)).Nodup:=fun i=>by
  refine List.Sublist.nodup ?_ hf
  exact List.Sublist.map _ (List.Sublist.append_left (List.take_sublist _ _) _)
 refine wpAny_forIn_list _
  (fun rest Z s'=>∃ h' i,s'={ s with heap:=h' }∧rest=(List.range eso.size).drop i∧i≤eso.size∧h'.DictOf (strKind pw w) d (kvs++more.take i)∧h'.get? o=some oo∧Heap.SameBut d s.heap h')
  _ ?_ ?_ _ _ (DC s.heap 0 rfl rfl (Nat.zero_le _) (by simpa using hd) hoo (Heap.SameBut.refl _ _))
 ·rintro x rest b s' ⟨h',i,rfl,hr,hi,hd',hoo',hs'⟩
  have hlt:i<eso.size:=by
   rcases Nat.lt_or_ge i eso.size with h|h
   ·exact h
   ·rw [List.drop_eq_nil_of_le (by simpa using h)] at hr;exact IC List.ctorIdx hr rfl
  rw [List.drop_eq_getElem_cons (by simpa using hlt)] at hr
  obtain ⟨rfl,hrest⟩:=List.cons.inj hr
  refine f0 (List.getElem_range ..) ?_
  refine wpAny_bind (wpAny_dictEntries hoo' hdo' ?_)
  rw [Array.getElem?_eq_getElem hlt]
  obtain ⟨kv,hkv⟩:∃ kv,more[i]?=some kv:=⟨more[i]'(by refine f0 (hlen ..) ?_;exact hlt),List.getElem?_eq_getElem _⟩
  obtain ⟨k,v⟩:=kv
  obtain ⟨hkey,hval⟩:=hpo.get? (e:=eso[i]) (by simp [hlt]) hkv
  refine A0 (hko eso[i] (Array.getElem_mem hlt)) fun k' hkey' hhash=>?_
  obtain rfl:k'=k:=(strKind pw w).inj _ _ _ hkey' hkey
  have etake:kvs++more.take (i+1)=(kvs++more.take i)++[(k',v)]:=by
   refine f0 (List.append_assoc ..) (f0 (List.take_add_one ..) (f0 (hkv ..) ?_));rfl
  show wpAny _ _ (holding [eso[i].key,eso[i].val] (dictPut d eso[i].hash eso[i].key eso[i].val) >>= _) _ _ _
  refine f0 (hhash ..) (f0 (hval ..) ?_)
  have hmx:(kvs++more.take i).length≤sizeLine:=by
   refine f0 (List.length_append ..) (f0 (List.length_take ..) ?_);omega
  refine wpAny_bind (wpAny_holding (Mp hkey hd' (by refine P5 (etake ..) ?_;exact keysTake _) (fun h'' hd'' hs''=>?_) hmx))
  have hoo'':h''.get? o=some oo:=(hs''.2 o (Ne.symm hdo)).trans hoo'
  refine wpAny_bind (wpAny_dictEpoch hoo'' hdo' ?_)
  refine f0 (if_neg (by simp) ..) ?_
  exact wpAny_pure (DC h'' (i+1) rfl hrest hlt (by refine f0 (etake ..) ?_;exact hd'') hoo'' (hs'.trans hs''))
 ·rintro b s' ⟨h',i,rfl,hr,hi,hd',hoo',hs'⟩
  have hin:i=eso.size:=by
   rcases Nat.lt_or_ge i eso.size with h|h
   ·rw [List.drop_eq_getElem_cons (by simpa using h)] at hr;exact IC List.ctorIdx hr rfl
   ·exact Nat.le_antisymm hi h
  rw [hin,←hlen,List.take_length] at hd'
  exact wpAny_pure (hQ h' hd' hs')
theorem og{a:Addr}:∀ (k:Nat) {ks:List (Option Expr)} {ss:List Str} {es:List Expr} {p:E} {kvs:List (Str×Value)} {K:Fr} {t:St} {s:Shared} {Q:LP},SL B es p→k≤es.length→ks.map P6=ss.map some→ks.length=es.length→(kvs.map (·.1)++ss).Nodup→kvs.length+ss.length≤1000→W0 B K t s→t.ow a→¬t.sl a→(∀ b,i3 K.en b→b≠a) →
  s.heap.DictOf (strKind pw B.C.w) a kvs→w5 B.L.f K.X p K.ρ t.σ Q →
  wpAny (model pw B.C.w) K.A (forIn (pairTrees (ks.take k) (es.take k) K.en pos) PUnit.unit fun (x:SP) (_:PUnit)=>(do
   let kv ←x.1
   let vv ←holding [kv] x.2
   holding [kv,vv] (dictSet a kv vv)
   pure (ForInStep.yield PUnit.unit):Sem (ForInStep PUnit)))
   (fun Z s'=>∃ t' vs rs q,O3 B.C (·=a) t s t' s'∧W0 B K t' s'∧E0 B.C t' s'.heap vs rs∧rs.length=k∧s'.heap.DictOf (strKind pw B.C.w) a (kvs++(ss.take k).zip rs)∧SL B (es.drop k) q∧w5 B.L.f K.X q K.ρ t'.σ fun ws σ=>Q (vs++ws) σ) (Z1 B.C (·=a) K.l none t s K.X) s
 | 0,ks,ss,es,p,kvs,K,t,s,Q,w,hk,e,hl,nd,hz,h,wa,ns,he,hd,q=>wpAny_pure (FC t [] [] p (.refl h.rel) h rfl rfl (by refine f0 (List.take_zero ..) (f0 (List.zip_nil_left ..) (f0 (List.append_nil ..) ?_));exact hd) w q)
 | k+1,ks,ss,es,p,kvs,K,t,s,Q,w,hk,e,hl,nd,hz,h,wa,ns,he,hd,q=>by
  induction w using SL.casesOn with
  | nil=>exact nomatch hk
  | @cons x p es q' hx hs w =>
  induction ks using List.casesOn with
  | nil=>exact nomatch hl
  | cons k0 ks=>induction ss using List.casesOn with
  | nil=>exact nomatch e
  | cons y ss =>
  refine jh (Hc (List.cons.inj e).1) ?_;intro n pp tI;obtain rfl:=tI
  show wpAny _ _ (forIn ((eval (.Constant (.str y) n pp) K.en,do let v ←eval x K.en;standAt pos;pure v)::pairTrees (ks.take k) (es.take k) K.en pos) _ _) _ _ s
  refine f0 (List.forIn_cons ..) ?_
  have E1:O3 B.C no t s t { s with toks:=s.toks+1 }:=h.refl.toks
  refine wpAny_bind (wpAny_bind (?_:wpAny _ _ (eval (.Constant (.str y) n pp) K.en) _ _ s))
  refine wpAny_Constant_str ?_
  refine wpAny_bind (wpAny_holding (wpAny_bind (wpAny_mono (hx K t _ _ (h.ext E1) q) (fun r s1 z=>?_) fun Z Z z=>Z1.trans h.rel E1.of0 z.of0)))
  refine Z0 z ?_;(repeat clear z);intro t1 u x1 vr q
  have h1:=(h.ext E1).ext x1
  have d1:s1.heap.DictOf (strKind pw B.C.w) a kvs:=xc (C:=B.C) (fun o e n=>by
   refine F1 (x1.tr.keep _ o e (h.rel.apart _ wa) id) ?_;(repeat clear _);intro o' e' q _
   exact q ns▸e') hd
  refine wpAny_bind (wpAny_standAt (wpAny_pure ?_))
  have nd2:((kvs++[(y,r)]).map (·.1)++ss).Nodup:=by refine f0 (List.map_append ..) (f0 (List.append_assoc ..) ?_);exact nd
  have hz2:(kvs++[(y,r)]).length+ss.length≤1000:=by refine f0 (List.length_append ..) (f0 (Nat.add_assoc ..) (f0 (List.length_singleton ..) (f0 (Nat.add_comm 1 ..) ?_)));exact hz
  have hst:stored kvs y r=kvs++[(y,r)]:=by
   unfold stored
   rw [if_neg]
   rw [List.any_eq_true]
   rintro ⟨p,hp,e⟩
   exact (List.nodup_append.mp nd).2.2 p.1 (List.mem_map.mpr (C0 p hp rfl)) y (.head _) (of_decide_eq_true e)
  refine wpAny_bind (wpAny_holding (wpAny_dictSet_pairs (knd:=strKind pw B.C.w) (k:=y) (bA y _) d1 (fun h' hd' hs=>wpAny_pure ?_) (by refine f0 (sizeLine_eq ..) ?_;exact ak hz (by simp +arith))))
  rw [hst] at hd'
  refine i4 (h1.owned (tk:=s1.toks+1) (a:=a) (x1.tr.ow▸wa) (fun f=>ns (x1.tr.sl▸f)) he hs (Eb hd')) fun h2 x2 m2=>?_
  refine wpAny_mono (og k w (Nat.le_of_succ_le_succ hk) (List.cons.inj e).2 (Nat.succ.inj hl) nd2 hz2 h2 (x1.tr.ow▸wa) (fun f=>ns (x1.tr.sl▸f)) he hd' q) (fun Z s3 z=>?_) fun Z Z z=>Z1.trans h.rel ((E1.trans x1).of0.trans x2) z
  refine Fz z ?_;(repeat clear z);intro t3 vs rs q3 x3 h3 vr3 lr d3 w3 q
  have m3:Mo t1 s1.heap t3 s3.heap:=(x2.trans x3).tr.mo (fun b q=>q▸(x1.tr.ow▸wa)) h1.rel h1.own
  refine FC t3 (u::vs) (r::rs) q3 ((E1.trans x1).of0.trans (x2.trans x3)) h3 (L1 r rs rfl (vr.go m3 u) vr3) (congrArg Nat.succ lr) ?_ w3 q
  rw [List.append_assoc] at d3
  exact d3
theorem X7{p:Pos}{en:Env}:∀ {ks ks':List (Option Expr)} {vs vs':List Expr},ks.all (·.isSome)=true→ks.length=vs.length→pairTrees (ks++ks') (vs++vs') en p=pairTrees ks vs en p++pairTrees ks' vs' en p
 | [],_,[],_,_,_=>rfl
 | [],_,_::_,_,_,h=>nomatch h
 | _::_,_,[],_,_,h=>nomatch h
 | none::_,_,_::_,_,h,_=>Bool.noConfusion h
 | some k::ks,ks',v::vs,vs',h,hl=>congrArg (_::·) (X7 (p:=p) (en:=en) (ks:=ks) (ks':=ks') (vs:=vs) (vs':=vs') h (Nat.succ.inj hl))
theorem Ks{ks:List (Option Expr)}{ss:List Str}(e:ks.map P6=ss.map some)(n:Nat):(ks.drop n).map P6=(ss.drop n).map some:=by exact f0 (List.map_drop ..) (f0 (List.map_drop ..) (f0 (e ..) rfl))
theorem Jl{es:List Expr}{ks:List (Option Expr)}{ss:List Str}{p:E}{Q:LP}(w:SL B es p)(e:ks.map P6=ss.map some)(hl:ks.length=es.length)(nd:ss.Nodup)(hz:ks.length≤15)(h:W0 B K t s)(q:w5 B.L.f K.X p K.ρ t.σ Q) :
  Wp B K t s (subDict (pairTrees ks es K.en pos)) (fun b s'=>∃ t' vs rs,s.heap.get? b=none∧(b==sysModules)=false∧O3 B.C no t s t' s'∧E0 B.C t' s'.heap vs rs∧s'.heap.DictOf (strKind pw B.C.w) b (ss.zip rs)∧ss.length=rs.length∧Q vs t'.σ) s:=by
 refine Ez (Fb h) fun h1 d1 keep fr nsm he nsl=>?_
 have hlen:=pairTrees_length ks es K.en pos (Hl e) hl
 refine wpAny_subDict (knd:=strKind pw B.C.w) (by refine f0 (hlen ..) ?_;exact hz) ?_
 refine wpAny_mono (Ee w e hl K _ _ _ h1 q) (fun ps s2 z=>?_) fun Z Z y=>Kh (s1:={ s with heap:=s.heap.push emptyDict }) h rfl rfl keep fr y.of0
 refine F1 z ?_;(repeat clear z);intro rs c hl2 rI;refine Z0 rI ?_;(repeat clear rI);intro t2 vs x2 vr q
 have h2:=h1.ext x2
 have d2:s2.heap.DictOf (strKind pw B.C.w) s.heap.objs.size []:=xc (C:=B.C) (fun o e n=>by
  refine F1 (x2.tr.keep _ o e (h1.rel.apart _ (.inr rfl)) id) ?_;(repeat clear _);intro o' e' q _
  exact q nsl▸e') d1
 refine A2 (ss.zip rs) c d2 (fun h' hd hs=>?_)
 rw [merged_nil_of_nodup _ (by refine f0 ((g9 hl2).1) ?_;exact nd)] at hd
 refine i4 (h2.owned (tk:=s2.toks+ps.length) (a:=s.heap.objs.size) (x2.tr.ow ▸ .inr rfl) (fun f=>nsl (x2.tr.sl▸f)) he hs (Eb hd)) fun h3 x3 m3=>?_
 obtain ⟨T,m4⟩:=unhide (P:=(·=s.heap.objs.size)) (F:=no) h.rel keep fr (fun Z=>False.elim) fr (x2.of0.trans x3).tr h3.own
 exact EC _ vs rs (fr _ rfl) nsm ⟨T,(x2.of0.trans x3).gens,(x2.of0.trans x3).os⟩ ((vr.go m3 vs).go m4 vs) hd hl2 q
theorem Kl{es:List Expr}{ks:List (Option Expr)}{ss:List Str}{p:E}{Q:LP}(w:SL B es p)(h17:17≤es.length)(e:ks.map P6=ss.map some)(hl:ks.length=es.length)(nd:ss.Nodup)(hz:ss.length≤1000)(G8:(pairTrees (ks.take 17) (es.take 17) K.en pos).length=(ks.take 17).length)(lt17:(ks.take 17).length=17)
  (h:W0 B K t s) (h1:W0 B K (t.hid (·=s.heap.objs.size) no) { s with heap:=s.heap.push emptyDict }) (nsl:¬(t.hid (·=s.heap.objs.size) no).sl s.heap.objs.size) (he:∀ b,i3 K.en b→b≠s.heap.objs.size) (d1:(s.heap.push emptyDict).DictOf (strKind pw B.C.w) s.heap.objs.size []) (q:w5 B.L.f K.X p K.ρ t.σ Q) :
  wpAny (model pw B.C.w) K.A (subDict (pairTrees (ks.take 17) (es.take 17) K.en pos)) (fun a s'=>a=s.heap.objs.size∧∃ t' vs rs q,O3 B.C (·=s.heap.objs.size) (t.hid (·=s.heap.objs.size) no) { s with heap:=s.heap.push emptyDict } t' s'∧W0 B K t' s'∧E0 B.C t' s'.heap vs rs∧rs.length=17∧s'.heap.DictOf (strKind pw B.C.w) s.heap.objs.size ((ss.take 17).zip rs)∧SL B (es.drop 17) q∧w5 B.L.f K.X q K.ρ t'.σ fun ws σ=>Q (vs++ws) σ)
   (Z1 B.C (·=s.heap.objs.size) K.l none (t.hid (·=s.heap.objs.size) no) { s with heap:=s.heap.push emptyDict } K.X) s:=by
 unfold subDict
 refine wpAny_bind (wpAny_alloc (wpAny_bind (wpAny_holding ?_)))
 refine f0 (if_neg (by rw [G8,lt17];decide) ..) ?_
 refine wpAny_bind (wpAny_rule (wpAny_bind ?_))
 refine wpAny_mono (og (pos:=pos) 17 w h17 e hl (kvs:=[]) nd (by refine f0 (List.length_nil ..) (f0 (Nat.zero_add ..) ?_);exact hz) h1 (.inr rfl) nsl he d1 q) (fun Z s2 z=>?_) fun Z Z y=>y
 refine Fz z ?_;(repeat clear z);intro t2 vs rs q2 x2 h2 vr lr d2 w2 q
 first
  | exact wpAny_pure (wpAny_pure ⟨rfl,t2,vs,rs,q2,x2,h2,vr,lr,d2,w2,q⟩)
  | exact wpAny_pure ⟨rfl,t2,vs,rs,q2,x2,h2,vr,lr,d2,w2,q⟩
theorem wA{es:List Expr}{ks:List (Option Expr)}{ss:List Str}{m:Md}{p:E}(w:SL B es p)(e:ks.map P6=ss.map some)(hl:ks.length=es.length)(nd:ss.Nodup)(hz:17<ks.length)(hz2:ks.length≤32):SE B (.Dict ks es pos) (.op (.ds ss m) p):=fun K t s Q h q=>by
 refine Ez (Fb h) fun h1 d1 keep fr nsm he nsl=>?_
 have hall:=Hl e
 have hsl:ss.length=ks.length:=by have:=congrArg List.length e;rw [List.length_map,List.length_map] at this;exact this.symm
 have nd':(ss.take 17++ss.drop 17).Nodup:=by rw [List.take_append_drop];exact nd
 have hpt:pairTrees ks es K.en pos=pairTrees (ks.take 17) (es.take 17) K.en pos++pairTrees (ks.drop 17) (es.drop 17) K.en pos:=by
  exact P5 (X7 (List.all_eq_true.mpr fun x hx=>List.all_eq_true.mp hall x (List.mem_of_mem_take hx)) (by rw [List.length_take,List.length_take,hl]) ..) (f0 (List.take_append_drop ..) (f0 (List.take_append_drop ..) rfl))
 have G8:=pairTrees_length (ks.take 17) (es.take 17) K.en pos (List.all_eq_true.mpr fun x hx=>List.all_eq_true.mp hall x (List.mem_of_mem_take hx)) (by rw [List.length_take,List.length_take,hl])
 have len2:=pairTrees_length (ks.drop 17) (es.drop 17) K.en pos (List.all_eq_true.mpr fun x hx=>List.all_eq_true.mp hall x (List.mem_of_mem_drop hx)) (by rw [List.length_drop,List.length_drop,hl])
 have lt17:(ks.take 17).length=17:=by rw [List.length_take];exact Nat.min_eq_left (Nat.le_of_lt hz)
 have ltd:(ks.drop 17).length=ks.length - 17:=List.length_drop ..
 rw [arm_eval_Dict,zip_pairTrees ks es K.en pos hall hl,hpt]
 obtain ⟨ps,p1,hps⟩:∃ ps p,pairTrees (ks.take 17) (es.take 17) K.en pos=ps++[p]:=by
  have hne:pairTrees (ks.take 17) (es.take 17) K.en pos≠[]:=fun e=>by rw [e,lt17] at G8;exact nomatch G8
  exact V8 _ _ ((List.dropLast_concat_getLast hne).symm)
 have lps:ps.length=16:=by
  have:=congrArg List.length hps
  rw [G8,lt17,List.length_append,List.length_singleton] at this;exact (Nat.succ.inj this).symm
 rw [hps,List.append_assoc,List.singleton_append,Ic ps p1 _ lps (fun e=>by rw [e,ltd] at len2;have:=len2;rw [List.length_nil] at this;omega) (by rw [len2,ltd];omega),←hps]
 refine wpAny_bind (wpAny_standAt (wpAny_bind ?_))
 have xb:∀ {e:Value} {s2:Shared},Z1 B.C (·=s.heap.objs.size) K.l none (t.hid (·=s.heap.objs.size) no) { s with heap:=s.heap.push emptyDict } K.X e s2→XP B K t s e s2:=fun y=>Kh (s1:={ s with heap:=s.heap.push emptyDict }) h rfl rfl keep fr y
 refine wpAny_mono (Kl (pos:=pos) w (hl▸Nat.le_of_lt hz) e hl nd (by rw [hsl];exact Nat.le_trans hz2 (by decide)) G8 lt17 h h1 nsl he d1 q) (fun a s2 z=>?_) fun Z Z y=>xb y
 obtain ⟨rfl,uI⟩:=z;refine Fz uI ?_;(repeat clear uI);intro t2 vs rs q2 x2 h2 vr lr d2 w2 q
 have wa2:t2.ow s.heap.objs.size:=x2.tr.ow ▸ .inr rfl
 have nsl2:¬t2.sl s.heap.objs.size:=fun f=>nsl (x2.tr.sl▸f)
 refine wpAny_bind (wpAny_holding ?_)
 refine wpAny_mono (Jl (pos:=pos) w2 (Ks e 17) (by rw [List.length_drop,List.length_drop,hl]) (List.nodup_append.mp nd').2.1 (by rw [ltd];omega) h2 q) (fun b s3 z=>?_) fun Z Z y=>xb (Z1.trans h1.rel x2 y.of0)
 refine UF z ?_;(repeat clear z);intro t3 vs2 rs2 fb nsb x3 vr2 d3 hl3 q
 have h3:=h2.ext x3
 have da3:s3.heap.DictOf (strKind pw B.C.w) s.heap.objs.size ((ss.take 17).zip rs):=xc (C:=B.C) (fun o e n=>by
  refine F1 (x3.tr.keep _ o e (h2.rel.apart _ wa2) id) ?_;(repeat clear _);intro o' e' q _
  exact q nsl2▸e') d2
 have ne:s.heap.objs.size≠b:=fun q=>(Eb d2).elim fun o z=>Q5 (q▸fb) z.1
 have l17:(ss.take 17).length=rs.length:=by rw [lr,List.length_take,hsl];exact Nat.min_eq_left (Nat.le_of_lt hz)
 have ez:(ss.take 17).zip rs++(ss.drop 17).zip rs2=ss.zip (rs++rs2):=by rw [←List.zip_append l17,List.take_append_drop]
 have lz:(ss.zip (rs++rs2)).length≤32:=by rw [List.length_zip];exact Nat.le_trans (Nat.min_le_left _ _) (hsl▸hz2)
 have lrr:ss.length=(rs++rs2).length:=by rw [List.length_append,←l17,←hl3,←List.length_append,List.take_append_drop]
 refine wpAny_bind (wpAny_onRaise (wpAny_holding ?_))
 refine Il (d:=s.heap.objs.size) (o:=b) ne nsb ?_ da3 d3 (by rw [ez,(g9 lrr).1];exact nd) ?_ fun h' hd hs=>wpAny_pure ?_
 ·intro e
  have:=congrArg List.length e
  rw [List.length_zip,l17,Nat.min_self,lr] at this;exact nomatch this
 ·rw [←List.length_append,ez];exact Nat.le_trans lz (by decide)
 ·rw [ez] at hd
  exact Jc (s1:={ s with heap:=s.heap.push emptyDict }) (tk:=s3.toks) h h3 (x2.trans x3.of0) rfl rfl keep fr nsm he nsl lrr ((vr.go (h2.mo x3) vs).append vr2) hd hs q
end
open PySem.Calls
noncomputable def Rk(wr:List Addr)(s s':Shared):Prop:=s'.gens=s.gens∧s'.os=s.os∧∀ b o,b∉wr→s.heap.get? b=some o→s'.heap.get? b=some o
noncomputable def Y7(wr:List Addr)(h:Heap):Prop:=∀ b∈wr,∃ o,h.get? b=some o∧¬Y4 o
structure Np(C:Cx)(it:Addr)(wr:List Addr)(xs:List V)(g:Option Nat)(pat:Bool)(I:Nat→St→Heap→Prop)(Mid:Nat→Value→St→Heap→Prop):Prop where
 keep:∀ i t h t' h',I i t h→Mo t h t' h'→(∀ b∈wr,∀ o,h.get? b=some o→h'.get? b=some o)→I i t' h'
 live:∀ i t h,I i t h→Y7 wr h
 liveM:∀ i r t h,Mid i r t h→Y7 wr h
 self:∀ i t A (s:Shared) (Q:Value→Shared→Prop) (E:Value→Shared→Prop),I i t s.heap→Q (.ref it) s→wpAny (model pw C.w) A (pyIter (.ref it)) Q E s
 next:∀ i A (s:Shared) t (Q:Option Value→Shared→Prop) (E:Value→Shared→Prop),A.handled=none→Y0 C t s.heap→U1 t s.heap→gd g xs t.σ→I i t s.heap →
  (∀ v,xs[i]?=some v→∀ r s',Rk wr s s'→Mid i r t s'.heap→G0 C t s'.heap v r→Q (some r) s') →
  (xs[i]?=none→∀ s',Rk wr s s'→Q none s')→wpAny (model pw C.w) A (pyNext (.ref it)) Q E s
 go:∀ i r A (s:Shared) t (Q:Unit→Shared→Prop) (E:Value→Shared→Prop) target,(pat=true→∃ es k p,target = .Tuple es k p)→Y0 C t s.heap→U1 t s.heap→Mid i r t s.heap →
  (∀ s',Rk wr s s'→I (i+1) t s'.heap→Q () s')→wpAny (model pw C.w) A (letOwnedTupleGo target (.ref it) r) Q E s
set_option tactic.hygienic true in
theorem i9{M:Model}{A:Around}{E:Value→Shared→Prop}{s:Shared}{Q:Unit→Shared→Prop}{target:Expr}{it:Addr}{r:Value}{o:Obj}{n:String}(ho:s.heap.get? it=some o)(hc:o.cls = .type n)
  (hn:["enumerate","zip","dict_itemiterator","dict_reverseitemiterator","odict_iterator","itertools.zip_longest","itertools.pairwise"].contains n=false) (q:Q () s):wpAny M A (letOwnedTupleGo target (.ref it) r) Q E s:=by
 unfold letOwnedTupleGo
 have core:wpAny M A (do
   let (.ref r',.ref a):=((Value.ref it,r):Value×Value)|return
   let o ←load r'
   match o.cls,o.data with
   | .type n,.fields vs =>
    if ["enumerate","zip","dict_itemiterator","dict_reverseitemiterator","odict_iterator","itertools.zip_longest","itertools.pairwise"].contains n&&vs[0]?==some (rawInt a) then
     rule "for.unpacks-the-owned-tuple"
     updateField r' 0 .none
   | _,_=>pure ()) Q E s:=by
  split
  ·rename_i r' a heq
   obtain ⟨h1,h2⟩:=Prod.mk.inj heq
   cases h1
   refine wpAny_bind (wpAny_load ho ?_)
   refine f0 (hc ..) ?_
   split
   ·rename_i n' vs e1 e2
    cases e1
    refine f0 (hn ..) (f0 (Bool.false_and ..) (f0 (if_neg Bool.false_ne_true ..) ?_))
    exact wpAny_pure q
   ·exact wpAny_pure q
  ·exact wpAny_pure q
 split
 ·exact core
 ·exact core
 ·exact wpAny_pure q
theorem j9{o:Obj}{vs:Array Value}(hd:o.data = .fields vs):¬Y4 o:=fun n=>n vs hd
section
variable{C:Cx}{t t':St}{s s':Shared}{wr:List Addr}
theorem G7{it:Addr}{h:Heap}{o:Obj}{vs:Array Value}(ho:h.get? it=some o)(hd:o.data = .fields vs):Y7 [it] h:=fun b hb=>(List.mem_singleton.mp hb).symm▸(C0 o ho (j9 hd))
theorem rk1{it:Addr}{h':Heap}{tk:Nat}(k:∀ b o,b≠it→s.heap.get? b=some o→h'.get? b=some o):Rk [it] s { s with heap:=h',toks:=tk }:=V0 rfl rfl (fun b o hb e=>k b o (fun q=>hb (q ▸ .head _)) e)
theorem Mo.rk(R:Y0 C t s.heap)(O:U1 t s.heap)(nn:Y7 wr s.heap)(r:Rk wr s s'):Mo t s.heap t s'.heap :=
 ⟨fun Z l=>V0 l rfl rfl,fun Z Z Z f=>f,fun b o e n Z=>r.2.2 b o (fun hb=>(nn b hb).elim fun o' z=>z.2 (Option.some.inj (e.symm.trans z.1)▸n)) e,R.nt O⟩
theorem Fe{α:Type}{l:List α}{i:Nat}(e:l[i]?=none):l.length≤i:=List.getElem?_eq_none_iff.mp e
theorem E0.get{h:Heap}{vs:List V}{rs:List Value}(x:E0 C t h vs rs){i:Nat}{v:V}(e:vs[i]?=some v):∃ r,rs[i]?=some r∧G0 C t h v r:=x.nth (Sd e)
theorem E0.off{h:Heap}{vs:List V}{rs:List Value}(x:E0 C t h vs rs){i:Nat}(e:vs[i]?=none):rs[i]?=none:=List.getElem?_eq_none_iff.mpr (x.len.symm▸Fe e)
structure tG(C:Cx)(a:Addr)(xs:List V)(g:Option Nat)(S:St→Heap→Prop):Prop where
 keep:∀ t h t' h',S t h→Mo t h t' h'→S t' h'
 get:∀ t h,Y0 C t h→gd g xs t.σ→S t h→∃ its n,h.get? a=some (listOf its n)∧E0 C t h xs its.toList∧its.size=xs.length
theorem Dw{k:Nat}{a:Addr}{xs:List V}:tG C a xs (some k) fun t h=>t.live k∧t.al k=a where
 keep t h t' h' x m:=⟨(m.lv k x.1).1,(m.lv k x.1).2.1.trans x.2⟩
 get t h R g x:=by
  obtain ⟨_,_,rs,e,_,⟨_,its,n,ho,er,_⟩,vr⟩:∃ K xs' rs,V.a .lst xs = .a K xs'∧K ≠ .tup∧Sh C h (t.al k) (t.dl k) rs .lst∧E0 C t h xs rs:=by
   refine R5 (R.cell k _ g) ?_;(repeat clear _);(repeat clear _);intro _ _ rs e n sh vr
   cases e
   exact X4 _ _ rs rfl n sh vr
  subst er
  exact L1 its n (x.2▸ho) vr vr.len
theorem Un{a:Addr}{xs:List V}:tG C a xs none fun t h=>G0 C t h (.a .lst xs) (.ref a) where
 keep t h t' h' x m:=x.go m _
 get t h R g x:=by
  refine i7 x ?_;(repeat clear x);intro a' _ rs e _ _ xI vr;obtain ⟨_,AI⟩:=xI;refine Z0 AI ?_;(repeat clear AI);intro its n ho er _
  cases e
  subst er
  exact L1 its n ho vr vr.len
theorem oj{it a:Addr}{xs:List V}{g:Option Nat}{S:St→Heap→Prop}(W:tG C a xs g S):Np C it [it] xs g false (fun i t h=>h.IsListIter it a i∧S t h) (fun i Z t h=>h.IsListIter it a (i+1)∧S t h) where
 keep i t h t' h' st m k:=⟨let ⟨o,ho,r⟩:=st.1;(C0 o (k it (.head _) o ho) r),W.keep _ _ _ _ st.2 m⟩
 live i t h st:=let ⟨o,ho,hc,hd⟩:=st.1;G7 ho hd
 liveM i r t h st:=let ⟨o,ho,hc,hd⟩:=st.1;G7 ho hd
 self i t A s Q E st q:=wpAny_pyIter_listiter st.1 q
 next i A s t Q E hh R O g st q1 q2:=by
  refine Z0 (W.get _ _ R g st.2) fun its k ho vr hl=>?_
  have nn:Y7 [it] s.heap:=let ⟨o,ho,hc,hd⟩:=st.1;G7 ho hd
  cases e:xs[i]? with
  | some v =>
   refine A0 (vr.get e) fun r er vv=>?_
   rw [Array.getElem?_toList] at er
   refine wpAny_pyNext_list_item st.1 (Q3 ho) er fun h' hit' hs'=>?_
   have X:Rk [it] s { s with heap:=h' }:=rk1 (tk:=s.toks) fun b o hb e=>(hs'.2 b hb).trans e
   have m:=Mo.rk R O nn X
   exact q1 v e r _ X ⟨hit',W.keep _ _ _ _ st.2 m⟩ (vv.go m v)
  | none =>
   have er:=vr.off e
   rw [Array.getElem?_toList] at er
   exact wpAny_pyNext_list_end hh st.1 (Q3 ho) er fun h' hs'=>q2 e _ (rk1 (tk:=s.toks) fun b o hb e=>hs' b o hb e)
 go i r A s t Q E target _ R O st q:=by
  refine F1 (id st.1) fun o ho hc hd=>?_
  exact i9 ho hc (by decide) (q s (V0 rfl rfl (fun Z Z Z e=>e)) st)
theorem Ew{it a:Addr}{xs:List V}:Np C it [it] xs none false (fun i t h=>h.IsTupleIter it a i∧G0 C t h (.a .tup xs) (.ref a)) (fun i Z t h=>h.IsTupleIter it a (i+1)∧G0 C t h (.a .tup xs) (.ref a)) where
 keep i t h t' h' st m k:=⟨let ⟨o,ho,r⟩:=st.1;(C0 o (k it (.head _) o ho) r),st.2.go m _⟩
 live i t h st:=let ⟨o,ho,hc,hd⟩:=st.1;G7 ho hd
 liveM i r t h st:=let ⟨o,ho,hc,hd⟩:=st.1;G7 ho hd
 self i t A s Q E st q:=wpAny_pyIter_tupleiter st.1 q
 next i A s t Q E hh R O g st q1 q2:=by
  refine O8 st.2.d.tup fun a' its e ht vr hl Z=>?_
  cases e
  refine F1 ht ?_;(repeat clear ht);intro o ho hc vI;obtain ⟨m,hd⟩:=vI
  have ht:s.heap.IsTuple a its:=A2 o ho hc ⟨m,hd⟩
  have nn:Y7 [it] s.heap:=let ⟨o,ho,hc,hd⟩:=st.1;G7 ho hd
  cases e:xs[i]? with
  | some v =>
   refine A0 (vr.get e) fun r er vv=>?_
   rw [Array.getElem?_toList] at er
   refine wpAny_pyNext_tuple_item st.1 ht er fun h' hit' hs'=>?_
   have X:Rk [it] s { s with heap:=h' }:=rk1 (tk:=s.toks) fun b o hb e=>(hs'.2 b hb).trans e
   have m:=Mo.rk R O nn X
   exact q1 v e r _ X ⟨hit',st.2.go m _⟩ (vv.go m v)
  | none =>
   have er:=vr.off e
   rw [Array.getElem?_toList] at er
   exact wpAny_pyNext_tuple_end hh st.1 ht er fun h' hs'=>q2 e _ (rk1 (tk:=s.toks) fun b o hb e=>hs' b o hb e)
 go i r A s t Q E target _ R O st q:=by
  refine F1 (id st.1) fun o ho hc hd=>?_
  exact i9 ho hc (by decide) (q s (V0 rfl rfl (fun Z Z Z e=>e)) st)
theorem Ll(x:Str):["enumerate","zip","dict_itemiterator","dict_reverseitemiterator","odict_iterator","itertools.zip_longest","itertools.pairwise"].contains (strIterType x)=false:=by
 unfold strIterType
 split<;>decide
set_option tactic.hygienic true in
theorem Fw{it:Addr}(x:Str)(tx:Tok):Np C it [it] (G5 x) none false (fun i Z h=>h.IsStrIter it (strIterType x) x tx i) (fun i Z Z h=>h.IsStrIter it (strIterType x) x tx (i+1)) where
 keep i t h t' h' st m k:=let ⟨o,ho,r⟩:=st;(C0 o (k it (.head _) o ho) r)
 live i t h st:=let ⟨o,ho,hc,hd⟩:=st;G7 ho hd
 liveM i r t h st:=let ⟨o,ho,hc,hd⟩:=st;G7 ho hd
 self i t A s Q E st q:=by
  unfold strIterType at st
  split at st
  ·exact wpAny_pyIter_striter_ascii st q
  ·exact wpAny_pyIter_striter_wide st q
 next i A s t Q E hh R O g st q1 q2:=by
  cases e:(G5 x)[i]? with
  | some v =>
   refine A0 (gg (Sd e)) ?_;intro c ec tI;obtain rfl:=tI
   have K5:∀ h',h'.IsStrIter it (strIterType x) x tx (i+1)→Heap.SameBut it s.heap h'→Q (some (.str ⟨#[c]⟩ s.toks)) { s with heap:=h',toks:=s.toks+1 }:=fun h' hit' hs' =>
    q1 _ e _ _ (rk1 (tk:=s.toks+1) fun b o hb e=>(hs'.2 b hb).trans e) hit' ⟨_,rfl⟩
   have st':=st
   unfold strIterType at st' K5
   split at st'
   ·rename_i hx
    simp only [hx,if_true] at K5
    exact wpAny_pyNext_ascii_item st' ec K5
   ·rename_i hx
    simp only [hx] at K5
    exact wpAny_pyNext_wide_item st' ec K5
  | none =>
   have ec:x.cps[i]?=none:=Array.getElem?_eq_none (by have:=Fe e;rw [I5] at this;exact this)
   have K5:∀ h',Heap.ExtBut it s.heap h'→Q none { s with heap:=h' }:=fun h' hs'=>q2 e _ (rk1 (tk:=s.toks) fun b o hb e=>hs' b o hb e)
   have st':=st
   unfold strIterType at st'
   split at st'
   ·exact wpAny_pyNext_ascii_end hh st' ec K5
   ·exact wpAny_pyNext_wide_end hh st' ec K5
 go i r A s t Q E target _ R O st q:=by
  refine F1 (id st) fun o ho hc hd=>?_
  exact i9 ho hc (Ll x) (q s (V0 rfl rfl (fun Z Z Z e=>e)) st)
set_option tactic.hygienic true in
theorem qg{a b:Int}{i:Nat}:(L4 a b)[i]?=if i<(b - a).toNat then some (.int (a+i)) else none:=by
 unfold L4
 rw [List.getElem?_map]
 split
 ·rename_i h;rw [List.getElem?_range h];rfl
 ·rename_i h;rw [List.getElem?_eq_none (by refine f0 (List.length_range ..) ?_;exact Nat.not_lt.mp h)];rfl
theorem Pp{it:Addr}(a b:Int):Np C it [it] (L4 a b) none false (fun i Z h=>IsRangeIter h it (a+i) ((b - a).toNat - i) 1) (fun i Z Z h=>IsRangeIter h it (a+(i+1:Nat)) ((b - a).toNat - (i+1:Nat)) 1) where
 keep i t h t' h' st m k:=k it (.head _) _ st
 live i t h st:=G7 st rfl
 liveM i r t h st:=G7 st rfl
 self i t A s Q E st q:=wpAny_pyIter_rangeiter st q
 next i A s t Q E hh R O g st q1 q2:=by
  by_cases h:i<(b - a).toNat
  ·refine wpAny_pyNext_range_item st (by omega) fun h' hit' hs'=>?_
   refine q1 (.int (a+i)) (by exact f0 (qg ..) (f0 (if_pos h ..) rfl)) _ _ (rk1 (tk:=s.toks+1) fun b o hb e=>(hs'.2 b hb).trans e) ?_ ⟨_,rfl⟩
   have e1:a+(i:Int)+1=a+(i+1:Nat):=by omega
   have e2:((b - a).toNat:Int) - (i:Int) - 1=(b - a).toNat - (i+1:Nat):=by omega
   rw [e1,e2] at hit'
   exact hit'
  ·exact wpAny_pyNext_range_end hh st (by omega) fun h' hs'=>q2 (by exact f0 (qg ..) (f0 (if_neg h ..) rfl)) _ (rk1 (tk:=s.toks) fun b o hb e=>hs' b o hb e)
 go i r A s t Q E target _ R O st q:=i9 st rfl (by decide) (q s (V0 rfl rfl (fun Z Z Z e=>e)) st)
theorem pj{xs:List V}{i:Nat}:(qb xs)[i]?=(xs[i]?).map fun v => .a .tup [.int i,v]:=by
 unfold qb
 rw [List.getElem?_map,List.getElem?_zipIdx]
 cases xs[i]?<;>simp
theorem qj{e it0:Addr}(ne:e≠it0){xs:List V}{I0:Nat→St→Heap→Prop}(keepI:∀ i t h t' h',I0 i t h→Mo t h t' h'→(∀ o,h.get? it0=some o→h'.get? it0=some o)→I0 i t' h')
  (liveI:∀ i t h,I0 i t h→i≤xs.length∧∃ o,h.get? it0=some o∧¬Y4 o)
  (dr:∀ (A:Around) (s:Shared) t,A.handled=none→Y0 C t s.heap→(∃ o,s.heap.get? e=some o∧¬Y4 o)→(∃ o,s.heap.get? it0=some o∧¬Y4 o)→∀ i,I0 i t s.heap→∃ fp P St,Draws pw C.w A.in1 it0 fp xs.length P St∧e∉fp∧St i s.heap∧(∀ j h',j≤xs.length→St j h'→Mo t s.heap t h'→I0 j t h') ∧
   (∀ j x,P j x→∃ v,xs[j]?=some v∧G0 C t s.heap v x)) :
  Np C e [e,it0] (qb xs) none true (fun i t h=>(∃ old,IsEnum h e it0 i old)∧I0 i t h) (fun i r t h=>(∃ x T,IsEnumOut h e it0 ((i:Int)+1) x T∧r = .ref T)∧I0 (i+1) t h) where
 keep i t h t' h' st m k:=⟨let ⟨old,x⟩:=st.1;⟨old,k e (.head _) _ x⟩,keepI _ _ _ _ _ st.2 m (k it0 (.tail _ (.head _)))⟩
 live i t h st b hb:=by
  rcases List.mem_cons.mp hb with rfl|hb
  ·obtain ⟨old,x⟩:=st.1;exact C0 _ x (j9 rfl)
  ·refine f0 (List.mem_singleton.mp hb ..) ?_;exact (liveI _ _ _ st.2).2
 liveM i r t h st b hb:=by
  rcases List.mem_cons.mp hb with rfl|hb
  ·refine Y1 st.1 fun x T y Z=>?_;exact C0 _ y (j9 rfl)
  ·refine f0 (List.mem_singleton.mp hb ..) ?_;exact (liveI _ _ _ st.2).2
 self i t A s Q E st q:=let ⟨old,x⟩:=st.1;wpAny_pyIter_enum x q
 next i A s t Q E hh R O g st q1 q2:=by
  obtain ⟨DI,si⟩:=st;obtain ⟨old,he⟩:=DI
  obtain ⟨hle,l0⟩:=liveI _ _ _ si
  refine i7 (dr A s t hh R (C0 _ he (j9 rfl)) l0 i si) fun fp P St Dr hef hst Gc hP=>?_
  have nn:Y7 [e,it0] s.heap:=fun b hb=>by
   rcases List.mem_cons.mp hb with rfl|hb
   ·exact C0 _ he (j9 rfl)
   ·refine f0 (List.mem_singleton.mp hb ..) ?_;exact l0
  by_cases h:i<xs.length
  ·refine wpAny_pyNext_enum_itemD Dr he hst h ne hef fun x h' tk hp ho hs' hT hsz hk=>?_
   have X:Rk [e,it0] s { s with heap:=h',toks:=tk+1 }:=V0 rfl rfl (fun b o hb e=>hk b o (fun q=>hb (q ▸ .head _)) (fun q=>hb (q ▸ .tail _ (.head _))) e)
   have m:=Mo.rk R O nn X
   refine A0 (hP _ _ hp) fun v ev vr=>?_
   have fT:=R.fresh O (M2 s.heap (Nat.le_refl _))
   exact q1 (.a .tup [.int i,v]) (by refine f0 (pj ..) (f0 (ev ..) ?_);rfl) _ _ X ⟨(W4 _ _ ho rfl),Gc _ _ h hs' m⟩ (W8 _ _ [.int i tk,x] rfl fT fT ⟨rfl,_,(A2 _ hT rfl ⟨_,rfl⟩),rfl,show 2≤1000000 by decide⟩ (E0.two (u := .int i) ⟨tk,rfl⟩ (vr.go m v)))
  ·have hi:i=xs.length:=Nat.le_antisymm hle (Nat.not_lt.mp h)
   subst hi
   exact wpAny_pyNext_enum_endD Dr he hst fun h' hs'=>q2 (by rw [pj,List.getElem?_eq_none (Nat.le_refl _)];rfl) _ (V0 rfl rfl (fun b o hb e=>hs' b o (fun q=>hb (q ▸ .tail _ (.head _))) e))
 go i r A s t Q E target hp R O st q:=by
  obtain ⟨FI,si⟩:=st;refine Y1 FI ?_;(repeat clear FI);intro x T ho JI;obtain rfl:=JI
  refine JC (hp rfl) ?_;intro es k p rI;obtain rfl:=rI
  have l0:=(liveI _ _ _ si).2
  refine wpAny_letOwnedTupleGo_enum ho fun h' he' hs'=>?_
  have X:Rk [e,it0] s { s with heap:=h' }:=V0 rfl rfl (fun b o hb e=>(hs'.2 b fun q=>hb (q ▸ .head _)).trans e)
  have m:=Mo.rk R O (fun b hb=>by
   rcases List.mem_cons.mp hb with rfl|hb
   ·exact C0 _ ho (j9 rfl)
   ·refine f0 (List.mem_singleton.mp hb ..) ?_;exact l0) X
  exact q _ X ⟨⟨_,he'⟩,keepI _ _ _ _ _ si m fun o e=>(hs'.2 it0 (Ne.symm ne)).trans e⟩
theorem Hf{e it0 a:Addr}(ne:e≠it0)(xs:List V):Np C e [e,it0] (qb xs) none true (fun i t h=>(∃ old,IsEnum h e it0 i old)∧h.IsListIter it0 a i∧i≤xs.length∧G0 C t h (.a .lst xs) (.ref a))
  (fun i r t h=>(∃ x T,IsEnumOut h e it0 ((i:Int)+1) x T∧r = .ref T)∧h.IsListIter it0 a (i+1)∧i+1≤xs.length∧G0 C t h (.a .lst xs) (.ref a)) :=
 qj (I0:=fun i t h=>h.IsListIter it0 a i∧i≤xs.length∧G0 C t h (.a .lst xs) (.ref a)) ne (fun i t h t' h' st m k=>V0 (let ⟨o,ho,r⟩:=st.1;(C0 o (k o ho) r)) st.2.1 (st.2.2.go m _)) (fun i t h st=>⟨st.2.1,let ⟨o,ho,hc,hd⟩:=st.1;(C0 o ho (j9 hd))⟩)
  fun A s t hh R re r0 i st=>by
   refine Z0 (Un.get t s.heap R trivial st.2.2) fun its n ho vr hl=>?_
   have na:∀ {b},(∃ o,s.heap.get? b=some o∧¬Y4 o)→b≠a:=fun x q=>x.elim fun o z=>z.2 (by rw [q,ho] at z;obtain rfl:=Option.some.inj (z.1);exact J4 rfl)
   have Dr:=Draws.list (prog:=pw) (w:=C.w) (A:=A.in1) hh it0 a (na r0).symm its
   rw [hl] at Dr
   refine W8 _ _ _ Dr ?_ ⟨st.1,Q3 ho⟩ (fun j h' hj st' m=>V0 st'.1 hj (st.2.2.go m _)) (fun j x hx=>?_)
   ·intro hm
    rcases List.mem_cons.mp hm with q|hm
    ·exact ne q
    ·exact na re (List.mem_singleton.mp hm)
   ·have hx:its[j]?=some x:=hx
    rw [←Array.getElem?_toList] at hx
    cases q:xs[j]? with
    | some v =>
     refine A0 (vr.get q) fun r er vv=>?_
     obtain rfl:=Option.some.inj (hx.symm.trans er)
     exact C0 v rfl vv
    | none=>exact Q5 (vr.off q) hx
theorem Lh{e it0:Addr}(ne:e≠it0)(x:Str)(tx:Tok):Np C e [e,it0] (qb (G5 x)) none true (fun i t h=>(∃ old,IsEnum h e it0 i old)∧h.IsStrIter it0 (strIterType x) x tx i∧i≤(G5 x).length)
  (fun i r t h=>(∃ y T,IsEnumOut h e it0 ((i:Int)+1) y T∧r = .ref T)∧h.IsStrIter it0 (strIterType x) x tx (i+1)∧i+1≤(G5 x).length) :=
 qj (I0:=fun i t h=>h.IsStrIter it0 (strIterType x) x tx i∧i≤(G5 x).length) ne (fun i t h t' h' st m k=>⟨let ⟨o,ho,r⟩:=st.1;(C0 o (k o ho) r),st.2⟩) (fun i t h st=>⟨st.2,let ⟨o,ho,hc,hd⟩:=st.1;(C0 o ho (j9 hd))⟩)
  fun A s t hh R re r0 i st=>by
   have hP:∀ (j:Nat) (y:Value),(∃ (c:Nat) (u:Tok),x.cps[j]?=some c∧y = .str ⟨#[c]⟩ u)→∃ v,(G5 x)[j]?=some v∧G0 C t s.heap v y:=by
    rintro j y ⟨c,u,ec,rfl⟩
    refine C0 (.str ⟨#[c]⟩) ?_ ⟨u,rfl⟩
    unfold G5
    rw [List.getElem?_map,Array.getElem?_toList,ec]
    rfl
   have hl:x.cps.size=(G5 x).length:=by refine f0 (I5 ..) ?_;rfl
   have hne:e∉[it0]:=fun hm=>ne (List.mem_singleton.mp hm)
   obtain ⟨st1,st2⟩:=st
   by_cases ha:x.cps.all (·<128)=true
   ·have e1:strIterType x="str_ascii_iterator":=by unfold strIterType;exact f0 (if_pos ha ..) rfl
    rw [e1] at st1 ⊢
    have Dr:=Draws.strAscii (prog:=pw) (w:=C.w) (A:=A.in1) hh it0 x tx
    rw [hl] at Dr
    exact W8 _ _ _ Dr hne st1 (fun j h' hj st' Z=>⟨st',hj⟩) hP
   ·have e1:strIterType x="str_iterator":=by unfold strIterType;exact f0 (if_neg ha ..) rfl
    rw [e1] at st1 ⊢
    have Dr:=Draws.strWide (prog:=pw) (w:=C.w) (A:=A.in1) hh it0 x tx
    rw [hl] at Dr
    exact W8 _ _ _ Dr hne st1 (fun j h' hj st' Z=>⟨st',hj⟩) hP
end
open PySem.Calls
section
variable{w:World}{A:Around}{E:Value→Shared→Prop}{s:Shared}{d it v:Addr}{des:List DictEntry}{ep i:Nat}
theorem Qp{Q:Value→Shared→Prop}(hd:(d==sysModules)=false)(ho:s.heap.get? d=some (dictOf des ep))
  (q:Q (.ref s.heap.objs.size) { s with heap:=s.heap.push { cls := .type "dict_values",data := .fields #[.ref d] } }):wpAny (model pw w) A (call (.builtin "dict.values") [.ref d]) Q E s:=by
 have hT:s.TypeIs (.ref d) "dict":=C0 _ ho rfl
 refine wpAny_call_entry PySem.F.slot_dict_values hT PySem.F.entry_dict_values ?_ (PySem.F.args_dict_values_1 _)
 refine wpAny_bind ?_
 unfold Builtin.Dict.noArgs
 refine wpAny_bind (wpAny_notOrdered_dict hT ?_)
 refine wpAny_pure ?_
 show wpAny _ _ (Builtin.Dict.showsAll d >>= _) _ _ s
 unfold Builtin.Dict.showsAll
 refine f0 (if_neg (by rw [hd];exact Bool.false_ne_true) ..) ?_
 refine wpAny_bind (wpAny_pure ?_)
 exact wpAny_bind (wpAny_newObj_type (wpAny_pure (C0 _ rfl q)))
theorem Rp{Q:Value→Shared→Prop}(hv:s.heap.IsValuesView v d)(ho:s.heap.get? d=some (dictOf des ep))
  (q:Q (.ref s.heap.objs.size) { s with heap:=s.heap.push { cls := .type "dict_valueiterator",data := .fields #[.ref d,.int 0 0,.int des.length 0,.int ep 0] } }):wpAny (model pw w) A (pyIter (.ref v)) Q E s:=by
 refine F1 (id hv) fun ov hov hcv hdv=>?_
 refine wpAny_pyIter_slot hv.typeIs F.slot_dict_values_iter (wpAny_call_entry F.slot_dict_values_iter hv.typeIs F.entry_dict_values_iter ?_ (F.args_dict_values_iter_1 _))
 unfold Builtin.«dict_values.__iter__»
 refine wpAny_bind (wpAny_pure (wpAny_bind ?_))
 unfold Builtin.Dict_items.dictOf
 refine wpAny_bind (wpAny_field hov hdv (x := .ref d) rfl (wpAny_pure (wpAny_bind ?_)))
 unfold Builtin.Dict_items.newIterator
 refine wpAny_bind (wpAny_dictEntries ho rfl (wpAny_bind (wpAny_dictEpoch ho rfl ?_)))
 have hown:Builtin.Dict_items.ownsTuple "dict_valueiterator"=false:=by decide
 simp only [hown,Bool.false_eq_true,if_false]
 refine wpAny_newObj_type (wpAny_pure (C0 _ rfl ⟨"dict_valueiterator",_,(C0 _ (Heap.get?_push_size _ rfl) rfl),F.slot_dict_valueiterator_next.lookup,?_⟩))
 simpa [rawInt] using q
theorem Sp{Q:Option Value→Shared→Prop}(hh:A.handled=none)(hit:s.heap.IsValIter it d i des.length ep)(ho:s.heap.get? d=some (dictOf des ep))
  (q1:∀ x,des[i]?=some x→∀ h',h'.IsValIter it d (i+1) des.length ep→Heap.SameBut it s.heap h'→Q (some x.val) { s with heap:=h' })
  (q2:des[i]?=none→∀ h',Heap.ExtBut it s.heap h'→Q none { s with heap:=h' }):wpAny (model pw w) A (pyNext (.ref it)) Q E s:=by
 refine F1 (id hit) fun o hit0 hc hd=>?_
 unfold pyNext
 refine wpAny_bind (wpAny_attempt (wpAny_callSpecial?_slot (name:=Str.ofString "__next__") hit.typeIs F.slot_dict_valueiterator_next
  (wpAny_call_entry F.slot_dict_valueiterator_next hit.typeIs F.entry_dict_valueiterator_next ?_ (F.args_dict_valueiterator_next_1 _))))
 refine wpAny_bind (wpAny_pure (wpAny_bind (wpAny_bind (wpAny_bind ?_))))
 refine wpAny_typeNameOfWhole_valiter hit.typeIs (wpAny_pure (wpAny_bind (wpAny_fieldsOf hit0 hd ?_)))
 have hown:Builtin.Dict_items.ownsTuple "dict_valueiterator"=false:=by decide
 simp only [hown,Bool.false_eq_true,if_false]
 show wpAny _ _ (if (Value.ref d==Value.none)=true then _ else _) _ _ s
 refine f0 (if_neg (show ¬((Value.ref d==Value.none)=true) from Bool.false_ne_true) ..) ?_
 refine wpAny_bind (wpAny_pure (wpAny_bind (wpAny_dictEntries ho rfl ?_)))
 refine f0 (if_neg (by simp) ..) ?_
 refine wpAny_bind (wpAny_pure (wpAny_bind (wpAny_dictEpoch ho rfl ?_)))
 refine f0 (if_neg (by simp) ..) ?_
 refine wpAny_pure ?_
 simp only [show ¬((i:Int)<0) from by omega,if_false,Int.toNat_natCast]
 cases hx:des[i]? with
 | some x =>
  have hxa:(des.toArray)[i]?=some x:=by simpa using hx
  simp only [hxa]
  refine wpAny_bind (wpAny_bind ?_)
  refine wpAny_typeNameOfWhole_valiter hit.typeIs (wpAny_pure ?_)
  refine wpAny_bind (wpAny_isOneOf_valiter hit.typeIs ?_)
  show wpAny _ _ (setField (.ref it) 1 (rawInt ((i:Int)+1)) >>= _) _ _ s
  refine wpAny_bind (wpAny_setField hit0 hd (by simp) ?_)
  have hit':(s.heap.update it (Obj.mapFields (·.setIfInBounds 1 (rawInt ((i:Int)+1))))).IsValIter it d (i+1) des.length ep :=
   (A2 _ (Heap.get?_update_self _ hit0 (Obj.isFreed_of_fields (Obj.data_mapFields hd _))) ((Obj.cls_mapFields ..).trans hc) (by refine f0 (Obj.data_mapFields hd ..) ?_;simp [rawInt]))
  refine wpAny_bind (wpAny_holding ?_)
  refine wpAny_bind (wpAny_isOneOf_valiter (s:={ s with heap:=s.heap.update it (Obj.mapFields (·.setIfInBounds 1 (rawInt ((i:Int)+1)))) }) hit'.typeIs ?_)
  refine wpAny_bind (wpAny_isOneOf_valiter (s:={ s with heap:=s.heap.update it (Obj.mapFields (·.setIfInBounds 1 (rawInt ((i:Int)+1)))) }) hit'.typeIs ?_)
  show wpAny _ _ (pure x.val) _ _ _
  exact wpAny_pure (wpAny_pure (C0 _ rfl (wpAny_pure (q1 x hx _ hit' (Heap.SameBut.update ..)))))
 | none =>
  have hxa:(des.toArray)[i]?=none:=by simpa using hx
  simp only [hxa]
  refine wpAny_bind (wpAny_bind ?_)
  refine wpAny_typeNameOfWhole_valiter hit.typeIs (wpAny_pure ?_)
  show wpAny _ _ (setField (.ref it) 0 .none >>= _) _ _ s
  refine wpAny_bind (wpAny_setField hit0 hd (by simp) ?_)
  show wpAny _ _ (newExc (.type "StopIteration") [] >>= _) _ _ _
  refine wpAny_bind ?_
  simp only [newExc,newTuple]
  refine wpAny_bind (wpAny_newObj_type ?_ (by size_fits))
  refine wpAny_bind (m:=firstArgMember _ _) (wpAny_of_eq (a:=Value.none) (by first|rfl|(simp only [firstArgMember];rfl)) ?_)
  refine wpAny_newObj_type ?_ (by size_fits)
  simp only [raiseNew]
  refine wpAny_bind (wpAny_handled ?_)
  refine f0 (show A.in1.handled=none from hh) ?_
  refine wpAny_bind (wpAny_pure (wpAny_throw ?_))
  refine wpAny_bind (wpAny_isInstance (T:="StopIteration") (b:=true) (C0 _ (Heap.get?_push_size _ rfl) rfl) isSubtype_stop ?_)
  exact wpAny_pure (q2 hx _ (((Heap.SameBut.update ..).extBut.push _).push _))
end
section
variable{C:Cx}{t t':St}{s s':Shared}{wr:List Addr}
theorem Ge{w:World}:∀ {des:List DictEntry} {kvs:List (Str×Value)},Pairs (strKind pw w) des kvs→des.map (·.val)=kvs.map (·.2)
 | _,_,.nil=>rfl
 | _,_,.cons _ hv ps=>by exact f0 (List.map_cons ..) (f0 (List.map_cons ..) (f0 (hv ..) (f0 (Ge ps ..) rfl)))
theorem He{o:Obj}{es:Array DictEntry}{n:Nat}(x:o.ExactDict)(hd:o.data = .dict es n):o=dictOf es.toList n:=by
 obtain ⟨oc,od,odt,os⟩:=o
 refine i4 x ?_;(repeat clear x);intro e1 e2 e3
 dsimp only at e1 e2 e3 hd
 subst e1;subst e2;subst e3;subst hd
 rfl
theorem Sh.des{h:Heap}{a d:Addr}{rs:List Value}{K:Ag}(x:Sh C h a d rs K)(hK:(∃ ss,K = .ds ss)∨∃ kk,K = .dt kk):(a==sysModules)=false∧∃ des n,h.get? a=some (dictOf des n)∧des.map (·.val)=rs:=by
 rcases hK with ⟨ss,rfl⟩|⟨kk,rfl⟩
 ·refine i4 x ?_;(repeat clear x);intro _ ns fJ;refine F1 fJ ?_;(repeat clear fJ);intro kvs FI _ e;refine Qi FI ?_;(repeat clear FI);intro o es n ho hx hd _ ps _
  exact ⟨ns,es.toList,n,He hx hd▸ho,(Ge ps).trans e⟩
 ·refine i4 x ?_;(repeat clear x);intro _ ns dJ;refine F1 dJ ?_;(repeat clear dJ);intro xs JI _ e;refine i7 JI ?_;(repeat clear JI);intro o es n ho hx hd q _
  refine ⟨ns,es.toList,n,He hx hd▸ho,?_⟩
  refine f0 (q ..) (f0 (List.map_map ..) ?_)
  exact e
theorem Ls{it a:Addr}{xs:List V}{des:List DictEntry}{n:Nat}:Np C it [it] xs none false (fun i t h=>h.IsValIter it a i des.length n∧h.get? a=some (dictOf des n)∧¬t.foot a∧E0 C t h xs (des.map (·.val))) (fun i Z t h=>h.IsValIter it a (i+1) des.length n∧h.get? a=some (dictOf des n)∧¬t.foot a∧E0 C t h xs (des.map (·.val))) where
 keep i t h t' h' st m k:=E3 (let ⟨o,ho,r⟩:=st.1;(C0 o (k it (.head _) o ho) r)) (m.kp _ _ st.2.1 (U2 rfl) st.2.2.1) (fun f=>st.2.2.1 (m.ft _ _ st.2.1 f)) (st.2.2.2.go m xs)
 live i t h st:=let ⟨o,ho,hc,hd⟩:=st.1;G7 ho hd
 liveM i r t h st:=let ⟨o,ho,hc,hd⟩:=st.1;G7 ho hd
 self i t A s Q E st q:=wpAny_pyIter_valiter st.1 q
 next i A s t Q E hh R O g st q1 q2:=by
  refine R7 st ?_;(repeat clear st);intro si ho nf vr
  have nn:Y7 [it] s.heap:=let ⟨o,ho,hc,hd⟩:=si;G7 ho hd
  refine Sp hh si ho (fun x hx h' hit' hs'=>?_) fun hx h' hs'=>?_
  ·have X:Rk [it] s { s with heap:=h' }:=rk1 (tk:=s.toks) fun b o hb e=>(hs'.2 b hb).trans e
   have m:=Mo.rk R O nn X
   have hx':(des.map (·.val))[i]?=some x.val:=by rw [List.getElem?_map,hx];rfl
   cases q:xs[i]? with
   | none=>exact Q5 (vr.off q) hx'
   | some v =>
    refine A0 (vr.get q) fun r er vv=>?_
    obtain rfl:=Option.some.inj (hx'.symm.trans er)
    exact q1 v q _ _ X (E3 hit' (m.kp _ _ ho (U2 rfl) nf) nf (vr.go m xs)) (vv.go m v)
  ·refine q2 ?_ _ (rk1 (tk:=s.toks) fun b o hb e=>hs' b o hb e)
   have:=Fe hx
   exact List.getElem?_eq_none_iff.mpr (by refine P5 (vr.len ..) (f0 (List.length_map ..) ?_);exact this)
 go i r A s t Q E target _ R O st q:=by
  refine F1 (id st.1) fun o ho hc hd=>?_
  exact i9 ho hc (by decide) (q s (V0 rfl rfl (fun Z Z Z e=>e)) st)
end
section
variable{B:Bk}{K:Fr}{t t' t'':St}{s s' s'':Shared}{pos p p2 ap:Pos}
noncomputable def Ml(B:Bk)(t:St)(s:Shared)(pat:Bool)(Q:List V→Option Nat→y0→Prop)(itv:Value)(s2:Shared):Prop :=
 ∃ t' it wr xs g I Mid,itv = .ref it∧O3 B.C no t s t' s2∧Np B.C it wr xs g pat I Mid∧(∀ b∈wr,s.heap.get? b=none)∧I 0 t' s2.heap∧db xs.length∧Q xs g t'.σ
noncomputable def IK.pat:IK→Bool
 | .enum=>true
 | _=>false
noncomputable def SI(B:Bk)(e:Expr)(ik:IK)(q:E):Prop:=∀ K t s Q,W0 B K t s→(w5 B.L.f K.X q K.ρ t.σ fun l σ=>uD ik l σ fun xs g=>Q xs g σ) →
 Wp B K t s (eval e K.en) (fun xv s1=>Wp B K t s (pyIter xv) (Ml B t s ik.pat Q) s1) s
theorem sg{s₀ s:Shared}(k:∀ b o,s₀.heap.get? b=some o→∃ o',s.heap.get? b=some o'){b:Addr}(h:s.heap.objs.size≤b):s₀.heap.get? b=none:=by
 cases e:s₀.heap.get? b with
 | none=>rfl
 | some o=>obtain ⟨o',e'⟩:=k b o e;exact Q5 (M2 _ h) e'
theorem P9{h1:W0 B K t s}{x:O3 B.C no t s t' s'}{o:Obj}{xs:List V}{g:Option Nat}{I:Nat→St→Heap→Prop}{Mid:Nat→Value→St→Heap→Prop}{Q:List V→Option Nat→y0→Prop}(W:Np B.C s'.heap.objs.size [s'.heap.objs.size] xs g false I Mid)
  (st:I 0 t' (s'.heap.push o)) (hb:db xs.length) (q:Q xs g t'.σ):Ml B t s false Q (.ref s'.heap.objs.size) { s' with heap:=s'.heap.push o }:=by
 have h':=h1.ext x
 exact Dz t' _ _ xs g I Mid rfl (x.trans (F6 h'.rel h'.own o)) W (fun b hb=>by refine f0 (List.mem_singleton.mp hb ..) ?_;exact sg x.tr.alive (Nat.le_refl _)) st hb q
theorem xA{e:Expr}{q:E}(he:SE B e q):SI B e .val q:=fun K t s Q h q=>WE.go h h.refl (he K t s _ h q) fun t' s' u r h' x Z vu q=>by
 have m1:∀ o,Mo t' s'.heap t' (s'.heap.push o):=fun o=>h'.mo (F6 h'.rel h'.own o)
 induction u using V.casesOn with
 | ref k =>
  refine A0 (D6 (show oP (A1 t'.σ k) _ from q)) ?_;(repeat clear q);intro c ec q
  refine A0 (aj q) ?_;(repeat clear q);intro xs bJ q;obtain rfl:=bJ
  refine R5 (h'.rel.cell k _ ec) ?_;(repeat clear _);(repeat clear _);(repeat clear _);intro _ _ rs e2 _ sh vr
  cases e2
  obtain ⟨_,NI⟩:=sh;refine Z0 NI ?_;(repeat clear NI);intro its n ho er hl
  obtain rfl:=vu.2
  exact wpAny_pyIter_list (Q3 ho) (P9 (h1:=h) (x:=x) (g:=some k) (oj Dw) (V0 (A2 _ (Heap.get?_push_size _ rfl) rfl rfl) vu.1 rfl) (vr.len▸hl) q)
 | str y =>
  obtain ⟨tk,rfl⟩:=vu
  obtain ⟨hb,q⟩:=S5 q
  exact wpAny_pyIter_strU (P9 (h1:=h) (x:=x) (Fw y tk) (A2 _ (Heap.get?_push_size _ rfl) rfl rfl) (by refine f0 (I5 ..) ?_;exact hb) q)
 | a A xs=>induction A using Ag.casesOn with
  | lst =>
   refine i7 vu.d.lst ?_;intro a its n ZI ho _ _ hb;obtain rfl:=ZI
   exact wpAny_pyIter_list (Q3 ho) (P9 (h1:=h) (x:=x) (oj Un) ⟨(A2 _ (Heap.get?_push_size _ rfl) rfl rfl),vu.go (m1 _) _⟩ hb q)
  | tup =>
   refine O8 vu.d.tup ?_;intro a its VI XI _ _ hb;obtain rfl:=VI;refine F1 XI ?_;(repeat clear XI);intro o ho hc PI;obtain ⟨m,hd⟩:=PI
   exact wpAny_pyIter_tuple (A2 o ho hc ⟨m,hd⟩) (P9 (h1:=h) (x:=x) Ew ⟨(A2 _ (Heap.get?_push_size _ rfl) rfl rfl),vu.go (m1 _) _⟩ hb q)
  | _=>exact False.elim q
 | _=>exact False.elim q
theorem Ie{a b:Int}:Builtin.Range.rangeSize a b 1=(b - a).toNat:=by
 unfold Builtin.Range.rangeSize
 refine f0 (if_pos (by decide) ..) ?_
 split
 ·refine f0 (Int.ediv_one ..) ?_;omega
 ·omega
theorem ba{p q:Bool}(h:p=true)(k:q=true):(p&&q)=true:=Bool.and_eq_true_iff.mpr ⟨h,k⟩
theorem zF{x:Int}(h:x.natAbs≤2000000):(decide (-2 ^ 63≤x)&&decide (x<2 ^ 63))=true:=ba (decide_eq_true (by omega)) (decide_eq_true (by omega))
theorem rj{a b:Int}(h1:a.natAbs≤1000000)(h3:b.natAbs≤1000000):Builtin.Range.small a b 1=true:=by
 unfold Builtin.Range.small Builtin.Range.rangeFitsLong
 refine f0 (Ie ..) ?_
 exact ba (ba (ba (ba (zF (Nat.le_trans h1 (by decide))) (zF (Nat.le_trans h3 (by decide)))) rfl) (zF (show (b - a).toNat≤2000000 by omega))) (Bool.or_eq_true_iff.mpr (.inr ((if_pos (by decide)).trans (zF (Nat.le_trans (Int.natAbs_add_le ..) (Nat.le_trans (Nat.add_le_add_right h3 _) (by decide)))))))
theorem Q9(a b:Int):(L4 a b).length=(b - a).toNat:=by unfold L4;exact f0 (List.length_map ..) (f0 (List.length_range ..) rfl)
theorem Je{r:Addr}{a b:Int}{u v w:Tok}{Q:List V→Option Nat→y0→Prop}(h:W0 B K t s)(x:O3 B.C no t s t' s')(hr:IsRange s'.heap r a b 1 u v w)(q:rG a b fun xs=>Q xs none t'.σ){E:Value→Shared→Prop}{A:Around} :
  wpAny (model pw B.C.w) A (pyIter (.ref r)) (Ml B t s false Q) E s':=by
 obtain ⟨h1,q⟩:=V4 q
 obtain ⟨h3,q⟩:=V4 q
 obtain ⟨h5,q⟩:=V4 q
 have h1:=Nat.le_of_ble_eq_true h1
 have h3:=Nat.le_of_ble_eq_true h3
 have h5:=Nat.le_of_ble_eq_true h5
 refine wpAny_pyIter_range hr (rj h1 h3) (P9 (h1:=h) (x:=x) (Pp a b) ?_ ?_ q)
 ·have:=Heap.get?_push_size s'.heap (o:={ cls := .type "range_iterator",data := .fields #[rawInt a,rawInt (Builtin.Range.rangeSize a b 1),rawInt 1] }) rfl
  rw [Ie] at this ⊢
  show IsRangeIter _ _ (a+((0:Nat):Int)) (((b - a).toNat:Int) - ((0:Nat):Int)) 1
  refine f0 (show a+((0:Nat):Int)=a from by omega) (f0 (show ((b - a).toNat:Int) - ((0:Nat):Int)=(b - a).toNat from by omega) ?_)
  exact this
 ·refine f0 (Q9 ..) ?_;exact h5
theorem Mh{i:Nat}{x:Str}{T:String}{es:List Expr}{q:E}{P:LP}{G:Value→Shared→Prop}(hg:B.b.isG bS i x=true)(hv:bootBuiltins (bN i)=some (.type T))(w:SL B es q)(h:W0 B K t s)(q:w5 B.L.f K.X q K.ρ t.σ P)
  (go:∀ t' s' vs rs,W0 B K t' s'→O3 B.C no t s t' s'→E0 B.C t' s'.heap vs rs→P vs t'.σ→Wp B K t s (PySem.call (.type T) rs []) G s'):Wp B K t s (eval (.Call (.Name x p) es [] pos) K.en) G s:=by
 refine f0 (Jh rfl ..) ?_
 refine wpAny_bind (WE.go h h.refl (Gn hg K t s (fun l σ=>l=[.b i]∧σ=t.σ) h ⟨rfl,rfl⟩) fun t' s' u r h' y Z vu e=>?_)
 obtain ⟨e1,e2⟩:=e
 obtain rfl:=(List.cons.inj e1).1
 obtain rfl:=Option.some.inj (vu.2.symm.trans hv)
 exact Db w h y (e2.symm▸q) xd fun t2 s2 vs rs h2 x2 m vv q=>go t2 s2 vs rs h2 x2 vv q
theorem Ms{x:Str}{es:List Expr}{q:E}(hg:B.b.isG bS 2 x=true)(w:SL B es q):SI B (.Call (.Name x p) es [] pos) .range q:=fun K t s Q h q=>by
 refine Mh hg (T:="range") (by kernel_rfl) w h q fun t' s' vs rs h' y vv q=>?_
 refine A0 (Fd q) ?_;(repeat clear q);intro v TI q;obtain rfl:=TI
 refine A0 (j5 vv) ?_;intro r QI vr;obtain rfl:=QI
 refine Y1 (U5 vr q) ?_;(repeat clear q);intro b tk OI q;obtain rfl:=OI
 refine call_range_1 ?_
 exact Je (s':={ s' with heap:=s'.heap.push { cls := .type "range",data := .fields #[.int 0 s'.toks,.int b tk,.int 1 (s'.toks+1)] },toks:=s'.toks+1+1 }) h (y.trans (F6 h'.rel h'.own _).toks) (IsRange.new ..) q
theorem Tp{x:Str}{es:List Expr}{q:E}(hg:B.b.isG bS 2 x=true)(w:SL B es q):SI B (.Call (.Name x p) es [] pos) .range2 q:=fun K t s Q h q=>by
 refine Mh hg (T:="range") (by kernel_rfl) w h q fun t' s' vs rs h' y vv q=>?_
 refine Y1 (Zk q) ?_;(repeat clear q);intro u v MI q;obtain rfl:=MI
 refine Z0 (G6 vv) ?_;intro r r' HI vr vr';obtain rfl:=HI
 refine Y1 (U5 vr q) ?_;(repeat clear q);intro a tk EI q;obtain rfl:=EI
 refine Y1 (U5 vr' q) ?_;(repeat clear q);intro b tk' CI q;obtain rfl:=CI
 refine call_range_2 ?_
 exact Je (s':={ s' with heap:=s'.heap.push { cls := .type "range",data := .fields #[.int a tk,.int b tk',.int 1 s'.toks] },toks:=s'.toks+1 }) h (y.trans (F6 h'.rel h'.own _).toks) (IsRange.new ..) q
theorem ug(xs:List V):(qb xs).length=xs.length:=by unfold qb;exact f0 (List.length_map ..) (f0 (List.length_zipIdx ..) rfl)
theorem Gw{x:Str}{es:List Expr}{q:E}(hg:B.b.isG bS 7 x=true)(w:SL B es q):SI B (.Call (.Name x p) es [] pos) .enum q:=fun K t s Q h q=>by
 refine Mh hg (T:="enumerate") (by kernel_rfl) w h q fun t' s' vs rs h' y vv q=>?_
 refine A0 (Fd q) ?_;(repeat clear q);intro v zI q;obtain rfl:=zI
 refine A0 (j5 vv) ?_;intro r xI vr;obtain rfl:=xI
 have mem2:∀ b∈[s'.heap.objs.size+1,s'.heap.objs.size],s.heap.get? b=none:=fun b hb=>sg y.tr.alive (by
  rcases List.mem_cons.mp hb with rfl|hb
  ·exact Nat.le_succ _
  ·refine f0 (List.mem_singleton.mp hb ..) ?_;exact Nat.le_refl _)
 induction v using V.casesOn with
 | str y' =>
  obtain ⟨tk,rfl⟩:=vr
  obtain ⟨hb,q⟩:=S5 q
  refine call_enumerate_str fun hh he' hit hsz hk=>wpAny_pyIter_enum he' ?_
  exact Dz t' _ _ _ _ _ _ rfl (y.trans ⟨Tr.more h'.rel h'.own hk,rfl,rfl⟩) (Lh (Nat.succ_ne_self _) y' tk) mem2 (V0 ⟨_,he'⟩ hit (Nat.zero_le _)) (by refine f0 (ug ..) (f0 (I5 ..) ?_);exact hb) q
 | a A xs=>induction A using Ag.casesOn with
  | lst =>
   refine i7 vr.d.lst ?_;intro a its n vI ho _ _ hb;obtain rfl:=vI
   refine call_enumerate_list (Q3 ho) fun hh he' hit hsz hk=>wpAny_pyIter_enum he' ?_
   exact Dz t' _ _ _ _ _ _ rfl (y.trans ⟨Tr.more h'.rel h'.own hk,rfl,rfl⟩) (Hf (a:=a) (Nat.succ_ne_self _) xs) mem2 (E3 ⟨_,he'⟩ hit (Nat.zero_le _) (vr.go (.more h'.rel h'.own hk) _)) (by refine f0 (ug ..) ?_;exact hb) q
  | _=>exact False.elim q
 | _=>exact False.elim q
theorem Hw{o:Expr}{q:E}(he:SE B o q)(ok:j7 o [] ap pos=true):SI B (.Call (.Attribute o "values" ap) [] [] pos) .vals q:=fun K t s Q h q=>by
 refine f0 (arm_eval_Call ..) (f0 (n3 (g7 ok).2.2.2 ..) ?_)
 refine wpAny_bind (WE.go h h.refl (he K t s _ h q) fun t' s' u r h' y Z vu q=>wpAny_bind (wpAny_standAt (z4 ok fun pl=>?_)))
 refine Y1 (Ja (show aP u _ from q)) ?_;(repeat clear q);intro A xs tI q;obtain rfl:=tI
 have hA:(∃ ss,A = .ds ss)∨∃ kk,A = .dt kk:=by
  induction A using Ag.casesOn with
  | ds ss=>exact .inl ⟨ss,rfl⟩
  | dt kk=>exact .inr ⟨kk,rfl⟩
  | _=>exact q.elim
 have q:db xs.length∧Q xs none t'.σ:=by
  induction A using Ag.casesOn with
  | ds ss=>exact S5 q
  | dt kk=>exact S5 q
  | _=>exact q.elim
 refine i7 vu ?_;(repeat clear vu);intro a d rs0 rI nfa nfd sh vr;obtain rfl:=rI
 obtain ⟨nsm,RI⟩:=sh.des hA;refine Y1 RI ?_;(repeat clear RI);intro des n ho UI;obtain rfl:=UI
 refine getMethod_builtin (T:="dict") (C0 _ ho rfl) PySem.F.plainAttrs_dict PySem.F.slot_dict_values PySem.F.type_dict_values (fun a' e=>by cases e;exact C0 _ ho rfl) ?_
 refine Db (p := .nil) (P:=fun vs σ=>vs=[]∧σ=t'.σ) .nil h y ⟨rfl,rfl⟩ V5 fun t2 s2 vs rs h2 x2 m vv q2=>?_
 obtain ⟨rfl,e2⟩:=q2
 obtain rfl:=(show rs=[] from vv)
 have ho2:=m.kp _ _ ho (U2 rfl) nfa
 refine Qp nsm ho2 ?_
 have E1:=F6 h2.rel h2.own { cls := .type "dict_values",data := .fields #[.ref a] }
 have h3:=h2.ext E1
 have ho3:=Heap.get?_push_of_some { cls := .type "dict_values",data := .fields #[.ref a] } ho2
 refine Rp (s:={ s2 with heap:=s2.heap.push { cls := .type "dict_values",data := .fields #[.ref a] } }) (A2 _ (Heap.get?_push_size _ rfl) rfl rfl) ho3 ?_
 have E2:=F6 h3.rel h3.own { cls := .type "dict_valueiterator",data := .fields #[.ref a,.int 0 0,.int des.length 0,.int n 0] }
 exact P9 (h1:=h) (x:=x2.trans E1) (Ls (a:=a) (des:=des) (n:=n)) (E3 (A2 _ (Heap.get?_push_size _ rfl) rfl rfl) (Heap.get?_push_of_some _ ho3) (fun f=>nfa (m.ft _ _ ho f)) (((vr.go m xs).go (h2.mo E1) xs).go (h3.mo E2) xs)) q.1 (e2.symm▸q.2)
end
open PySem.Calls
theorem or_true{p q:Bool}(h:(p||q)=true):p=true∨q=true:=Bool.or_eq_true_iff.mp h
theorem Z7{b:M5}{sc:Scope}(h:s8 b sc=true):sc.kind = .function∧(∀ x∈sc.names,x.2 ≠ .cell)∧(sc.names.map (·.1)).Nodup ∧
  ∀ x∈sc.names,x.2 = .free→(b.kd x.1=some .cell∨b.kd x.1=some .free)∧∃ i,b.tb.lookup x.1=some i∧i<b.nx:=by
 obtain ⟨h,h4⟩:=b2 h
 obtain ⟨h,h3⟩:=b2 h
 obtain ⟨h1,h2⟩:=b2 h
 refine E3 ?_ (fun x hx e=>?_) (of_decide_eq_true h3) (fun x hx e=>?_)
 ·cases e:sc.kind with
  | function=>rfl
  | _=>rw [e] at h1;exact Bool.noConfusion h1
 ·have z:=List.all_eq_true.mp h2 x hx
  rw [e] at z;exact Bool.noConfusion z
 ·rcases or_true (List.all_eq_true.mp h4 x hx) with z|z
  ·rw [e] at z;exact Bool.noConfusion z
  ·obtain ⟨z1,z2⟩:=b2 z
   refine A0 (P0 z2) fun i ei hi=>?_
   exact ⟨(or_true z1).imp eq_of_beq eq_of_beq,i,ei,of_decide_eq_true hi⟩
theorem A5{α:Type}{x:Str}{v:α}{l:List (Str×α)}:((x,v)::l).lookup x=some v:=by exact f0 (List.lookup_cons ..) (f0 (beq_self_eq_true ..) rfl)
theorem D5{α:Type}{x y:Str}{v:α}{l:List (Str×α)}(n:(y==x)=false):((x,v)::l).lookup y=l.lookup y:=by exact f0 (List.lookup_cons ..) (f0 (n ..) rfl)
theorem l5{α:Type}:∀ {l:List (Str×α)} {x:Str} {v:α},(l.map (·.1)).Nodup→(x,v)∈l→l.lookup x=some v
 | p::l,x,v,nd,hm=>by
  obtain ⟨n1,n2⟩:=List.nodup_cons.mp nd
  rcases List.mem_cons.mp hm with e|hm
  ·refine P5 (e ..) ?_;exact A5
  ·exact (D5 (x:=p.1) (v:=p.2) (beq_eq_false_iff_ne.mpr fun (q:x=p.1)=>n1 (List.mem_map.mpr (C0 (x,v) hm q)))).trans (l5 n2 hm)
theorem Na(env:Env):∀ (names:List (Str×NameKind)) (acc:List (Str×Addr)),(∀ x∈names,x.2 = .free→∃ c,env.cells.lookup x.1=some c) →
  ∃ cl,(forIn names acc fun (x:Str×NameKind) cs=>(if x.2 == .free then do let a ←cellOf env x.1;pure (ForInStep.yield ((x.1,a)::cs)) else pure (ForInStep.yield cs):Sem (ForInStep (List (Str×Addr)))))=pure cl ∧
   ∀ y,((y,NameKind.free)∈names∨(∃ c,acc.lookup y=some c)→∃ c,cl.lookup y=some c)∧((∀ c,acc.lookup y=some c→env.cells.lookup y=some c)→∀ c,cl.lookup y=some c→env.cells.lookup y=some c)
 | [],acc,_=>C0 acc rfl (fun y=>⟨fun h=>h.elim (fun h=>(List.not_mem_nil h).elim) id,fun h=>h⟩)
 | p::r,acc,h=>by
  by_cases hk:p.2 = .free
  ·obtain ⟨c,ec⟩:=h p (.head _) hk
   refine A0 (Na env r ((p.1,c)::acc) fun y hy=>h y (.tail _ hy)) fun cl e1 e2=>?_
   have e0:cellOf env p.1=pure c:=by unfold cellOf;exact f0 (ec ..) rfl
   refine C0 cl ?_ (fun y=>⟨fun hm=>(e2 y).1 ?_,fun ha=>(e2 y).2 fun c' e=>?_⟩)
   ·refine f0 (List.forIn_cons ..) (f0 (if_pos (beq_iff_eq.mpr hk) ..) (f0 (e0 ..) ?_))
    exact e1
   ·cases q:y==p.1 with
    | true=>exact .inr ⟨c,(eq_of_beq q)▸A5⟩
    | false=>exact hm.imp (fun hm=>(List.mem_cons.mp hm).elim (fun e=>by rw [←e,beq_self_eq_true] at q;exact Bool.noConfusion q) id) fun z=>z.imp fun Z z=>(D5 q).trans z
   ·cases q:y==p.1 with
    | true =>
     obtain rfl:=eq_of_beq q
     exact (Option.some.inj (A5.symm.trans e))▸ec
    | false=>exact ha c' ((D5 q).symm.trans e)
  ·refine A0 (Na env r acc fun y hy=>h y (.tail _ hy)) fun cl e1 e2=>?_
   refine C0 cl ?_ (fun y=>⟨fun hm=>(e2 y).1 ?_,(e2 y).2⟩)
   ·refine f0 (List.forIn_cons ..) (f0 (if_neg (fun q=>hk (eq_of_beq q)) ..) ?_)
    exact e1
   ·exact hm.imp (fun hm=>(List.mem_cons.mp hm).elim (fun e=>absurd (e▸rfl) hk) id) id
theorem Nl{env:Env}{sc:Scope}(h:∀ x∈sc.names,x.2 = .free→∃ c,env.cells.lookup x.1=some c):∃ cl,closureFor sc env=pure cl∧(∀ y,(y,NameKind.free)∈sc.names→cl.lookup y=env.cells.lookup y)∧∀ y c,cl.lookup y=some c→env.cells.lookup y=some c:=by
 refine A0 (Na env sc.names [] h) fun cl e1 e2=>?_
 have Gc:∀ y c,cl.lookup y=some c→env.cells.lookup y=some c:=fun y=>(e2 y).2 fun c e=>nn e
 refine A2 cl ?_ (fun y hm=>((e2 y).1 (.inl hm)).elim fun c ec=>ec.trans (Gc y c ec).symm) Gc
 unfold closureFor
 have e:(forIn sc.names ([]:List (Str×Addr)) fun (x:Str×NameKind) cs=>(match x with|(name,kind)=>if (kind==NameKind.free)=true then do let a ←cellOf env name;pure (ForInStep.yield ((name,a)::cs)) else pure (ForInStep.yield cs):Sem (ForInStep (List (Str×Addr)))))=pure cl:=e1
 first
  | (refine f0 (e ..) ?_;rfl)
  | (simp only [e,pure_bind])
  | (erw [e];rfl)
noncomputable def Oa(en:Env)(y:Str)(k:NameKind):NameKind:=if k==NameKind.free&&en.kindOf y==some NameKind.cell then NameKind.cell else k
theorem Nh{en:Env}{y:Str}{k:NameKind}(n:k ≠ .free):Oa en y k=k:=if_neg fun z=>n (eq_of_beq (b2 z).1)
theorem vg{en:Env}{y:Str}:Oa en y .free = .free∨Oa en y .free = .cell:=(Classical.em ((en.kindOf y==some NameKind.cell)=true)).elim (fun z => .inr (if_pos (Bool.and_eq_true_iff.mpr ⟨rfl,z⟩))) fun z => .inl (if_neg fun w=>z (b2 w).2)
theorem Ke{en:Env}(hk:en.scope.kind = .function)(y:Str):∀ l:List (Str×NameKind),(l.map fun (x:Str×NameKind)=>if (x.2==NameKind.free&&en.scope.kind==ScopeKind.function&&en.kindOf x.1==some NameKind.cell)=true then (x.1,NameKind.cell) else x).lookup y=(l.lookup y).map (Oa en y)
 | []=>rfl
 | p::r=>by
  have e:(if (p.2==NameKind.free&&en.scope.kind==ScopeKind.function&&en.kindOf p.1==some NameKind.cell)=true then (p.1,NameKind.cell) else p)=(p.1,Oa en p.1 p.2):=by
   unfold Oa
   refine f0 (hk ..) (f0 (show (p.2==NameKind.free&&ScopeKind.function==ScopeKind.function)=(p.2==NameKind.free) from Bool.and_true _) ?_)
   split<;>rfl
  refine f0 (List.map_cons ..) (f0 (e ..) ?_)
  cases q:y==p.1 with
  | true =>
   obtain rfl:=eq_of_beq q
   exact A5.trans (congrArg (Option.map (Oa en p.1)) (A5 (v:=p.2) (l:=r))).symm
  | false=>exact (D5 q).trans ((Ke hk y r).trans (congrArg (Option.map (Oa en y)) (D5 (v:=p.2) q)).symm)
theorem k9{sc:Scope}{env:Env}(hk:env.scope.kind = .function)(y:Str):(relabel sc env).names.lookup y=(sc.names.lookup y).map (Oa env y):=Ke hk y sc.names
noncomputable def Ol(sc:Scope):List Str:=(sc.names.filter fun x=>x.2 == .local&&!(x.1==(".0":Str))).map (·.1)
theorem Os{b:M5}{sc:Scope}{y:Str}{i:Nat}(h:(W1 b sc).tb.lookup y=some i):((y,NameKind.local)∈sc.names∧∃ j,(Ol sc)[j]?=some y∧i=b.nx+j)∨((y,NameKind.free)∈sc.names∧b.tb.lookup y=some i):=by
 rcases List.mem_append.mp (mem_of_lookup h) with hm|hm
 ·refine A0 (List.mem_map.mp hm) fun p hx e=>?_
  have hxj:(Ol sc)[p.2]?=some p.1:=List.mem_zipIdx_iff_getElem?.mp hx
  obtain ⟨e1,e2⟩:=Prod.mk.inj e
  subst e1;subst e2
  refine A0 (List.mem_map.mp (List.mem_of_getElem? hxj)) fun q hp e=>?_
  obtain ⟨hp1,hp2⟩:=List.mem_filter.mp hp
  exact .inl ⟨by refine P5 (e ..) (P5 (eq_of_beq (b2 hp2).1 ..) ?_);exact hp1,p.2,hxj,rfl⟩
 ·refine A0 (List.mem_filterMap.mp hm) fun q hx e=>?_
  obtain ⟨hx1,hx2⟩:=List.mem_filter.mp hx
  refine A0 (F4 e) fun i' e1 e2=>?_
  obtain ⟨e3,e4⟩:=Prod.mk.inj e2
  subst e3;subst e4
  exact .inr ⟨by refine P5 (eq_of_beq hx2 ..) ?_;exact hx1,e1⟩
theorem ya{b:M5}{x:Str}{i:Nat}(e:b.tgt x=some i):b.kd x=some .local∧b.tb.lookup x=some i:=by
 unfold M5.tgt at e
 show b.sc.names.lookup x=_∧_
 cases q:b.sc.names.lookup x with
 | none=>rw [q] at e;exact nn e
 | some k=>induction k using NameKind.casesOn with
  | «local»=>rw [q] at e;exact ⟨rfl,e⟩
  | _=>rw [q] at e;exact nn e
inductive uG(b:M5):Expr→List Nat→Bool→Prop
 | one {x p i}:b.tgt x=some i→uG b (.Name x p) [i] false
 | two {x p y p' i j k q}:b.tgt x=some i→b.tgt y=some j→uG b (.Tuple [.Name x p,.Name y p'] k q) [i,j] true
theorem Le{b:M5}{e:Expr}{ts:List Nat}{pat:Bool}(h:b.tgts e=some (ts,pat)):uG b e ts pat:=by
 unfold M5.tgts at h
 cases q:P7 e with
 | some q' =>
  rw [q] at h
  refine A0 (F4 h) fun i ei e=>?_
  obtain ⟨rfl,rfl⟩:=Prod.mk.inj e
  exact zc q ▸ .one ei
 | none =>
  rw [q] at h
  refine A0 (M4 h) ?_;(repeat clear h);intro l e1 h
  refine A0 (M4 h) ?_;(repeat clear h);intro p e2 h
  refine A0 (M4 h) ?_;(repeat clear h);intro x e3 h
  refine A0 (M4 h) ?_;(repeat clear h);intro y e4 h
  refine A0 (M4 h) ?_;(repeat clear h);intro i e5 h
  refine A0 (F4 h) fun j e6 e=>?_
  obtain ⟨rfl,rfl⟩:=Prod.mk.inj e
  have r:=Jr e1
  rw [Hr e2,zc e3,zc e4] at r
  exact r ▸ .two e5 e6
open PySem.Calls
theorem Gb:∀ {ρ:y0} {n i:Nat},i<n→A1 (ρ.take n) i=A1 ρ i
 | [],n,i,_=>by exact f0 (List.take_nil ..) rfl
 | _::_,0,_,h=>absurd h (Nat.not_lt_zero _)
 | _::_,_+1,0,_=>rfl
 | _::r,_+1,_+1,h=>Gb (ρ:=r) (Nat.lt_of_succ_lt_succ h)
theorem Hb:∀ {ρ:y0} {n i:Nat},n≤i→A1 (ρ.take n) i=none
 | [],n,i,_=>by refine f0 (List.take_nil ..) ?_;rfl
 | _::_,0,_,_=>rfl
 | _::_,_+1,0,h=>absurd h (Nat.not_succ_le_zero _)
 | _::r,_+1,_+1,h=>Hb (ρ:=r) (Nat.le_of_succ_le_succ h)
theorem Me{h:Heap}{a:Addr}{m:Str→Option Value}(n:h.Ns a m):∃ o,h.get? a=some o∧Y4 o∧¬Wi o :=
 (Bh n).imp fun Z x=>x.elim fun Z x=>x.elim fun Z z=>V0 z.1 (U2 z.2) (fun i=>i.2.elim fun Z x=>x.elim fun Z q=>Data.noConfusion (z.2.symm.trans q))
theorem Vn{h:Heap}{a:Addr}{its:Array Value}{k:Nat}(e:h.get? a=some (listOf its k)):∃ o,h.get? a=some o∧Y4 o∧¬Wi o:=A2 _ e (J4 rfl) (fun i=>absurd i.1 (show Value.type "list" ≠ .type "tuple" by decide))
section
variable{C:Cx}{ex P F:Addr→Prop}{t t' t2:St}{s s' s2:Shared}{wr:List Addr}{a0 Cl:Addr}{ys:List V}{m:Str→Option Value}
theorem Y7.off(nn:Y7 wr s.heap){b:Addr}(x:∃ o,s.heap.get? b=some o∧Y4 o):b∉wr:=fun hb=>(nn b hb).elim fun o z=>x.elim fun o' y=>z.2 (Option.some.inj (y.1.symm.trans z.1)▸y.2)
theorem Y0.rk(R:Y0 C t s.heap)(O:U1 t s.heap)(nn:Y7 wr s.heap)(r:Rk wr s s2)(fb:∀ b∈wr,C.B.get? b=none):Y0 C t s2.heap :=
 ⟨fun k v e=>(R.cell k v e).imp fun K x=>x.imp fun xs x=>x.imp fun rs z=>E3 z.1 z.2.1 (z.2.2.1.obj _ fun b o e n Z=>r.2.2 b o (nn.off (C0 o e n)) e) (z.2.2.2.go (Mo.rk R O nn r) xs),R.own,R.sep,R.apart,fun b o e=>r.2.2 b o (fun hb=>Q5 (fb b hb) e) (R.base b o e),R.sub⟩
theorem Tr.rk(R:Y0 C t s.heap)(T:Tr C ex t s.heap t' s'.heap)(O':U1 t' s'.heap)(nn:Y7 wr s'.heap)(r:Rk wr s' s2)(fw:∀ b∈wr,s.heap.get? b=none):Tr C ex t s.heap t' s2.heap :=
 ⟨T.rel.rk O' nn r fun b hb=>R.off (fw b hb),fun b o e nc ne=>(T.keep b o e nc ne).imp fun o' z=>⟨r.2.2 b o' (fun hb=>Q5 (fw b hb) e) z.1,z.2⟩,T.grow,fun b o e=>(T.alive b o e).imp fun o' e'=>r.2.2 b o' (fun hb=>Q5 (fw b hb) e) e',T.lv,T.ow,T.sl⟩
theorem U1.rk(O:U1 t s.heap)(nn:Y7 wr s.heap)(r:Rk wr s s2):U1 t s2.heap:=fun b f=>(O b f).imp fun o z=>⟨r.2.2 b o (nn.off (C0 o z.1 z.2.1)) z.1,z.2⟩
theorem Hx.owI{h h':Heap}(H:Hx C ex P F t h t' h'){b:Addr}(f:t.ow b∨P b):t'.ow b:=(congrFun H.ow b).mpr f
structure CS(C:Cx)(t:St)(s:Shared)(a0 Cl:Addr)(wr:List Addr)(t':St)(s':Shared)(ys:List V)(m:Str→Option Value):Prop where
 hx:Hx C no (fun b=>b=a0∨b=Cl) no t s.heap t' s'.heap
 gs:s'.gens=s.gens∧s'.os=s.os
 own:U1 t' s'.heap
 fw:∀ b∈wr,s.heap.get? b=none
 ne:a0≠Cl
 acc:∃ its k,s'.heap.get? a0=some (listOf its k)∧E0 C t' s'.heap ys its.toList
 ns:s'.heap.Ns Cl m
 R:Y0 C t s.heap
 O:U1 t s.heap
theorem CS.go{ys':List V}{m':Str→Option Value}(c:CS C t s a0 Cl wr t' s' ys m)(T:Tr C ex t' s'.heap t2 s2.heap)(O2:U1 t2 s2.heap)(gs2:s2.gens=s'.gens∧s2.os=s'.os)(hx:∀ b,ex b→s.heap.get? b=none)
  (acc:∃ its k,s2.heap.get? a0=some (listOf its k)∧E0 C t2 s2.heap ys' its.toList) (ns:s2.heap.Ns Cl m'):CS C t s a0 Cl wr t2 s2 ys' m' :=
 ⟨c.hx.step c.R T O2 fun b o q e=>Q5 (hx b q) e,⟨gs2.1.trans c.gs.1,gs2.2.trans c.gs.2⟩,O2,c.fw,c.ne,acc,ns,c.R,c.O⟩
theorem CS.wa(c:CS C t s a0 Cl wr t' s' ys m):t'.ow a0:=c.hx.owI (.inr (.inl rfl))
theorem CS.wc(c:CS C t s a0 Cl wr t' s' ys m):t'.ow Cl:=c.hx.owI (.inr (.inr rfl))
theorem CS.nsl(c:CS C t s a0 Cl wr t' s' ys m):¬t'.sl a0:=fun f=>((congrFun c.hx.sl a0).mp f).elim (fun f=>(c.O a0 (c.R.sub a0 f)).elim fun o z=>Q5 (c.hx.fr a0 (.inl rfl)) z.1) id
theorem CS.step(c:CS C t s a0 Cl wr t' s' ys m)(y:O3 C no t' s' t2 s2):CS C t s a0 Cl wr t2 s2 ys m:=by
 refine Y1 c.acc fun its k e vr=>?_
 refine F1 (y.tr.keep a0 _ e (c.hx.rel.apart a0 c.wa) id) ?_;(repeat clear _);intro o' e' q _
 exact c.go y.tr (c.own.tr0 c.hx.rel y.tr) ⟨y.gens,y.os⟩ (fun Z=>False.elim) (W4 its k (q c.nsl▸e') (vr.tr c.hx.rel c.own y.tr)) (t8 c.ns fun o ho=>y.tr.data c.hx.rel c.wc ho id)
theorem CS.rk(c:CS C t s a0 Cl wr t' s' ys m)(nn:Y7 wr s'.heap)(r:Rk wr s' s2):CS C t s a0 Cl wr t' s2 ys m:=by
 refine Y1 c.acc fun its k e vr=>?_
 exact ⟨⟨c.hx.tr.rk c.R (fun b f=>c.own b (c.hx.owI (.inl f))) nn r c.fw,c.hx.rel.rk c.own nn r fun b hb=>c.R.off (c.fw b hb),c.hx.ow,c.hx.sl,c.hx.fr,c.hx.fF⟩,⟨r.1.trans c.gs.1,r.2.1.trans c.gs.2⟩,c.own.rk nn r,c.fw,c.ne,(W4 its k (r.2.2 a0 _ (nn.off (C0 _ e (J4 rfl))) e) (vr.go (Mo.rk c.hx.rel c.own nn r) _)),
  t8 c.ns fun o ho=>C0 o (r.2.2 Cl o (nn.off ((Me c.ns).imp fun Z z=>⟨z.1,z.2.1⟩)) ho) rfl,c.R,c.O⟩
theorem CS.store{h':Heap}{tk':Nat}{m':Str→Option Value}(c:CS C t s a0 Cl wr t' s' ys m)(hn:h'.Ns Cl m')(hs:Heap.SameBut Cl s'.heap h'):CS C t s a0 Cl wr t' { s' with heap:=h',toks:=tk' } ys m'∧Mo t' s'.heap t' h':=by
 obtain ⟨T,mo⟩:=Tr.own c.hx.rel c.own c.wc hs ((Me hn).imp fun Z z=>z.1)
 refine Y1 c.acc fun its k e vr=>?_
 exact ⟨c.go (s2:={ s' with heap:=h',toks:=tk' }) T (c.own.tr c.hx.rel T fun b q=>q▸Me hn) ⟨rfl,rfl⟩ (fun b q=>c.hx.fr b (.inr q)) (W4 its k ((hs.2 a0 c.ne).trans e) (vr.go mo _)) hn,mo⟩
theorem CS.append{A:Around}{v:V}{r:Value}{E:Value→Shared→Prop}{Q:Value→Shared→Prop}(c:CS C t s a0 Cl wr t' s' ys m)(vr:G0 C t' s'.heap v r)(hl:ys.length+1≤1000000)
  (q:∀ h',CS C t s a0 Cl wr t' { s' with heap:=h' } (ys++[v]) m→Heap.SameBut a0 s'.heap h'→Mo t' s'.heap t' h'→Q .none { s' with heap:=h' }) :
  wpAny (model pw C.w) A (call (.builtin "list.append") [.ref a0,r]) Q E s':=by
 refine Y1 c.acc fun its k e vrs=>?_
 have hlen:its.size=ys.length:=vrs.len
 refine call_meets PySem.F.slot_list_append (C0 _ e rfl) PySem.F.entry_list_append (PySem.F.args_list_append_2 _ _) (AutoListH.list_append_list_val_0 a0 its k r (by refine f0 (hlen ..) ?_;exact X2 (Nat.le_of_succ_le hl))) ⟨e,?_⟩
 have hs:Heap.SameBut a0 s'.heap (s'.heap.update a0 (Obj.mapSeq fun x=>x.push r)):=Heap.SameBut.update ..
 obtain ⟨k',hg⟩:∃ k',(s'.heap.update a0 (Obj.mapSeq fun x=>x.push r)).get? a0=some (listOf (its.push r) k'):=⟨_,by rw [Heap.get?_update_self _ e (by rfl)];rfl⟩
 obtain ⟨T,mo⟩:=Tr.own c.hx.rel c.own c.wa hs ⟨_,hg⟩
 exact q _ (c.go (s2:={ s' with heap:=s'.heap.update a0 (Obj.mapSeq fun x=>x.push r) }) T (c.own.tr c.hx.rel T fun b q=>by refine f0 (show b=a0 from q) ?_;exact Vn hg) ⟨rfl,rfl⟩ (fun b q=>c.hx.fr b (.inl q)) (W4 _ k' hg (by
  refine f0 (Array.toList_push ..) ?_
  exact (vrs.go mo _).append (L1 r [] rfl (vr.go mo _) rfl))) (c.ns.sameBut hs (Ne.symm c.ne))) hs mo
end
theorem W0.hx{B:Bk}{K:Fr}{t t':St}{s s':Shared}{P F:Addr→Prop}(h:W0 B K t s)(H:Hx B.C no P F t s.heap t' s'.heap)(O':U1 t' s'.heap):W0 B K t' s':=by
 have m:=H.mo1 h.rel h.own fun Z=>False.elim
 have data:∀ {L o},t.ow L→s.heap.get? L=some o→∃ o',s'.heap.get? L=some o'∧o'.data=o.data:=fun w e=>Tr.data h.rel H.tr w e id
 refine ⟨h.ok,h.amb,fun env he=>?_,h.sc,⟨h.env.kind,h.env.glob,h.env.blt,h.env.loc.imp fun Z z=>⟨t8 z.1 fun o e=>data h.env.nloc e,fun x i v a b c=>(z.2 x i v a b c).imp fun Z y=>⟨y.1,y.2.go m v⟩⟩,H.owI (.inl h.env.nloc),fun x i v a b c=>?_⟩,H.rel,O',fun b hb=>H.owI (.inl (h.oa b hb))⟩
 ·obtain ⟨k,wI⟩:=h.fr.tr h.rel H.tr (fun Z Z Z Z=>id) env he;refine Ia wI ?_;(repeat clear wI);intro L o es n hf w ho hd
  exact ⟨k,L,o,es,n,hf,(congrFun H.sl L).mpr (.inl w),ho,hd⟩
 ·exact (h.env.cel x i v a b c).imp fun Z z=>z.imp fun Z y=>E3 y.1 (m6 y.2.1 fun o e=>data y.2.2.2 e) (y.2.2.1.go m v) (H.owI (.inl y.2.2.2))
noncomputable def Pa(C:Cx)(tb:vC)(sc:Scope)(t:St)(h:Heap)(m:Str→Option Value)(ρ:y0):Prop:=∀ y i v,tb.lookup y=some i→A1 ρ i=some v→sc.names.lookup y=some .local→∃ r,m y=some r∧G0 C t h v r
section
variable{C:Cx}{b:M5}{sc:Scope}{t t':St}{h h':Heap}{ρ:y0}{m:Str→Option Value}
theorem Pa.mono{tb:vC}(x:Pa C tb sc t h m ρ)(k:Mo t h t' h'):Pa C tb sc t' h' m ρ:=fun y i v e1 e2 e3=>(x y i v e1 e2 e3).imp fun Z z=>⟨z.1,z.2.go k v⟩
theorem Oh(nd:(sc.names.map (·.1)).Nodup){y:Str}{i:Nat}(e:sc.names.lookup y=some .local)(ei:(W1 b sc).tb.lookup y=some i):∃ j,(Ol sc)[j]?=some y∧i=b.nx+j:=by
 rcases Os ei with ⟨_,z⟩|⟨hm,_⟩
 ·exact z
 ·exact NameKind.noConfusion (Option.some.inj (e.symm.trans (l5 nd hm)))
theorem yA(nd:(sc.names.map (·.1)).Nodup){y:Str}{i:Nat}(e:(W1 b sc).tgt y=some i):b.nx≤i :=
 (Oh nd (ya e).1 (ya e).2).elim fun j z=>z.2▸Nat.le_add_right ..
theorem Pa.start(nd:(sc.names.map (·.1)).Nodup):Pa C (W1 b sc).tb sc t h m (ρ.take b.nx):=fun y i v e1 e2 e3 =>
 (Oh nd e3 e1).elim fun j z=>Q5 (Hb (z.2▸Nat.le_add_right ..)) e2
theorem Pa.set{x:Str}{i:Nat}{v:V}{r:Value}(nd:(sc.names.map (·.1)).Nodup)(e:(W1 b sc).tgt x=some i)(vr:G0 C t h v r)(L:Pa C (W1 b sc).tb sc t h m ρ) :
  Pa C (W1 b sc).tb sc t h (fun y=>if y=x then some r else m y) (R2 ρ i (some v)):=fun y j u e1 e2 e3=>by
 by_cases hj:j=i
 ·subst hj
  refine A0 (Oh nd e3 e1) fun j1 a1 a2=>?_
  refine A0 (Oh nd (ya e).1 (ya e).2) fun j2 b1 b2=>?_
  have e12:j1=j2:=Nat.add_left_cancel (a2.symm.trans b2)
  subst e12
  exact C0 r (if_pos (Option.some.inj (a1.symm.trans b1))) (Option.some.inj ((N1 ρ j _).symm.trans e2)▸vr)
 ·refine A0 (L y j u e1 ((T1 ρ _ hj).symm.trans e2) e3) fun r' a b'=>?_
  exact C0 r' ((if_neg fun q=>hj (Option.some.inj (e1.symm.trans ((congrArg (fun z=>(W1 b sc).tb.lookup z) q).trans (ya e).2)))).trans a) b'
end
theorem Ps{en:Env}{y:Str}{o:Option NameKind}(e:o.map (Oa en y)=some .local):o=some .local:=by
 refine A0 (F4 e) ?_;intro k tI q;obtain rfl:=tI
 by_cases n:k = .free
 ·subst n
  rcases vg (en:=en) (y:=y) with z|z<;>exact NameKind.noConfusion (q.trans z)
 ·rw [Nh n] at q;exact f0 (q ..) rfl
theorem Iw{en:Env}{y:Str}{o:Option NameKind}(e:o.map (Oa en y)=some .cell∨o.map (Oa en y)=some .free):o=some .cell∨o=some .free:=by
 have one:∀ {kk},o.map (Oa en y)=some kk→o=some .free∨o=some kk:=fun {kk} e=>by
  refine A0 (F4 e) ?_;intro k rI q;obtain rfl:=rI
  by_cases n:k = .free
  ·exact .inl (n▸rfl)
  ·rw [Nh n] at q;exact .inr (q▸rfl)
 exact e.elim (fun e=>(one e).symm) fun e => .inr ((one e).elim id id)
section
variable{B:Bk}{K:Fr}{t t':St}{s s':Shared}{wr:List Addr}{a0 Cl:Addr}{ys:List V}{m:Str→Option Value}{sc:Scope}{cl:List (Str×Addr)}{ρ':y0}
noncomputable abbrev Bk.comp(B:Bk)(sc:Scope):Bk:=⟨B.C,B.n,W1 B.b sc,B.L⟩
theorem CS.here(h:W0 B K t s)(c:CS B.C t s a0 Cl wr t' s' ys m)(ok:s8 B.b sc=true)(hcl:∀ y,(y,NameKind.free)∈sc.names→cl.lookup y=K.en.cells.lookup y)(hcb:∀ y c,cl.lookup y=some c→K.en.cells.lookup y=some c)
  (L:Pa B.C (W1 B.b sc).tb sc t' s'.heap m ρ') (F:∀ i,i<B.b.nx→A1 ρ' i=A1 K.ρ i):W0 (B.comp sc) ⟨K.A,K.l,compEnvC sc cl Cl K.en,ρ',dg⟩ t' s':=by
 refine R7 (Z7 ok) fun k1 k2 k3 k4=>?_
 have kd:∀ y,(compEnvC sc cl Cl K.en).kindOf y=(sc.names.lookup y).map (Oa K.en y):=k9 h.env.kind
 have h0:=h.hx c.hx c.own
 refine ⟨h.ok,h.amb,h0.fr,fun y=>?_,⟨k1,h.env.glob,h.env.blt,(C0 m c.ns (fun y i v ei ev hk=>L y i v ei ev (Ps ((kd y).symm.trans hk)))),c.wc,fun y i v ei ev hk=>?_⟩,c.hx.rel,c.own,fun b hb=>?_⟩
 ·show _=sc.names.lookup y∨sc.names.lookup y=_∧_
  refine f0 (kd ..) ?_
  cases q:sc.names.lookup y with
  | none=>exact .inl rfl
  | some k =>
   by_cases n:k = .free
   ·subst n
    exact vg.imp (congrArg some) fun z=>⟨rfl,congrArg some z⟩
   ·exact .inl (congrArg some (Nh n))
 ·have hf:sc.names.lookup y=some .free:=(Iw (hk.imp (kd y).symm.trans (kd y).symm.trans)).elim (fun q=>absurd rfl (k2 _ (mem_of_lookup q))) id
  have hm:=mem_of_lookup hf
  obtain ⟨hk4,yI⟩:=k4 _ hm rfl;refine A0 yI ?_;(repeat clear yI);intro i' ei' hi'
  have ei2:B.b.tb.lookup y=some i:=by
   rcases Os ei with ⟨hm',_⟩|⟨_,z⟩
   ·exact NameKind.noConfusion (Option.some.inj (hf.symm.trans (l5 k3 hm')))
   ·exact z
  obtain rfl:=Option.some.inj (ei2.symm.trans ei')
  refine Y1 (h0.env.cel y i v ei2 ((F i hi').symm.trans ev) (hk4.elim (fun z => .inl (h.sc.eq z nofun)) fun z=>(h.sc y).elim (fun w => .inr (w.trans z)) fun w => .inl w.2)) ?_;(repeat clear z);intro c' r ec z
  exact W4 c' r ((hcl y hm).trans ec) z
 ·rcases hb with rfl|⟨x,e⟩
  ·exact c.wc
  ·exact h0.oa b (.inr ⟨x,hcb x b e⟩)
end
open PySem.Calls
section
variable{C:Cx}{ex P F:Addr→Prop}{t t' t1:St}{h h' h1 h2:Heap}
theorem Hx.pre(x:Tr C ex t h t1 h1)(H:Hx C ex P F t1 h1 t' h'):Hx C ex P F t h t' h' where
 tr:=by
  have z:=x.trans H.tr
  rw [x.ow,x.sl] at z
  exact z
 rel:=H.rel
 ow:=by exact f0 (H.ow ..) (f0 (x.ow ..) rfl)
 sl:=by exact f0 (H.sl ..) (f0 (x.sl ..) rfl)
 fr b p:=by
  cases e:h.get? b with
  | none=>rfl
  | some o=>exact (x.alive b o e).elim fun o' e'=>Q5 (H.fr b p) e'
 fF:=H.fF
theorem Hx.lose{Cl:Addr}(R:Y0 C t h)(H:Hx C ex (·=Cl) no t h t' h')(O':U1 t' h')(sb:Heap.SameBut Cl h' h2):Tr C ex t h (t'.as t.ow t.sl) h2∧Mo t' h' (t'.as t.ow t.sl) h2:=by
 have wc:t'.ow Cl:=H.owI (.inr rfl)
 have m:Mo t' h' (t'.as t.ow t.sl) h2:=⟨fun Z l=>V0 l rfl rfl,fun b Z Z f=>Or.elim f (fun f => .inl (H.owI (.inl f))) .inr,fun b o e Z nf=>(sb.2 b fun q=>nf (.inl (q▸wc))).trans e,H.rel.nt O'⟩
 have old:∀ {b o},h.get? b=some o→b≠Cl:=fun e q=>Q5 (H.fr _ q) e
 refine ⟨⟨⟨fun k v e=>(H.rel.cell k v e).imp fun K x=>x.imp fun xs x=>x.imp fun rs z=>E3 z.1 z.2.1 (z.2.2.1.obj _ fun b o e1 Z c=>(sb.2 b fun q=>?_).trans e1) (z.2.2.2.go m xs),fun b f=>H.rel.own b (Or.elim f (fun f => .inl (H.owI (.inl f))) .inr),H.rel.sep,fun b f=>H.rel.apart b (H.owI (.inl f)),fun b o e=>(sb.2 b fun q=>Q5 (H.rel.own Cl (.inl wc)) (q▸e)).trans (H.rel.base b o e),R.sub⟩,
  fun b o e nc ne=>(H.tr.keep b o e nc ne).imp fun o' z=>⟨(sb.2 b (old e)).trans z.1,z.2⟩,H.tr.grow,fun b o e=>(H.tr.alive b o e).imp fun o' e'=>(sb.2 b (old e)).trans e',H.tr.lv,rfl,rfl⟩,m⟩
 have lk:t'.live k:=⟨v,e⟩
 rcases c with c|c|c
 ·exact H.rel.apart b (q▸wc) (C0 k lk (.inl c))
 ·exact H.rel.apart b (q▸wc) (C0 k lk (.inr c))
 ·exact H.rel.nt O' b o e1 c (.inl (q▸wc))
end
theorem Mo.on{t:St}{h h' h'':Heap}(x:Mo t h t h')(y:Mo t h' t h''):Mo t h t h'':=⟨fun Z l=>V0 l rfl rfl,fun Z Z Z f=>f,fun b o e n nf=>y.kp b o (x.kp b o e n nf) n nf,x.nt⟩
noncomputable abbrev Oe:Value→Shared→Prop:=fun Z Z=>False
theorem Up{w:World}{A:Around}{R:Result→Shared→Prop}{s:Shared}{elt target iter:Expr}{ifs:List Expr}{scope:Scope}{pos:Pos}{it acc:Value}{env:Env}(I:Nat→Shared→Prop)
  (turn:∀ n s,I n s→wpAny (model pw w) A (pyNext it) (fun r s₁=>match r with
   | none=>R (.ok .next) s₁
   | some v=>wpAny (model pw w) A (letOwnedTupleGo target it v) (fun Z s₁'=>wpAny (model pw w) A (assign target env v) (fun Z s₂ =>
     wpAny (model pw w) A (forIn ifs true fun c r=>if r=true then do let ok ←isTrue c env (eval c env);pure (ForInStep.yield ok) else pure (ForInStep.yield r)) (fun ok s₃ =>
      if ok=true then wpAny (model pw w) A (eval elt env) (fun x s₄=>wpAny (model pw w) A (call (.builtin "list.append") [acc,x]) (fun Z s₅=>∃ m,m<n∧I m s₅) Oe s₄) Oe s₃
      else ∃ m,m<n∧I m s₃) Oe s₂) Oe s₁') Oe s₁) Oe s)
  (n:Nat) (h:I n s):codeAny (model pw w) A (.compLoop (.ListComp elt [⟨target,iter,ifs,0⟩] scope pos) 0 it acc env) R s:=by
 refine codeAny_loop rfl I (fun n s hI=>?_) n h
 show wpAny _ A ((compTurn (.ListComp elt [⟨target,iter,ifs,0⟩] scope pos) 0 it acc env).onRaise (fun x=>do noteFrame x env;theTreesLotGoes x)) _ _ s
 refine wpAny_noted ?_
 refine f0 (compTurn_list ..) ?_
 refine wpAny_bind (wpAny_standAt (wpAny_bind (wpAny_mono (turn n s hI) (fun r s₁ h₁=>?_) fun Z Z f=>f.elim)))
 induction r using Option.casesOn with
 | none=>exact wpAny_pure h₁
 | some v =>
  refine wpAny_bind (wpAny_mono h₁ (fun Z s₁' h₁'=>wpAny_bind (wpAny_mono h₁' (fun Z s₂ h₂=>wpAny_bind (wpAny_mono h₂ (fun ok s₃ h₃=>?_) fun Z Z f=>f.elim)) fun Z Z f=>f.elim)) fun Z Z f=>f.elim)
  induction ok using Bool.casesOn with
  | false=>exact wpAny_pure ⟨rfl,h₃⟩
  | true =>
   exact wpAny_bind (wpAny_bind (wpAny_mono h₃ (fun x s₄ h₄=>wpAny_bind (wpAny_mono h₄ (fun Z s₅ h₅=>wpAny_pure (wpAny_pure ⟨rfl,h₅⟩)) fun Z Z f=>f.elim)) fun Z Z f=>f.elim))
section
variable{C:Cx}{A:Around}{b:M5}{en:Env}{t t':St}{s s':Shared}{wr:List Addr}{a0 Cl:Addr}{ys:List V}{m:Str→Option Value}{sc:Scope}{cl:List (Str×Addr)}{ρ:y0}{Q:Unit→Shared→Prop}{E:Value→Shared→Prop}
theorem Qa{x:Str}{p:Pos}{i:Nat}{v:V}{r:Value}(hk0:en.scope.kind = .function)(ok:s8 b sc=true)(c:CS C t s a0 Cl wr t' s' ys m)(L:Pa C (W1 b sc).tb sc t' s'.heap m ρ)(vr:G0 C t' s'.heap v r)(e:(W1 b sc).tgt x=some i)
  (q:∀ h' m' tk',CS C t s a0 Cl wr t' { s' with heap:=h',toks:=tk' } ys m'→Pa C (W1 b sc).tb sc t' h' m' (R2 ρ i (some v))→Heap.SameBut Cl s'.heap h'→Mo t' s'.heap t' h'→Q () { s' with heap:=h',toks:=tk' }) :
  wpAny (model pw C.w) A (assign (.Name x p) (compEnvC sc cl Cl en) r) Q E s':=by
 refine R7 (Z7 ok) fun k1 Z k3 Z=>?_
 have hk:(compEnvC sc cl Cl en).kindOf x=some .local:=(k9 hk0 x).trans (congrArg (Option.map (Oa en x)) (ya e).1)
 refine f0 (PySem.assign_Name ..) ?_
 refine wpAny_bind (wpAny_standAt (wpAny_bindName (wpAny_storeName_local hk c.ns (fun h' hn' hs'=>?_) (by refine f0 (show (compEnvC sc cl Cl en).scope.kind = .function from k1) ?_;rfl))))
 obtain ⟨c',mo⟩:=c.store (tk':=s'.toks+1) hn' hs'
 exact q h' _ _ c' (Pa.set k3 e (vr.go mo v) (L.mono mo)) hs' mo
theorem sj{tg:Expr}{ts:List Nat}{pat:Bool}{v:V}{r:Value}{Kp:y0→Prop}(hh:A.handled=none)(hk0:en.scope.kind = .function)(ok:s8 b sc=true)(c:CS C t s a0 Cl wr t' s' ys m)(nn:Y7 wr s'.heap)
  (L:Pa C (W1 b sc).tb sc t' s'.heap m ρ) (vr:G0 C t' s'.heap v r) (ht:(W1 b sc).tgts tg=some (ts,pat)) (hb:we ts pat v ρ Kp)
  (q:∀ h' m' tk' ρ',CS C t s a0 Cl wr t' { s' with heap:=h',toks:=tk' } ys m'→Pa C (W1 b sc).tb sc t' h' m' ρ'→(∀ i,i<b.nx→A1 ρ' i=A1 ρ i)→(∀ bb∈wr,∀ o,s'.heap.get? bb=some o→h'.get? bb=some o)→Mo t' s'.heap t' h'→Kp ρ'→Q () { s' with heap:=h',toks:=tk' }) :
  wpAny (model pw C.w) A (assign tg (compEnvC sc cl Cl en) r) Q E s':=by
 refine R7 (Z7 ok) fun Z Z k3 Z=>?_
 have off:∀ bb∈wr,bb≠Cl:=fun bb hb q=>nn.off ((Me c.ns).imp fun Z z=>⟨z.1,z.2.1⟩) (q▸hb)
 have low:∀ {x i j},(W1 b sc).tgt x=some i→j<b.nx→j≠i:=fun e hj q=>Nat.lt_irrefl _ (Nat.lt_of_lt_of_le (q▸hj) (yA k3 e))
 cases Le ht with
 | one ei =>
  exact Qa hk0 ok c L vr ei fun h' m' tk' c' L' hs mo=>q h' m' tk' _ c' L' (fun j hj=>T1 ρ _ (low ei hj)) (fun bb hb o e=>(hs.2 bb (off bb hb)).trans e) mo hb
 | two ei ej =>
  refine Y1 (Ja hb) ?_;(repeat clear hb);intro K xs xI hb;obtain rfl:=xI
  induction K using Ag.casesOn with
  | tup =>
   refine Y1 (Zk hb) ?_;(repeat clear hb);intro u w vI hb;obtain rfl:=vI
   refine O8 vr.d.tup ?_;(repeat clear vr);intro a its rI tI vr hsz _;obtain rfl:=rI;refine F1 tI ?_;(repeat clear tI);intro o ho hc uI;obtain ⟨mm,hd⟩:=uI
   refine Z0 (G6 vr) fun r1 r2 er v1 v2=>?_
   refine wpAny_assign_Tuple hh (A2 o ho hc ⟨mm,hd⟩) (by refine f0 (hsz ..) ?_;rfl) (by rfl) fun h' he=>?_
   have keep:∀ b o,s'.heap.get? b=some o→h'.get? b=some o:=fun b o e=>he b o (fun q=>Q5 (M2 _ (Nat.le_of_eq q.symm)) e) e
   have k0:Mo t' s'.heap t' h' := .more c.hx.rel c.own keep
   have c1:=c.step (s2:={ s' with heap:=h' }) ⟨Tr.more c.hx.rel c.own keep,rfl,rfl⟩
   refine f0 (er ..) ?_
   show wpAny _ _ (holding [r2] (assign (.Name _ _) _ r1) >>= fun Z=>(holding [] (assign (.Name _ _) _ r2) >>= fun Z=>pure ())) _ _ _
   refine wpAny_bind (wpAny_holding (Qa hk0 ok c1 (L.mono k0) (v1.go k0 u) ei fun h2 m2 t2 c2 L2 hs2 mo2=>?_))
   refine wpAny_bind (wpAny_holding (Qa hk0 ok c2 L2 ((v2.go k0 w).go mo2 w) ej fun h3 m3 t3 c3 L3 hs3 mo3=>wpAny_pure ?_))
   exact q h3 m3 t3 _ c3 L3 (fun j hj=>(T1 _ _ (low ej hj)).trans (T1 ρ _ (low ei hj))) (fun bb hb o e=>(hs3.2 bb (off bb hb)).trans ((hs2.2 bb (off bb hb)).trans (keep _ _ e))) ((k0.on mo2).on mo3) hb
  | _=>exact hb.elim
end
noncomputable def wg(B:Bk)(ifs:List Expr)(tc:E):Prop:=(ifs=[]∧tc = .k (.bool true))∨∃ c,ifs=[c]∧SB B c tc
theorem Ql{B:Bk}{A:Around}{l:List Env}{en:Env}{ρ:y0}{t:St}{s:Shared}{ifs:List Expr}{tc:E}(w:wg B ifs tc)(h:W0 B ⟨A,l,en,ρ,dg⟩ t s){P:Bool→y0→Prop}(q:VB B.L.f dg tc ρ t.σ P) :
  wpAny (model pw B.C.w) A (forIn ifs true fun c r=>if r=true then do let ok ←isTrue c en (eval c en);pure (ForInStep.yield ok) else pure (ForInStep.yield r)) (td B.C t s P) Oe s:=by
 rcases w with ⟨rfl,rfl⟩|⟨c,rfl,hc⟩
 ·exact wpAny_tests_nil (C0 t (.refl h.rel) q)
 ·refine wpAny_tests_one (wpAny_mono (hc _ _ _ _ h q) (fun Z Z y=>y) fun e s' f=>?_)
  refine jr f ?_;(repeat clear f);intro _ _ _ _ _ _ _ z _
  exact z
theorem tj{α:Type}{l:List α}{i:Nat}{v:α}(e:l[i]?=some v):l.drop i=v::l.drop (i+1):=by
 obtain ⟨hi,e⟩:=List.getElem?_eq_some_iff.mp e
 exact f0 (List.drop_eq_getElem_cons hi ..) (f0 (e ..) rfl)
open PySem.Calls
section
variable{B:Bk}{K:Fr}{t t1:St}{s s1:Shared}{wr:List Addr}{a0 Cl:Addr}{m:Str→Option Value}{sc:Scope}{cl:List (Str×Addr)}
noncomputable abbrev Qs(L:F7)(tc te:E)(ρ' σ':y0)(K:Option V→y0→Prop):Prop :=
 w5 L dg tc ρ' σ' fun l σ'=>a1 l fun u=>bP u fun b=>Bf b (w5 L dg te ρ' σ' fun l σ'=>a1 l fun v=>K (some v) σ') (K none σ')
theorem Vp{elt tg it:Expr}{ifs:List Expr}{pos:Pos}{te tc:E}{ts:List Nat}{pat:Bool}{itA:Addr}{xs:List V}{g:Option Nat}{I:Nat→St→Heap→Prop}{Mid:Nat→Value→St→Heap→Prop}{R:Result→Shared→Prop}{Qe:List V→y0→Prop}
  (ok:s8 B.b sc=true) (he:SE (B.comp sc) elt te) (hc:wg (B.comp sc) ifs tc) (ht:(W1 B.b sc).tgts tg=some (ts,pat)) (e2:∀ y,(y,NameKind.free)∈sc.names→cl.lookup y=K.en.cells.lookup y) (e3:∀ y c,cl.lookup y=some c→K.en.cells.lookup y=some c)
  (h:W0 B K t s) (W:Np B.C itA wr xs g false I Mid) (hlen:db xs.length)
  (K5:∀ t' s' ys m,CS B.C t s a0 Cl wr t' s' ys m→db ys.length→Qe ys t'.σ→R (.ok .next) s')
  (c:CS B.C t s a0 Cl wr t1 s1 [] m) (st:I 0 t1 s1.heap) (k:Z4 (Qs B.L.f tc te) (K.ρ.take B.b.nx) ts pat (R8 g xs) xs t1.σ [] Qe) :
  codeAny (model pw B.C.w) K.A (.compLoop (.ListComp elt [⟨tg,it,ifs,0⟩] sc pos) 0 (.ref itA) (.ref a0) (compEnvC sc cl Cl K.en)) R s1:=by
 refine R7 (Z7 ok) fun k1 k2 k3 k4=>?_
 refine Up (fun k s'=>∃ i t' ys m,k+i=xs.length∧CS B.C t s a0 Cl wr t' s' ys m∧I i t' s'.heap∧Z4 (Qs B.L.f tc te) (K.ρ.take B.b.nx) ts pat (R8 g xs) (xs.drop i) t'.σ ys Qe∧ys.length≤i) (fun k s' hI=>?_) xs.length ⟨0,t1,[],m,rfl,c,st,k,Nat.le_refl _⟩
 refine LC hI ?_;(repeat clear hI);intro i t2 ys m2 hk c2 st2 kg hy
 have hi:i≤xs.length:=hk▸Nat.le_add_left ..
 have g2:gd g xs t2.σ:=by
  cases q:xs.drop i with
  | nil=>rw [q] at kg;exact (sd kg).1
  | cons v r=>rw [q] at kg;exact (sd kg).1
 refine W.next i K.A s' t2 _ _ h.amb.hand c2.hx.rel c2.own g2 st2 (fun v hv r s3 y3 mid vr=>?_) (fun hv s3 y3=>?_)
 ·rw [tj hv] at kg
  obtain ⟨_,kf⟩:=sd kg
  have c3:=c2.rk (W.live i _ _ st2) y3
  refine W.go i r K.A s3 t2 _ _ tg (fun Z=>Bool.noConfusion Z) c3.hx.rel c3.own mid fun s4 y4 st4=>?_
  have c4:=c3.rk (W.liveM i r _ _ mid) y4
  have vr4:G0 B.C t2 s4.heap v r:=vr.go (Mo.rk c3.hx.rel c3.own (W.liveM i r _ _ mid) y4) v
  refine sj h.amb.hand h.env.kind ok c4 (W.live _ _ _ st4) (Pa.start k3) vr4 ht kf fun h5 m5 tk5 ρ5 c5 L5 low kw mo5 kf5=>?_
  have st5:I (i+1) t2 h5:=W.keep (i+1) _ _ _ _ st4 mo5 kw
  have h5':=c5.here h ok e2 e3 L5 fun j hj=>(low j hj).trans (Gb hj)
  refine wpAny_mono (Ql hc h5' kf5) (fun okc s6 h6=>?_) fun Z Z y=>y
  refine A0 h6 ?_;(repeat clear h6);intro t6 y6 q6
  have keepI:∀ {i t t' s s'},W0 (B.comp sc) ⟨K.A,K.l,compEnvC sc cl Cl K.en,ρ5,dg⟩ t s→O3 B.C no t s t' s'→I i t s.heap→I i t' s'.heap:=fun {i t t' s s'} hh y st=>W.keep i _ _ _ _ st (hh.mo y) fun b hb o e=>by
   refine A0 (W.live _ _ _ st b hb) fun o1 e1 n1=>?_
   have nc:¬t.cel b:=fun f=>(hh.rel.celA f).elim fun o2 z=>n1 (Option.some.inj (z.1.symm.trans e1)▸z.2)
   have ns:¬t.sl b:=fun f=>(hh.own b (hh.rel.sub b f)).elim fun o2 z=>n1 (Option.some.inj (z.1.symm.trans e1)▸z.2.1)
   refine F1 (y.tr.keep b o e nc id) fun o' e' q Z=>?_
   exact q ns▸e'
  have st6:=keepI h5' y6 st5
  have c6:=c5.step y6
  have hlt:i<xs.length:=(List.getElem?_eq_some_iff.mp hv).1
  obtain ⟨k',rfl⟩:∃ k',k=k'+1:=Nat.exists_eq_succ_of_ne_zero fun q=>Nat.lt_irrefl _ (by rw [q,Nat.zero_add] at hk;exact hk▸hlt)
  have hk':k'+(i+1)=xs.length:=(Nat.succ_add_eq_add_succ k' i).symm.trans hk
  induction okc using Bool.casesOn with
  | false=>exact C0 k' (Nat.lt_succ_self _) ⟨i+1,t6,ys,m5,hk',c6,st6,(List.append_nil ys)▸q6,Nat.le_succ_of_le hy⟩
  | true =>
   have h6':=h5'.ext y6
   show wpAny _ K.A _ _ _ _
   refine wpAny_mono (he _ _ _ _ h6' q6) (fun x s7 h7=>?_) fun e s' f=>?_
   ·refine Z0 h7 ?_;(repeat clear h7);intro t7 u y7 vu q7
    have st7:=keepI h6' y7 st6
    have c7:=c6.step y7
    refine c7.append vu (Nat.le_trans (Nat.succ_le_of_lt (Nat.lt_of_le_of_lt hy hlt)) hlen) fun h8 c8 hs8 mo8=>?_
    have st8:I (i+1) t7 h8:=W.keep (i+1) _ _ _ _ st7 mo8 fun bb hb o e=>(hs8.2 bb fun z=>(W.live _ _ _ st7).off (c7.acc.elim fun its x=>x.elim fun k z=>C0 _ z.1 (J4 rfl)) (z▸hb)).trans e
    exact C0 k' (Nat.lt_succ_self _) ⟨i+1,t7,ys++[u],m5,hk',c8,st8,q7,by refine f0 (List.length_append ..) ?_;exact Nat.succ_le_succ hy⟩
   ·refine jr f ?_;(repeat clear f);intro _ _ _ _ _ _ _ z _
    exact z
 ·rw [List.drop_eq_nil_of_le (List.getElem?_eq_none_iff.mp hv)] at kg
  exact K5 t2 s3 ys m2 (c2.rk (W.live i _ _ st2) y3) (Nat.le_trans hy (Nat.le_trans hi hlen)) (sd kg).2
end
open PySem.Calls
section
variable{B:Bk}{K:Fr}{t t1:St}{s s1:Shared}{sc:Scope}
noncomputable def Jw(B:Bk)(K:Fr)(t:St)(s:Shared)(Q:LP)(QQ:Value→Shared→Prop)(EE:Value→Shared→Prop)(use:Option (Value→Sem Unit)):Prop :=
 ∀ t' s' r v Cl,Hx B.C no (·=Cl) no t s.heap t' s'.heap→U1 t' s'.heap→s'.gens=s.gens→s'.os=s.os→G0 B.C t' s'.heap v r→Q [v] t'.σ→(∃ m,s'.heap.Ns Cl m) →
  match use with
  | none=>∀ h',Heap.SameBut Cl s'.heap h'→QQ r { s' with heap:=h' }
  | some u=>wpAny (model pw B.C.w) K.A (u r) (fun Z s''=>∃ m,s''.heap.Ns Cl m∧∀ h',Heap.SameBut Cl s''.heap h'→QQ .none { s'' with heap:=h' }) EE s'
theorem uj{elt tg it:Expr}{ifs:List Expr}{pos p:Pos}{use:Option (Value→Sem Unit)}{te tc ti:E}{ik:IK}{md:Md}{ts:List Nat}{pat:Bool}{fv:List Nat}{Q:LP}{QQ:Value→Shared→Prop}{EE:Value→Shared→Prop}
  (ok:s8 B.b sc=true) (hi:SI B it ik ti) (hen:ik.pat=false) (he:SE (B.comp sc) elt te) (hc:wg (B.comp sc) ifs tc) (ht:(W1 B.b sc).tgts tg=some (ts,pat))
  (hfv:fv=(sc.names.filter fun x=>x.2 == .free).filterMap fun x=>B.b.tb.lookup x.1) (hs:∀ x,foldedSetIterable it K.en x=pure x)
  (h:W0 B K t s) (q:w5 B.L.f K.X (.comp B.b.nx fv ts pat ik md ti te tc) K.ρ t.σ Q) (hfin:Jw B K t s Q QQ EE use) (hex:∀ e s',XP B K t s e s'→EE e s') :
  wpAny (model pw B.C.w) K.A (comprehension (.ListComp elt [⟨tg,it,ifs,0⟩] sc pos) sc K.en p (newList []) false (eval it K.en) use) QQ EE s:=by
 refine R7 (Z7 ok) fun k1 k2 k3 k4=>?_
 obtain ⟨q0,q⟩:=V4 q
 obtain ⟨cl,e1,e2,e3⟩:=Nl (env:=K.en) (sc:=sc) fun x hx e=>by
  obtain ⟨kk,wI⟩:=k4 x hx e;refine A0 wI ?_;(repeat clear wI);intro i ei hi
  obtain ⟨v,ev⟩:=Option.isSome_iff_exists.mp (xe q0 i (hfv▸List.mem_filterMap.mpr (C0 x (List.mem_filter.mpr ⟨hx,by refine f0 (e ..) ?_;rfl⟩) ei)))
  exact (h.env.cel x.1 i v ei ev (kk.elim (fun z => .inl (h.sc.eq z nofun)) fun z=>(h.sc x.1).elim (fun w => .inr (w.trans z)) fun w => .inl w.2)).imp fun Z z=>z.elim fun Z y=>y.1
 refine wpAny_comprehension_free rfl hs e1 k1 (fun x hx e=>l5 k3 (by refine P5 (e ..) ?_;exact hx)) ?_
 refine wpAny_mono (hi K t s (fun xs g σ=>Z4 (Qs B.L.f tc te) (K.ρ.take B.b.nx) ts pat (R8 g xs) xs σ [] fun ys σ=>Oi md (.a .lst ys) σ fun v σ=>Q [v] σ) h q) (fun xv s1 h1=>wpAny_mono h1 (fun itv s2 h2=>?_) hex) hex
 refine MC h2 ?_;(repeat clear h2);intro t1 itA wr xs g I Mid rI x1 W fw st0 hlen kgo;obtain rfl:=rI
 rw [hen] at W
 have h2:=h.ext x1
 refine wpAny_newObj_type ?_
 refine wpAny_newFunctionEnv k2 (fun x hx=>(List.not_mem_nil hx).elim) (fun h' hn' hsb=>?_) k1
 have kp:∀ b o,(s2.heap.push (listOf #[] 0)).get? b=some o→h'.get? b=some o:=fun b o e=>(hsb.2 b fun q=>Q5 (M2 _ (Nat.le_of_eq q.symm)) e).trans (Heap.get?_push_of_some _ e)
 have keep:∀ b o,s2.heap.get? b=some o→h'.get? b=some o:=fun b o e=>kp b o (Heap.get?_push_of_some _ e)
 have sz:(s2.heap.push (listOf #[] 0)).objs.size=s2.heap.objs.size+1:=Array.size_push ..
 have ne:s2.heap.objs.size≠(s2.heap.push (listOf #[] 0)).objs.size:=sz▸Nat.ne_of_lt (Nat.lt_succ_self _)
 have acc:h'.get? s2.heap.objs.size=some (listOf #[] 0):=kp _ _ (Heap.get?_push_size _ rfl)
 have fr:∀ b,b=s2.heap.objs.size∨b=(s2.heap.push (listOf #[] 0)).objs.size→s2.heap.get? b=none:=fun b hb=>M2 _ (hb.elim (fun q=>Nat.le_of_eq q.symm) fun q=>by refine f0 (q ..) (f0 (sz ..) ?_);exact Nat.le_succ _)
 obtain ⟨R1,O1,m1⟩:=Cw (F:=no) h2.rel h2.own keep fr (fun Z=>False.elim) fun b hb=>hb.elim (fun q=>by refine f0 (q ..) ?_;exact Vn acc) fun q=>by refine f0 (q ..) ?_;exact Me hn'
 have hx:=(Hx.start (ex:=no) (F:=no) h2.rel h2.own keep fr (fun Z=>False.elim) fun b hb=>O1 b (.inr hb)).pre x1.tr
 have c0:CS B.C t s s2.heap.objs.size (s2.heap.push (listOf #[] 0)).objs.size wr (t1.hid (fun b=>b=s2.heap.objs.size∨b=(s2.heap.push (listOf #[] 0)).objs.size) no) { s2 with heap:=h',toks:=s2.toks+0 } [] (fun x=>([]:List (Str×Value)).reverse.lookup x) :=
  ⟨hx,⟨x1.gens,x1.os⟩,O1,fw,ne,(W4 (#[]) 0 acc rfl),hn',h.rel,h.own⟩
 have st1:=W.keep 0 _ _ _ _ st0 m1 fun b Z o e=>keep b o e
 have loop:=Vp (it:=it) (pos:=pos) (m:=fun x=>([]:List (Str×Value)).reverse.lookup x) (R:=compPost (model pw B.C.w) K.A EE use QQ (.ref s2.heap.objs.size) (s2.heap.push (listOf #[] 0)).objs.size) ok he hc ht e2 e3 h W hlen (fun t' s' ys m c hb qe=>?_) c0 st1 kgo
 ·exact codeAny_compStart_list loop (W.self 0 _ _ _ _ _ st1 loop)
 ·refine Y1 c.acc fun its k e vr=>?_
  refine O8 (c.hx.adopt (P':=(·=(s2.heap.push (listOf #[] 0)).objs.size)) h.rel h.own c.own (.inl rfl) (fun b q=>⟨.inr q,fun z=>c.ne (z.symm.trans q)⟩) (fun Z=>False.elim) (m:=md) (K := .lst) nofun ⟨rfl,its,k,e,rfl,vr.len.symm▸hb⟩ vr qe) ?_;(repeat clear _);intro t2 v H O2 _ vv qv
  have z:=hfin t2 s' _ v _ H O2 c.gs.1 c.gs.2 vv qv ⟨m,c.ns⟩
  induction use using Option.casesOn with
  | none=>exact C0 m c.ns z
  | some u=>exact z
theorem Wn{elt tg it:Expr}{ifs:List Expr}{pos:Pos}{te tc ti:E}{ik:IK}{md:Md}{ts:List Nat}{pat:Bool}{fv:List Nat}
  (ok:s8 B.b sc=true) (hi:SI B it ik ti) (hen:ik.pat=false) (he:SE (B.comp sc) elt te) (hc:wg (B.comp sc) ifs tc) (ht:(W1 B.b sc).tgts tg=some (ts,pat))
  (hfv:fv=(sc.names.filter fun x=>x.2 == .free).filterMap fun x=>B.b.tb.lookup x.1) (hs:∀ en x,foldedSetIterable it en x=pure x):SE B (.ListComp elt [⟨tg,it,ifs,0⟩] sc pos) (.comp B.b.nx fv ts pat ik md ti te tc):=fun K t s Q h q=>by
 show wpAny _ K.A (comprehension (.ListComp elt [⟨tg,it,ifs,0⟩] sc pos) sc K.en _ (newList []) false (eval it K.en) none) _ _ s
 refine uj (use:=none) ok hi hen he hc ht hfv (hs K.en) h q (fun t' s' r v Cl H O' g o vr qv Z h' hsb=>?_) fun Z Z f=>f
 obtain ⟨T,m⟩:=H.lose h.rel O' hsb
 exact L1 (t'.as t.ow t.sl) v ⟨T,g,o⟩ (vr.go m v) qv
end
open PySem.Calls
structure vG(en:Env)(tb:vC)(lr:List Env):Prop where
 fr:en.frame=some en.locals
 apart:en.cells.Pairwise fun x y=>x.2≠y.2
 inj:∀ x y i,tb.lookup x=some i→tb.lookup y=some i→x=y
 out:∀ env∈lr,∀ L,env.frame=some L→¬i3 en L
 has:∀ x,en.kindOf x=some .cell→∃ c,en.cells.lookup x=some c
noncomputable abbrev Fr.at(K:Fr)(ρ:y0):Fr:=⟨K.A,K.l,K.en,ρ,K.X⟩
structure I1(B:Bk)(K:Fr)(t:St)(s:Shared):Prop where
 h:W0 B K t s
 l:K.l=K.en::K.l.tail
 sc:K.en.scope=B.b.sc
 f:vG K.en B.b.tb K.l.tail
 cells:∀ x c,K.en.cells.lookup x=some c→∃ v,s.heap.IsCell c v
noncomputable def za(B:Bk)(K:Fr)(t:St)(s:Shared)(N:y0→y0→Prop)(R:X0)(f:Flow)(s':Shared):Prop:=match f with
 | .next=>∃ t' ρ',O3 B.C (i3 K.en) t s t' s'∧I1 B (K.at ρ') t' s'∧N ρ' t'.σ
 | .ret v=>∃ t' x,O3 B.C (i3 K.en) t s t' s'∧U1 t' s'.heap∧G0 B.C t' s'.heap x v∧R x t'.σ
 | _=>False
noncomputable def SX(B:Bk)(K:Fr)(t:St)(s:Shared)(e:Value)(s':Shared):Prop:=Z1 B.C (i3 K.en) K.l none t s K.X e s'∨Z1 B.C (i3 K.en) K.l (some K.en.locals) t s K.X e s'
noncomputable def SS(B:Bk)(st:Stmt)(p:S):Prop:=∀ K t s N R,I1 B K t s→I4 B.L.f K.X p K.ρ t.σ N R→wpAny (model pw B.C.w) K.A (exec st K.en) (za B K t s N R) (SX B K t s) s
noncomputable def Kw(B:Bk)(st:List Stmt)(p:S):Prop:=∀ K t s N R,I1 B K t s→I4 B.L.f K.X p K.ρ t.σ N R→wpAny (model pw B.C.w) K.A (execs st K.en) (za B K t s N R) (SX B K t s) s
theorem Xn{h:Heap}{a:Addr}{v:Option Value}(x:h.IsCell a v):∃ o,h.get? a=some o∧Y4 o∧¬Wi o :=
 x.imp fun Z z=>V0 z.1 (fun Z q=>Data.noConfusion (z.2.symm.trans q)) (fun i=>i.2.elim fun Z x=>x.elim fun Z q=>Data.noConfusion (z.2.symm.trans q))
section
variable{B:Bk}{K:Fr}{t t' t'':St}{s s' s'':Shared}{pos p2:Pos}{N:y0→y0→Prop}{R:X0}{ρ':y0}
theorem I1.ext(h:I1 B K t s)(x:O3 B.C no t s t' s'):I1 B K t' s' :=
 ⟨h.h.ext x,h.l,h.sc,h.f,fun y c e=>(h.cells y c e).imp fun v hc=>m6 hc fun o e'=>x.tr.data h.h.rel (h.h.oa c (.inr ⟨y,e⟩)) e' id⟩
theorem I1.slL(h:I1 B K t s):t.sl K.en.locals:=by
 obtain ⟨_,uI⟩:=h.h.fr K.en (h.l.symm ▸ .head _);refine da uI ?_;(repeat clear uI);intro L _ _ _ hf w _
 exact Option.some.inj (hf.symm.trans h.f.fr)▸w
theorem I1.own(h:I1 B K t s){L0:Addr}(o0:i3 K.en L0){h':Heap}{tk:Nat}(sb:Heap.SameBut L0 s.heap h')(al:∃ o,h'.get? L0=some o∧Y4 o∧¬Wi o){m':Str→Option Value}(hn:h'.Ns K.en.locals m')
  (hl:Mo t s.heap t h'→∀ y j u,B.b.tb.lookup y=some j→A1 ρ' j=some u→K.en.kindOf y=some .local→∃ r,m' y=some r∧G0 B.C t h' u r) (hc:∀ y c,K.en.cells.lookup y=some c→∃ v,h'.IsCell c v)
  (hv:Mo t s.heap t h'→∀ y j u,B.b.tb.lookup y=some j→A1 ρ' j=some u→(K.en.kindOf y=some .cell∨K.en.kindOf y=some .free)→∃ c r,K.en.cells.lookup y=some c∧h'.IsCell c (some r)∧G0 B.C t h' u r) :
  O3 B.C (i3 K.en) t s t { s with heap:=h',toks:=tk }∧I1 B (K.at ρ') t { s with heap:=h',toks:=tk }:=by
 obtain ⟨T,m⟩:=Tr.own h.h.rel h.h.own (h.h.oa L0 o0) sb (al.imp fun Z z=>z.1)
 refine ⟨⟨T.weaken fun b q=>by refine f0 (show b=L0 from q) ?_;exact o0,rfl,rfl⟩,⟨h.h.ok,h.h.amb,fun env he=>?_,h.h.sc,⟨h.h.env.kind,h.h.env.glob,h.h.env.blt,(C0 m' hn (hl m)),h.h.env.nloc,fun y j u a b c=>(hv m y j u a b c).imp fun c z=>z.imp fun r w=>E3 w.1 w.2.1 w.2.2 (h.h.oa c (.inr ⟨y,w.1⟩))⟩,T.rel,h.h.own.tr h.h.rel T fun b q=>by refine f0 (show b=L0 from q) ?_;exact al,h.h.oa⟩,h.l,h.sc,h.f,hc⟩
 have he:env∈K.en::K.l.tail:=h.l▸he
 rcases List.mem_cons.mp he with rfl|he
 ·refine nh (Bh hn) fun o es n ho hd=>?_
  exact ⟨by refine f0 (h.h.env.kind ..) ?_;exact nofun,_,o,es,n,h.f.fr,h.slL,ho,hd⟩
 ·exact l4.tr (l:=K.l.tail) (fun env he=>h.h.fr env (h.l.symm ▸ .tail _ he)) h.h.rel T (fun env he L hf q=>h.f.out env he L hf (by refine f0 (show L=L0 from q) ?_;exact o0)) env he
theorem Ra{h:Heap}{L c:Addr}{m:Str→Option Value}{v:Option Value}(n:h.Ns L m)(x:h.IsCell c v):c≠L:=fun q=>by
 subst q
 refine nh (Bh n) fun o es ep ho hd=>?_
 refine A0 x ?_;(repeat clear x);intro o' ho' hd'
 obtain rfl:=Option.some.inj (ho.symm.trans ho')
 exact Data.noConfusion (hd.symm.trans hd')
theorem N4{x:Str}{i:Nat}{v:V}{r:Value}{E:Value→Shared→Prop}(h:I1 B K t s)(ei:B.b.tb.lookup x=some i)(hk:K.en.kindOf x=some .local∨K.en.kindOf x=some .cell)(vr:G0 B.C t s.heap v r) :
  wpAny (model pw B.C.w) K.A (storeName K.en x r) (fun Z s'=>O3 B.C (i3 K.en) t s t s'∧I1 B (K.at (R2 K.ρ i (some v))) t s') E s:=by
 refine A0 h.h.env.loc fun m hm hv=>?_
 have nx:∀ {y j},B.b.tb.lookup y=some j→j≠i→y≠x:=fun ey hj q=>hj (Option.some.inj (ey.symm.trans ((congrArg (fun z=>B.b.tb.lookup z) q).trans ei)))
 have old:∀ {j u},j≠i→A1 (R2 K.ρ i (some v)) j=some u→A1 K.ρ j=some u:=fun hj e=>(T1 K.ρ _ hj).symm.trans e
 rcases hk with hk|hk
 ·refine wpAny_storeName_local hk hm (fun h' hn' hsb=>h.own (.inl rfl) hsb (Me hn') hn' (fun mo y j u ey ej ky=>?_) (fun y c e=>(h.cells y c e).imp fun v' hc=>hc.sameBut hsb (Ra hm hc)) fun mo y j u ey ej ky=>?_) (by refine f0 (h.h.env.kind ..) ?_;rfl)
  ·by_cases hj:j=i
   ·subst hj
    exact C0 r (if_pos (h.f.inj _ _ _ ey ei)) (Option.some.inj ((N1 K.ρ j _).symm.trans ej)▸vr.go mo v)
   ·exact (hv y j u ey (old hj ej) ky).imp fun r' z=>⟨(if_neg (nx ey hj)).trans z.1,z.2.go mo u⟩
  ·have hj:j≠i:=fun q=>by
    have e:y=x:=h.f.inj _ _ _ ey (q▸ei)
    subst e
    rw [hk] at ky
    exact ky.elim nofun nofun
   exact (h.h.env.cel y j u ey (old hj ej) ky).imp fun c z=>z.imp fun r' w=>V0 w.1 (w.2.1.sameBut hsb (Ra hm w.2.1)) (w.2.2.1.go mo u)
 ·obtain ⟨c,ec⟩:=h.f.has x hk
  obtain ⟨v0,hc⟩:=h.cells x c ec
  refine wpAny_storeName_cell h.h.env.kind hk ec hc fun h' hc' hsb=>?_
  have other:∀ y c',K.en.cells.lookup y=some c'→y≠x→c'≠c:=fun y c' e' ne q=>ne (name_of_addr h.f.apart (mem_of_lookup e') (q▸mem_of_lookup ec))
  refine h.own (tk:=s.toks) (.inr ⟨x,ec⟩) hsb (Xn hc') (hm.sameBut hsb fun q=>Ra hm hc q.symm) (fun mo y j u ey ej ky=>?_) (fun y c' e=>?_) fun mo y j u ey ej ky=>?_
  ·have hj:j≠i:=fun q=>by
    have e:y=x:=h.f.inj _ _ _ ey (q▸ei)
    subst e
    exact NameKind.noConfusion (Option.some.inj (hk.symm.trans ky))
   exact (hv y j u ey (old hj ej) ky).imp fun r' z=>⟨z.1,z.2.go mo u⟩
  ·by_cases q:y=x
   ·subst q
    exact Option.some.inj (ec.symm.trans e)▸⟨_,hc'⟩
   ·exact (h.cells y c' e).imp fun v' hcc=>hcc.sameBut hsb (other y c' e q)
  ·by_cases hj:j=i
   ·subst hj
    have e:y=x:=h.f.inj _ _ _ ey ei
    subst e
    exact L1 c r ec hc' (Option.some.inj ((N1 K.ρ j _).symm.trans ej)▸vr.go mo v)
   ·exact (h.h.env.cel y j u ey (old hj ej) ky).imp fun c' z=>z.imp fun r' w=>V0 w.1 (w.2.1.sameBut hsb (other y c' w.1 (nx ey hj))) (w.2.2.1.go mo u)
end
open PySem.Calls
section
variable{B:Bk}{K:Fr}{t t' t'':St}{s s' s'':Shared}{pos p2:Pos}{N:y0→y0→Prop}{R:X0}{ρ':y0}
set_option tactic.hygienic true in
theorem za.trans{f:Flow}(x:O3 B.C (i3 K.en) t s t' s')(p:za B (K.at ρ') t' s' N R f s''):za B K t s N R f s'':=by
 induction f using Flow.casesOn with
 | next=>exact p.imp fun Z p=>p.imp fun Z z=>⟨x.trans z.1,z.2⟩
 | ret v=>exact p.imp fun Z p=>p.imp fun Z z=>⟨x.trans z.1,z.2⟩
 | _=>exact p.elim
theorem SX.trans{e:Value}(R:Y0 B.C t s.heap)(x:O3 B.C (i3 K.en) t s t' s')(p:SX B (K.at ρ') t' s' e s''):SX B K t s e s'':=p.imp (Z1.trans R x) (Z1.trans R x)
theorem SX.of0{e:Value}(p:XP B K t s e s'):SX B K t s e s' := .inl p.of0
theorem SS.go{m:Sem Flow}(h:I1 B K t s)(x:O3 B.C (i3 K.en) t s t' s')(w:wpAny (model pw B.C.w) K.A m (za B (K.at ρ') t' s' N R) (SX B (K.at ρ') t' s') s'):wpAny (model pw B.C.w) K.A m (za B K t s N R) (SX B K t s) s' :=
 wpAny_mono w (fun Z Z y=>za.trans x y) fun Z Z y=>SX.trans h.h.rel x y
theorem SE.go{e:Expr}{p:E}{Q:LP}{G:Value→Shared→Prop}(he:SE B e p)(h:I1 B K t s)(q:w5 B.L.f K.X p K.ρ t.σ Q)
  (go:∀ t' s' u r,I1 B K t' s'→O3 B.C (i3 K.en) t s t' s'→G0 B.C t' s'.heap u r→Q [u] t'.σ→G r s'):wpAny (model pw B.C.w) K.A (eval e K.en) G (SX B K t s) s :=
 wpAny_mono (he K t s Q h.h q) (fun Z s' hp=>hp.elim fun t' hp=>hp.elim fun u z=>go t' s' u _ (h.ext z.1) z.1.of0 z.2.1 z.2.2) fun Z Z y=>SX.of0 y
theorem Lw:Kw B [] .nil:=fun K t s N R h q=>wpAny_execs_nil (L1 t K.ρ (.refl h.h.rel) h q)
set_option tactic.hygienic true in
theorem Rs{st:Stmt}{r:List Stmt}{p q:S}(h1:SS B st p)(h2:Kw B r q):Kw B (st::r) (.cons p q):=fun K t s N R h w=>by
 refine wpAny_execs_cons (wpAny_mono (h1 K t s _ R h w) (fun f s' p=>?_) fun Z Z y=>y)
 induction f using Flow.casesOn with
 | next =>
  refine Z0 p ?_;(repeat clear p);intro t' ρ' x h' w'
  exact SS.go h x (h2 (K.at ρ') t' s' N R h' w')
 | ret v=>exact p
 | _=>exact p.elim
theorem Mw:SS B (.Pass pos) .pass:=fun K t s N R h q=>wpAny_Pass (L1 t K.ρ (.refl h.h.rel) h q)
theorem zA{e:Expr}{p:E}(he:SE B e p):SS B (.Return (some e) pos) (.ret p):=fun K t s N R h q =>
 wpAny_Return_some (he.go h q fun t' s' u r h' x vr q=>aa t' u x h'.h.own vr q)
theorem wj:SS B (.Return none pos) (.ret (.k .none)):=fun K t s N R h q=>wpAny_Return_none (aa t .none (.refl h.h.rel) h.h.own rfl q)
theorem xj{C:Cx}{A:Around}{e:Expr}{v:Value}{E:Value→Shared→Prop}{Q:Flow→Shared→Prop}(h:Q .next s):wpAny (model pw C.w) A (dropValue e pos v) Q E s:=by
 unfold dropValue
 split
 ·exact wpAny_pure h
 ·exact wpAny_bind (wpAny_standAt (wpAny_bind (wpAny_runValue (codeAny_builtin entry_let_go (show wpAny _ _ (ret .none) _ _ s from wpAny_pure (wpAny_pure h))))))
 ·exact wpAny_pure h
theorem Yn{e:Expr}(hc:yc e=false)(o:Option Expr)(l:Nat)(en:Env):swapsWith e o l en=pure false:=by
 induction e using Expr.casesOn with
 | ListComp|SetComp|DictComp=>exact Bool.noConfusion hc
 | _=>rfl
theorem Nw{e:Expr}{p:E}(he:SE B e p)(hc:yc e=false):SS B (.Expr e pos) (.expr p):=fun K t s N R h q=>by
 have hi:interactive K.en=false:=by unfold interactive;refine f0 (h.h.env.kind ..) ?_;rfl
 refine f0 (exec_Expr K.en e pos hi (Yn hc ..) ..) ?_
 exact wpAny_bind (wpAny_standAt (wpAny_bind (he.go h q fun t' s' u r h' x vr q=>xj (L1 t' K.ρ x h' q))))
theorem SB.go{e:Expr}{p:E}{Q:Bool→y0→Prop}{G:Bool→Shared→Prop}(he:SB B e p)(h:I1 B K t s)(q:VB B.L.f K.X p K.ρ t.σ Q)
  (go:∀ t' s' c,I1 B K t' s'→O3 B.C (i3 K.en) t s t' s'→Q c t'.σ→G c s'):wpAny (model pw B.C.w) K.A (isTrue e K.en (eval e K.en)) G (SX B K t s) s :=
 wpAny_mono (he K t s Q h.h q) (fun c s' hp=>hp.elim fun t' z=>go t' s' c (h.ext z.1) z.1.of0 z.2) fun Z Z y=>SX.of0 y
theorem CD{c:Expr}{x y:List Stmt}{pc:E}{px py:S}(hc:SB B c pc)(hx:Kw B x px)(hy:Kw B y py):SS B (.If c x y pos) (.ife pc px py):=fun K t s N R h q=>by
 refine wpAny_If (hc.go h q fun t' s' c h' z q=>?_)
 induction c using Bool.casesOn with
 | true=>exact SS.go h z (hx K t' s' N R h' q)
 | false=>exact SS.go h z (hy K t' s' N R h' q)
theorem Rl{o:Option NameKind}(h:Y6 o=true):o=some .local∨o=some .cell:=by
 induction o using Option.casesOn with
 | none=>exact Bool.noConfusion h
 | some k=>induction k using NameKind.casesOn<;>first|exact .inl rfl|exact .inr rfl|exact Bool.noConfusion h
theorem Ib(h:I1 B K t s){x:Str}(hk:Y6 (B.b.kd x)=true):K.en.kindOf x=some .local∨K.en.kindOf x=some .cell:=by
 have e:K.en.kindOf x=B.b.kd x:=congrArg (fun z:Scope=>z.names.lookup x) h.sc
 refine f0 (e ..) ?_
 exact Rl hk
theorem Ph{x:Str}{i:Nat}{e:Expr}{p:E}(he:SE B e p)(hc:yc e=false)(hk:Y6 (B.b.kd x)=true)(ei:B.b.tb.lookup x=some i):SS B (.Assign [.Name x p2] e pos) (.asg (.loc i) p):=fun K t s N R h q=>by
 refine wpAny_Assign_Name (he.go h q fun t' s' u r h' y vr q=>?_) (Yn hc ..)
 exact wpAny_mono (N4 h' ei (Ib h' hk) vr) (fun Z s'' hp=>L1 t' _ (y.trans hp.1) hp.2 q) fun Z Z y=>y
end
open PySem.Calls
section
variable{M:Model}{A:Around}{E:Value→Shared→Prop}{s:Shared}
theorem l9{base:Heap}{l:List Env}{e L:Addr}{cls a0 fl:Value}{Q:Unit→Shared→Prop}(hkb:base.StaysIn s.heap)(hen:base.get? e=none)(hl:s.heap.FunFrames base l)(ht:s.heap.TracedAtW base e cls a0 fl)
  (h:∀ h',Heap.HeldW base l e cls a0 L h'→s.heap.UpToSlots h'→Q () { s with heap:=h' }):wpAny M A (setFlight (.ref e) (some L)) Q E s:=by
 refine ZF ht ?_;(repeat clear ht);intro oe vs T oT ts he hcls hd h1 hnT hTe hT hdT h3
 have hsz3:3<ts.size:=(Array.getElem?_eq_some_iff.mp h3).1
 have other:∀ b,b≠T→(s.heap.update T (Obj.mapFields (·.setIfInBounds 3 ((some L).elim Value.none fun f=>rawInt f)))).get? b=s.heap.get? b :=
  fun b hb=>Heap.get?_update_other _ _ (Ne.symm hb)
 have noRecord:∀ b o,s.heap.get? b=some o→(∀ vs,o.data ≠ .fields vs)→b≠T:=fun b o hb hnf q=>hnf ts (Option.some.inj (hT.symm.trans (q▸hb))▸hdT)
 unfold setFlight
 refine wpAny_bind (wpAny_field he hd h1 ?_)
 refine f0 (if_pos (show (Value.ref T !=Value.none)=true from rfl) ..) ?_
 refine wpAny_setField hT hdT hsz3 (h _ (E3 (fun b o hbo=>(other b fun q=>Q5 hnT (q▸hbo)).trans (hkb b o hbo)) hen (hl.of_keeps fun b o hb hnf=>C0 o ((other b (noRecord b o hb hnf)).trans hb) rfl) ?_) fun b o hb hnf=>⟨o.slots,(other b (noRecord b o hb hnf)).trans hb⟩)
 exact HC oe vs T _ _ ((other e (Ne.symm hTe)).trans he) hcls hd h1 hnT hTe (Heap.get?_update_self _ hT (Obj.isFreed_of_fields (Obj.data_mapFields hdT _))) (Obj.data_mapFields hdT _) (Array.getElem?_setIfInBounds_self_of_lt hsz3)
end
section
variable{B:Bk}{K:Fr}{t t' t'':St}{s s' s'':Shared}{pos p2:Pos}{N:y0→y0→Prop}{R:X0}{ρ':y0}
theorem Aa{M:Model}{A:Around}{l:List Env}{en:Env}{Bx:Heap}{ea L:Addr}{cls a0:Value}{E:Value→Shared→Prop}(hf:en.frame=some L)(hh:Heap.HeldW Bx l ea cls a0 L s.heap)
  (h:∀ h',Heap.HeldW Bx l ea cls a0 L h'→s.heap.UpToSlots h'→E (.ref ea) { s with heap:=h' }):cameBackBy M A en E (.ref ea) s:=by
 refine R7 hh ?_;(repeat clear hh);intro f1 f2 f3 f4
 refine Ri (id f4) fun oe vs T oT ts he hcls hd h1 r=>?_
 unfold cameBackBy
 refine f0 (hf ..) ?_
 refine wpAny_bind (wpAny_field he hd h1 ?_)
 refine f0 (if_neg (show ¬((Value.ref T==Value.none)=true) from Bool.false_ne_true) ..) ?_
 first
  | exact wpAny_bind (wpAny_pure (l9 f1 f2 f3 f4 fun h' a b=>h h' a b))
  | exact l9 f1 f2 f3 f4 fun h' a b=>h h' a b
theorem Zn{e:Value}(h:I1 B K t s)(p:SX B K t s e s'):notedBy (model pw B.C.w) K.A K.en (fun e s''=>cameBackBy (model pw B.C.w) K.A K.en (SX B K t s) e s'') e s':=by
 unfold notedBy
 rcases p with p|p
 ·refine Ri p ?_;(repeat clear p);intro t' Bx ea cls a0 xI y q hc hf;obtain rfl:=xI
  have hfr:=h.h.amb.fr
  rw [h.l] at hfr hf
  refine wpAny_looks_onW hfr h.f.fr hf fun h' hheld hsm=>Aa h.f.fr hheld fun h'' hheld' hsm' => .inr (ir t' Bx ea cls a0 rfl (y.slots (hsm.trans hsm')) q hc ?_)
  exact h.l▸hheld'
 ·refine Ri p ?_;(repeat clear p);intro t' Bx ea cls a0 vI y q hc hf;obtain rfl:=vI
  refine wpAny_noteFrame_againW h.f.fr hf.2.2.2 ?_
  exact Aa h.f.fr hf fun h'' hheld' hsm' => .inr (ir t' Bx ea cls a0 rfl (y.slots hsm') q hc hheld')
set_option tactic.hygienic true in
theorem Ss{c:Expr}{x:List Stmt}{pc:E}{px:S}(hc:SB B c pc)(hx:Kw B x px):SS B (.While c x [] pos) (.whl pc px):=fun K t s N R h q=>by
 refine A0 q ?_;(repeat clear q);intro I tI step;obtain ⟨k,hk⟩:=tI
 refine wpAny_While (codeAny_whileLoop (fun k s'=>∃ t' ρ',O3 B.C (i3 K.en) t s t' s'∧I1 B (K.at ρ') t' s'∧I k ρ' t'.σ) (fun k s' hI=>?_) k (L1 t K.ρ (.refl h.h.rel) h hk))
 refine Z0 hI ?_;(repeat clear hI);intro t' ρ' y h' hi
 have out:∀ t2 s2 e s',I1 B (K.at ρ') t2 s2→O3 B.C (i3 K.en) t s t2 s2→SX B (K.at ρ') t2 s2 e s'→notedBy (model pw B.C.w) K.A K.en (fun e s''=>cameBackBy (model pw B.C.w) K.A K.en (SX B K t s) e s'') e s':=fun Z Z Z Z h2 y p=>Zn h (SX.trans h.h.rel y p)
 refine wpAny_mono (hc.go (K:=K.at ρ') h' (step k ρ' t'.σ hi) fun t2 s2 c h2 y2 q2=>?_) (fun Z Z z=>z) fun e s2 z=>out _ _ e s2 h' y z
 induction c using Bool.casesOn with
 | true =>
  refine wpAny_mono (hx (K.at ρ') t2 s2 _ R h2 q2) (fun f s3 hp=>?_) fun e s3 z=>?_
  ·induction f using Flow.casesOn with
   | next =>
    refine Z0 hp ?_;(repeat clear hp);intro t3 ρ3 y3 h3 rI;refine A0 rI ?_;(repeat clear rI);intro m hm hi3
    exact C0 m hm ⟨t3,ρ3,(y.trans y2).trans y3,h3,hi3⟩
   | ret v=>exact hp.imp fun Z hp=>hp.imp fun Z z=>⟨(y.trans y2).trans z.1,z.2⟩
   | _=>exact hp.elim
  ·exact out _ _ e s3 h2 (y.trans y2) z
 | false=>exact wpAny_execs_nil (L1 t2 ρ' (y.trans y2) h2 q2)
end
open PySem.Calls
section
variable{B:Bk}{K:Fr}{t t' t'':St}{s s' s2 s'':Shared}{pos p2:Pos}{N:y0→y0→Prop}{R:X0}{ρ':y0}{wr:List Addr}
theorem Pe{C:Cx}{ex:Addr→Prop}{h h':Heap}(R:Y0 C t h)(O:U1 t h)(T:Tr C ex t h t' h')(nn:Y7 wr h)(hx:∀ b,ex b→t.ow b):∀ b∈wr,∀ o,h.get? b=some o→h'.get? b=some o:=fun b hb o e=>by
 refine A0 (nn b hb) fun o1 e1 n1=>?_
 have no:¬t.ow b:=fun f=>(O b f).elim fun o2 z=>n1 (Option.some.inj (z.1.symm.trans e1)▸z.2.1)
 refine F1 (T.keep b o e (fun f=>(R.celA f).elim fun o2 z=>n1 (Option.some.inj (z.1.symm.trans e1)▸z.2)) fun q=>no (hx b q)) ?_;(repeat clear q);intro o' e' q _
 exact q (fun f=>no (R.sub b f))▸e'
theorem I1.mo(h:I1 B K t s)(x:O3 B.C (i3 K.en) t s t' s'):Mo t s.heap t' s'.heap:=x.tr.mo h.h.oa h.h.rel h.h.own
theorem I1.rk(h:I1 B K t s)(nn:Y7 wr s.heap)(r:Rk wr s s2)(fb:∀ b∈wr,B.C.B.get? b=none):I1 B K t s2:=by
 have m:=Mo.rk h.h.rel h.h.own nn r
 have data:∀ {L o},t.ow L→s.heap.get? L=some o→∃ o',s2.heap.get? L=some o'∧o'.data=o.data:=fun {L o} w e=>C0 o (r.2.2 L o (nn.off ((h.h.own L w).imp fun Z z=>⟨z.1,z.2.1⟩)) e) rfl
 exact ⟨⟨h.h.ok,h.h.amb,fun env he=>(h.h.fr env he).imp id fun z=>z.imp fun L z=>z.imp fun o z=>z.imp fun es z=>z.imp fun n z=>E3 z.1 z.2.1 (r.2.2 L o (nn.off (C0 o z.2.2.1 (U2 z.2.2.2))) z.2.2.1) z.2.2.2,h.h.sc,
  ⟨h.h.env.kind,h.h.env.glob,h.h.env.blt,h.h.env.loc.imp fun Z z=>⟨t8 z.1 fun o e=>data h.h.env.nloc e,fun x i v a b c=>(z.2 x i v a b c).imp fun Z y=>⟨y.1,y.2.go m v⟩⟩,h.h.env.nloc,fun x i v a b c=>(h.h.env.cel x i v a b c).imp fun Z z=>z.imp fun Z y=>E3 y.1 (m6 y.2.1 fun o e=>data y.2.2.2 e) (y.2.2.1.go m v) y.2.2.2⟩,
  h.h.rel.rk h.h.own nn r fb,h.h.own.rk nn r,h.h.oa⟩,h.l,h.sc,h.f,fun y c e=>(h.cells y c e).imp fun v hc=>m6 hc fun o e'=>data (h.h.oa c (.inr ⟨y,e⟩)) e'⟩
theorem Np.ext{it:Addr}{xs:List V}{g:Option Nat}{pat:Bool}{I:Nat→St→Heap→Prop}{Mid:Nat→Value→St→Heap→Prop}(W:Np B.C it wr xs g pat I Mid){i:Nat}(h:I1 B K t s)(x:O3 B.C (i3 K.en) t s t' s')(st:I i t s.heap):I i t' s'.heap :=
 W.keep i _ _ _ _ st (h.mo x) (Pe h.h.rel h.h.own x.tr (W.live _ _ _ st) h.h.oa)
theorem Tl(h:I1 B K t s){x:Str}{i:Nat}(e:B.b.tgt x=some i):K.en.kindOf x=some .local∨K.en.kindOf x=some .cell:=Ib h (by refine f0 ((ya e).1) ?_;rfl)
theorem Vl{tg:Expr}{ts:List Nat}{pat:Bool}{v:V}{r:Value}{Kp:y0→Prop}{Q:Unit→Shared→Prop}{E:Value→Shared→Prop}(h:I1 B K t s)(vr:G0 B.C t s.heap v r)(ht:B.b.tgts tg=some (ts,pat))(hb:we ts pat v K.ρ Kp)
  (q:∀ s' ρ',O3 B.C (i3 K.en) t s t s'→I1 B (K.at ρ') t s'→Kp ρ'→Q () s'):wpAny (model pw B.C.w) K.A (assign tg K.en r) Q E s:=by
 cases Le ht with
 | one ei=>exact wpAny_assign_Name (wpAny_mono (N4 h (ya ei).2 (Tl h ei) vr) (fun Z s'' hp=>q s'' _ hp.1 hp.2 hb) fun Z Z y=>y)
 | @two _ _ _ _ i j _ _ ei ej =>
  refine Y1 (Ja hb) ?_;(repeat clear hb);intro A xs zI hb;obtain rfl:=zI
  induction A using Ag.casesOn with
  | tup =>
   refine Y1 (Zk hb) ?_;(repeat clear hb);intro u w xI hb;obtain rfl:=xI
   refine O8 vr.d.tup ?_;(repeat clear vr);intro a its tI vI vr hsz _;obtain rfl:=tI;refine F1 vI ?_;(repeat clear vI);intro o ho hc uI;obtain ⟨mm,hd⟩:=uI
   refine Z0 (G6 vr) fun r1 r2 er v1 v2=>?_
   refine wpAny_assign_Tuple h.h.amb.hand (A2 o ho hc ⟨mm,hd⟩) (by refine f0 (hsz ..) ?_;rfl) (by rfl) fun h' he=>?_
   have Y:O3 B.C no t s t { s with heap:=h' }:=⟨Tr.more h.h.rel h.h.own fun b o e=>he b o (fun q=>Q5 (M2 _ (Nat.le_of_eq q.symm)) e) e,rfl,rfl⟩
   have h1:=h.ext Y
   have m1:=h.mo Y.of0
   refine f0 (er ..) ?_
   show wpAny _ _ (holding [r2] (assign (.Name _ _) _ r1) >>= fun Z=>(holding [] (assign (.Name _ _) _ r2) >>= fun Z=>pure ())) _ _ _
   refine wpAny_bind (wpAny_holding (wpAny_assign_Name (wpAny_mono (N4 h1 (ya ei).2 (Tl h ei) (v1.go m1 u)) (fun Z s2 hp=>?_) fun Z Z y=>y)))
   refine wpAny_bind (wpAny_holding (wpAny_assign_Name (wpAny_mono (N4 (K:=K.at (R2 K.ρ i (some u))) hp.2 (ya ej).2 (Tl h ej) ((v2.go m1 w).go (h1.mo hp.1) w)) (fun Z s3 hp3=>?_) fun Z Z y=>y)))
   exact wpAny_pure (q s3 _ ((Y.of0.trans hp.1).trans hp3.1) hp3.2 hb)
  | _=>exact hb.elim
set_option tactic.hygienic true in
theorem AA{tg it:Expr}{x:List Stmt}{ti:E}{ik:IK}{ts:List Nat}{pat:Bool}{px:S}(hi:SI B it ik ti)(hx:Kw B x px)(ht:B.b.tgts tg=some (ts,pat))(hen:(ik.pat&&!pat)=false)(hs:∀ en x,foldedSetIterable it en x=pure x) :
  SS B (.For tg it x [] pos) (.fr ts pat ik ti px):=fun K t s N R h q=>by
 refine wpAny_For (wpAny_mono (hi K t s (fun xs g σ=>P3 (fun ρ σ N=>I4 B.L.f K.X px ρ σ N R) ts pat (R8 g xs) xs K.ρ σ N) h.h q) (fun xv s1 h1=>wpAny_mono h1 (fun itv s2 h2=>?_) fun e s' f=>SX.of0 f) fun e s' f=>SX.of0 f) (hs K.en)
 refine MC h2 ?_;(repeat clear h2);intro t1 itA wr xs g I Mid rI x1 W fw st0 _ kgo;obtain rfl:=rI
 have fb:∀ b∈wr,B.C.B.get? b=none:=fun b hb=>h.h.rel.off (fw b hb)
 have hpat:ik.pat=true→∃ es k p,tg = .Tuple es k p:=fun hp=>by
  rw [hp] at hen
  cases Le ht with
  | one=>exact Bool.noConfusion hen
  | two=>exact Cz _ _ _ rfl
 refine codeAny_forLoop_any (fun k s'=>∃ i t' ρ',k+i=xs.length∧O3 B.C (i3 K.en) t s t' s'∧I1 B (K.at ρ') t' s'∧I i t' s'.heap∧P3 (fun ρ σ N=>I4 B.L.f K.X px ρ σ N R) ts pat (R8 g xs) (xs.drop i) ρ' t'.σ N) (fun k s' hI=>?_) xs.length
  (W8 0 t1 K.ρ rfl x1.of0 (h.ext x1) st0 kgo)
 refine i7 hI ?_;(repeat clear hI);intro i t2 ρ2 hk y2 h2 st2 k2
 have out:∀ {ρ' t' s' e s2},O3 B.C (i3 K.en) t s t' s'→SX B (K.at ρ') t' s' e s2→notedBy (model pw B.C.w) K.A K.en (fun e s''=>cameBackBy (model pw B.C.w) K.A K.en (SX B K t s) e s'') e s2:=fun y p=>Zn h (SX.trans h.h.rel y p)
 have adv:∀ {t' s3 s4},O3 B.C (i3 K.en) t s t' s3→U1 t' s3.heap→Y7 wr s3.heap→Rk wr s3 s4→O3 B.C (i3 K.en) t s t' s4:=fun y O' nn r=>⟨y.tr.rk h.h.rel O' nn r fw,r.1.trans y.gens,r.2.1.trans y.os⟩
 have g2:gd g xs t2.σ:=by
  cases q:xs.drop i with
  | nil=>rw [q] at k2;exact (sd k2).1
  | cons v r=>rw [q] at k2;exact (sd k2).1
 refine W.next i K.A s' t2 _ _ h.h.amb.hand h2.h.rel h2.h.own g2 st2 (fun v hv r s3 y3 mid vr=>?_) (fun hv s3 y3=>?_)
 ·rw [tj hv] at k2
  obtain ⟨_,kf⟩:=sd k2
  have hlt:i<xs.length:=(List.getElem?_eq_some_iff.mp hv).1
  obtain ⟨k',rfl⟩:∃ k',k=k'+1:=Nat.exists_eq_succ_of_ne_zero fun q=>Nat.lt_irrefl _ (by rw [q,Nat.zero_add] at hk;exact hk▸hlt)
  have hk':k'+(i+1)=xs.length:=(Nat.succ_add_eq_add_succ k' i).symm.trans hk
  have nn:=W.live _ _ _ st2
  have y03:=adv y2 h2.h.own nn y3
  have h3:=h2.rk nn y3 fb
  have nn3:=W.liveM _ _ _ _ mid
  refine W.go i r K.A s3 t2 _ _ tg hpat h3.h.rel h3.h.own mid fun s4 y4 st4=>?_
  have y04:=adv y03 h3.h.own nn3 y4
  have h4:=h3.rk nn3 y4 fb
  refine Vl (K:=K.at ρ2) h4 (vr.go (Mo.rk h3.h.rel h3.h.own nn3 y4) v) ht kf fun s5 ρ5 y5 h5 kf5=>?_
  have y05:=y04.trans y5
  have st5:=W.ext h4 y5 st4
  refine wpAny_mono (hx (K.at ρ5) t2 s5 _ R h5 kf5) (fun f s6 hp=>?_) fun e s6 z=>out y05 z
  induction f using Flow.casesOn with
  | next =>
   refine Z0 hp ?_;(repeat clear hp);intro t6 ρ6 y6 h6 q6
   exact C0 k' (Nat.lt_succ_self _) ⟨i+1,t6,ρ6,hk',y05.trans y6,h6,W.ext h5 y6 st5,q6⟩
  | ret v=>exact hp.imp fun Z hp=>hp.imp fun Z z=>⟨y05.trans z.1,z.2⟩
  | _=>exact hp.elim
 ·rw [List.drop_eq_nil_of_le (List.getElem?_eq_none_iff.mp hv)] at k2
  have nn:=W.live _ _ _ st2
  exact wpAny_execs_nil (L1 t2 ρ2 (adv y2 h2.h.own nn y3) (h2.rk nn y3 fb) ((sd k2).2))
end
open PySem.Calls
section
variable{B:Bk}{K:Fr}{t t':St}{s s' s'':Shared}{ρ':y0}{Cl:Addr}
theorem I1.hx{P F:Addr→Prop}(h:I1 B K t s)(H:Hx B.C no P F t s.heap t' s'.heap)(O':U1 t' s'.heap):I1 B K t' s' :=
 ⟨h.h.hx H O',h.l,h.sc,h.f,fun y c e=>(h.cells y c e).imp fun v hc=>m6 hc fun o e'=>Tr.data h.h.rel H.tr (h.h.oa c (.inr ⟨y,e⟩)) e' id⟩
theorem I1.lose(h:I1 B K t s)(h2:I1 B (K.at ρ') t' s'')(H:Hx B.C (i3 K.en) (·=Cl) no t s.heap t' s''.heap){h':Heap}(hsb:Heap.SameBut Cl s''.heap h')(T:Tr B.C (i3 K.en) t s.heap (t'.as t.ow t.sl) h')(m:Mo t' s''.heap (t'.as t.ow t.sl) h') :
  I1 B (K.at ρ') (t'.as t.ow t.sl) { s'' with heap:=h' }:=by
 have old:∀ {b},t.ow b→b≠Cl:=fun w q=>(h.h.own _ w).elim fun o z=>Q5 (H.fr _ q) z.1
 have ol:∀ {x c},K.en.cells.lookup x=some c→c≠Cl:=fun e=>old (h.h.oa _ (.inr ⟨_,e⟩))
 refine ⟨⟨h.h.ok,h.h.amb,fun env he=>?_,h.h.sc,⟨h.h.env.kind,h.h.env.glob,h.h.env.blt,h2.h.env.loc.imp fun Z z=>⟨z.1.sameBut hsb (old h.h.env.nloc),fun x i v a b c=>(z.2 x i v a b c).imp fun Z y=>⟨y.1,y.2.go m v⟩⟩,h.h.env.nloc,fun x i v a b c=>(h2.h.env.cel x i v a b c).imp fun Z z=>z.imp fun Z y=>E3 y.1 (y.2.1.sameBut hsb (ol y.1)) (y.2.2.1.go m v) (h.h.oa _ (.inr ⟨x,y.1⟩))⟩,
  T.rel,fun b w=>(h2.h.own b (H.owI (.inl w))).imp fun o z=>⟨(hsb.2 b (old w)).trans z.1,z.2⟩,h.h.oa⟩,h.l,h.sc,h.f,fun y c e=>(h2.cells y c e).imp fun v hc=>hc.sameBut hsb (ol e)⟩
 obtain ⟨k,uI⟩:=h2.h.fr env he;refine Ia uI ?_;(repeat clear uI);intro L o es n hf w ho hd
 have w:t.sl L:=((congrFun H.sl L).mp w).elim id False.elim
 exact ⟨k,L,o,es,n,hf,w,(hsb.2 L (old (h.h.rel.sub L w))).trans ho,hd⟩
theorem Ow{elt tg it:Expr}{ifs:List Expr}{pos spos p2:Pos}{te tc ti:E}{ik:IK}{md:Md}{ts:List Nat}{pat:Bool}{fv:List Nat}{sc:Scope}{x:Str}{i:Nat}
  (ok:s8 B.b sc=true) (hi:SI B it ik ti) (hen:ik.pat=false) (he:SE (B.comp sc) elt te) (hc:wg (B.comp sc) ifs tc) (ht:(W1 B.b sc).tgts tg=some (ts,pat))
  (hfv:fv=(sc.names.filter fun x=>x.2 == .free).filterMap fun x=>B.b.tb.lookup x.1) (hs:∀ en x,foldedSetIterable it en x=pure x) (hk:Y6 (B.b.kd x)=true) (ei:B.b.tb.lookup x=some i) :
  SS B (.Assign [.Name x p2] (.ListComp elt [⟨tg,it,ifs,0⟩] sc pos) spos) (.asg (.loc i) (.comp B.b.nx fv ts pat ik md ti te tc)):=fun K t s N R h q=>by
 obtain ⟨bb,ebb⟩:∃ bb,swapsWith (.ListComp elt [⟨tg,it,ifs,0⟩] sc pos) (some (.Name x p2)) spos.line K.en=pure bb:=⟨_,rfl⟩
 induction bb using Bool.casesOn with
 | false =>
  refine wpAny_Assign_Name ((Wn ok hi hen he hc ht hfv hs).go h q fun t' s' u r h' y vr q=>?_) ebb
  exact wpAny_mono (N4 h' ei (Ib h' hk) vr) (fun Z s'' hp=>L1 t' _ (y.trans hp.1) hp.2 q) fun Z Z y=>y
 | true =>
  refine f0 (exec_Assign_Name_used x p2 _ spos ebb ..) ?_
  refine wpAny_bind (wpAny_standAt (wpAny_bind ?_))
  show wpAny _ K.A (do let _ ←comprehension (.ListComp elt [⟨tg,it,ifs,0⟩] sc pos) sc K.en _ (newList []) false (eval it K.en) (some (assign (.Name x p2) K.en))) _ _ s
  refine wpAny_bind (wpAny_mono (uj (use:=some (assign (.Name x p2) K.en)) (QQ:=fun Z s'=>za B K t s N R .next s') (EE:=SX B K t s) ok hi hen he hc ht hfv (hs K.en) h.h q (fun t' s' r v Cl H O' g o vr qv hm=>?_) (fun e s' f=>SX.of0 f))
   (fun Z s' hq=>wpAny_pure (wpAny_pure hq)) fun Z Z e=>e)
  have h':=h.hx H O'
  refine wpAny_assign_Name (wpAny_mono (N4 h' ei (Ib h' hk) vr) (fun Z s'' hp=>?_) fun Z Z y=>y)
  have nc:¬i3 K.en Cl:=fun z=>(h.h.own _ (h.h.oa _ z)).elim fun o y=>Q5 (H.fr _ rfl) y.1
  obtain ⟨m,ns⟩:=hm
  refine C0 m (t8 ns fun o ho=>hp.1.tr.data H.rel (H.owI (.inr rfl)) ho nc) (fun hh hsb=>?_)
  have H2:Hx B.C (i3 K.en) (·=Cl) no t s.heap t' s''.heap:=Hx.step h.h.rel ⟨H.tr.of0,H.rel,H.ow,H.sl,H.fr,H.fF⟩ hp.1.tr hp.2.h.own fun b o q Z=>q
  obtain ⟨T,mo⟩:=H2.lose h.h.rel hp.2.h.own hsb
  exact L1 (t'.as t.ow t.sl) _ ⟨T,hp.1.gens.trans g,hp.1.os.trans o⟩ (h.lose hp.2 H2 hsb T mo) qv
end
open PySem.Calls
noncomputable def W5{α:Type}[DecidableEq α]:List (α×Value)→α→Value→List (α×Value)
 | [],k,v=>[(k,v)]
 | p::r,k,v=>if p.1=k then (p.1,v)::r else p::W5 r k v
section
variable{α:Type}[DecidableEq α]
theorem R9{p:α×Value}{r:List (α×Value)}{k:α}{v:Value}(e:p.1=k):W5 (p::r) k v=(p.1,v)::r:=if_pos e
theorem S9{p:α×Value}{r:List (α×Value)}{k:α}{v:Value}(e:p.1≠k):W5 (p::r) k v=p::W5 r k v:=if_neg e
theorem ao{f:α→α→Bool}(h:∀ a b,f a b=true↔a=b):∀ {ns:List α} {vs:List V} {x:α} {w:V} {K:List α→List V→Prop},Zz f ns vs x w K→K (V7 ns vs x w).1 (V7 ns vs x w).2
 | [],_,_,_,_,k=>k
 | _::_,[],_,_,_,k=>k
 | n::ns,v::vs,x,w,K,k=>by
  have k:(match f n x with|true=>K (n::ns) (w::vs)|false=>Zz f ns vs x w fun ns' vs'=>K (n::ns') (v::vs')):=k
  show K (if n=x then (n::ns,w::vs) else (n::(V7 ns vs x w).1,v::(V7 ns vs x w).2)).1 (if n=x then (n::ns,w::vs) else (n::(V7 ns vs x w).1,v::(V7 ns vs x w).2)).2
  cases q:f n x with
  | true=>rw [q] at k;refine f0 (if_pos ((h _ _).mp q) ..) ?_;exact k
  | false=>rw [q] at k;refine f0 (if_neg fun z=>Bool.noConfusion (q.symm.trans ((h _ _).mpr z)) ..) ?_;exact ao h k
theorem wG{a b:Nat}:Nat.beq a b=true↔a=b:=⟨Nat.eq_of_beq_eq_true,fun h=>h▸Nat.beq_refl a⟩
theorem Xl{n:α}{ns:List α}{u v:V}{vs:List V}{x:α}(e:n=x):V7 (n::ns) (u::vs) x v=(n::ns,v::vs):=if_pos e
theorem Yl{n:α}{ns:List α}{u v:V}{vs:List V}{x:α}(e:n≠x):V7 (n::ns) (u::vs) x v=(n::(V7 ns vs x v).1,u::(V7 ns vs x v).2):=if_neg e
theorem Td{C:Cx}{t:St}{h:Heap}{x:α}{v:V}{r:Value}(vr:G0 C t h v r):∀ {kvs:List (α×Value)} {xs:List V},E0 C t h xs (kvs.map (·.2)) →
  (W5 kvs x r).map (·.1)=(V7 (kvs.map (·.1)) xs x v).1∧E0 C t h (V7 (kvs.map (·.1)) xs x v).2 ((W5 kvs x r).map (·.2))
 | [],[],_=>⟨rfl,r,[],rfl,vr,rfl⟩
 | [],_::_,e=>e.elim fun Z e=>e.elim fun Z z=>nomatch z.1
 | _::_,[],e=>nomatch (show _=[] from e)
 | p::kvs,u::xs,e=>by
  refine Z0 e ?_;(repeat clear e);intro r0 rt e a b
  obtain ⟨rfl,rfl⟩:=List.cons.inj e
  refine f0 (List.map_cons ..) ?_
  by_cases q:p.1=x
  ·refine f0 (R9 q ..) (f0 (Xl q ..) ?_)
   exact ⟨rfl,r,_,rfl,vr,b⟩
  ·refine f0 (S9 q ..) (f0 (Yl q ..) ?_)
   obtain ⟨z1,z2⟩:=Td (x:=x) vr b
   exact ⟨congrArg (p.1::·) z1,p.2,_,rfl,a,z2⟩
theorem yj{k:α}{v:Value}:∀ {kvs:List (α×Value)},(kvs.map (·.1)).Nodup→stored kvs k v=W5 kvs k v
 | [],_=>rfl
 | p::r,nd=>by
  obtain ⟨n1,n2⟩:=List.nodup_cons.mp nd
  have ih:=yj (k:=k) (v:=v) n2
  unfold stored at ih ⊢
  by_cases q:p.1=k
  ·subst q
   exact f0 (R9 rfl ..) (f0 (List.any_cons ..) (f0 (decide_eq_true rfl ..) (f0 (Bool.true_or ..) (f0 (if_pos rfl ..) (f0 (List.map_cons ..) (f0 (if_pos rfl ..) (f0 (map_store_of_not_mem r _ v n1 ..) rfl)))))))
  ·rw [S9 q,List.any_cons,decide_eq_false q,Bool.false_or,←ih,List.map_cons,if_neg q]
   split<;>rfl
noncomputable abbrev pr(e:α×Addr×Value):α×Value:=(e.1,e.2.2)
theorem xg{k:α}{v:Value}:∀ {es:List (α×Addr×Value)},k∉es.map (·.1)→es.map (putAt k v)=es
 | [],_=>rfl
 | p::r,h=>by
  refine f0 (List.map_cons ..) (f0 (xg fun z=>h (.tail _ z) ..) ?_)
  exact congrArg (·::r) (if_neg fun (q:p.1=k)=>h (q ▸ .head _))
theorem Kc{k:α}{a:Addr}{v:Value}:∀ {es:List (α×Addr×Value)},(es.map (·.1)).Nodup→(storedH es k a v).map pr=W5 (es.map pr) k v
 | [],_=>rfl
 | p::r,nd=>by
  obtain ⟨n1,n2⟩:=List.nodup_cons.mp nd
  have ih:=Kc (k:=k) (a:=a) (v:=v) n2
  unfold storedH at ih ⊢
  refine f0 (show (p::r).map pr=pr p::r.map pr from rfl) (f0 (List.map_cons ..) ?_)
  by_cases q:p.1=k
  ·have e:atKey (p::r) k=some p.2:=by unfold atKey;rw [List.find?_cons,decide_eq_true q];rfl
   refine f0 (R9 (p:=pr p) q ..) (f0 (e ..) (f0 (if_pos (show (some p.2).isSome=true from rfl) ..) (f0 (List.map_cons ..) (f0 (xg (q▸n1) ..) ?_))))
   exact congrArg (·::r.map pr) (show pr (putAt k v p)=(p.1,v) by unfold putAt;exact f0 (if_pos q ..) rfl)
  ·have e:atKey (p::r) k=atKey r k:=by unfold atKey;rw [List.find?_cons,decide_eq_false q]
   refine f0 (S9 (p:=pr p) q ..) (f0 (e ..) (P5 (ih ..) ?_))
   split
   ·exact congrArg (·::_) (show pr (putAt k v p)=pr p by unfold putAt;exact f0 (if_neg q ..) rfl)
   ·rfl
theorem fo{k y:α}{v:Value}:∀ {kvs:List (α×Value)},y∈(W5 kvs k v).map (·.1)→y=k∨y∈kvs.map (·.1)
 | [],h => .inl (List.mem_singleton.mp h)
 | p::r,h=>by
  by_cases q:p.1=k
  ·rw [R9 q] at h;exact .inr h
  ·rw [S9 q] at h
   exact (List.mem_cons.mp h).elim (fun e => .inr (e ▸ .head _)) fun h=>(fo h).imp id (.tail _)
theorem yg{k:α}{v:Value}:∀ {kvs:List (α×Value)},(kvs.map (·.1)).Nodup→((W5 kvs k v).map (·.1)).Nodup
 | [],_=>List.nodup_cons.mpr ⟨List.not_mem_nil,List.nodup_nil⟩
 | p::r,nd=>by
  obtain ⟨n1,n2⟩:=List.nodup_cons.mp nd
  by_cases q:p.1=k
  ·refine f0 (R9 q ..) ?_;exact nd
  ·refine f0 (S9 q ..) ?_
   exact List.nodup_cons.mpr ⟨fun h=>(fo h).elim q n1,yg n2⟩
theorem zg:∀ {l m:List α},l.Nodup→(∀ x∈l,x∈m)→l.length≤m.length
 | [],_,_,_=>Nat.zero_le _
 | x::l,m,nd,h=>by
  obtain ⟨n1,n2⟩:=List.nodup_cons.mp nd
  have z:=zg (m:=m.erase x) n2 fun y hy=>(List.mem_erase_of_ne fun (q:y=x)=>n1 (q▸hy)).mpr (h y (.tail _ hy))
  rw [List.length_erase_of_mem (h x (.head _))] at z
  exact Nat.add_le_of_le_sub (List.length_pos_of_mem (h x (.head _))) z
end
theorem Ts{x:Nat}{v:V}(hx:x<fS.length):∀ {ns:List Nat} {xs:List V},V7 (ns.map fN) xs (fN x) v=((V7 ns xs x v).1.map fN,(V7 ns xs x v).2)
 | [],_=>rfl
 | _::_,[]=>rfl
 | n::ns,u::vs=>by
  refine f0 (List.map_cons ..) ?_
  by_cases q:n=x
  ·refine f0 (Xl q ..) (f0 (Xl (congrArg fN q) ..) ?_);rfl
  ·refine f0 (Yl q ..) (f0 (Yl fun z=>q (As hx z) ..) (f0 (Ts hx ..) ?_));rfl
theorem Bg{w:World}{x:Str}{tk:Tok}{r:Value}{hs:Int}:∀ {des:List DictEntry} {kvs:List (Str×Value)},Pairs (strKind pw w) des kvs→Pairs (strKind pw w) (putL x hs (.str x tk) r des) (W5 kvs x r)
 | _,_,.nil => .cons (beq_iff_eq.mpr rfl) rfl .nil
 | _,_,.cons (e:=e) (kv:=(k,v)) is hv ps=>by
  obtain ⟨t,ek⟩:=Value.isStrOf_shape is
  have e1:e.key.isStr x=decide (k=x):=by refine f0 (ek ..) ?_;exact (show (k==x)=_ from Bool.beq_eq_decide_eq k x)
  unfold putL
  refine f0 (e1 ..) ?_
  by_cases q:k=x
  ·refine f0 (R9 (p:=(k,v)) q ..) (f0 (decide_eq_true q ..) ?_);exact .cons is rfl ps
  ·refine f0 (S9 (p:=(k,v)) q ..) (f0 (decide_eq_false q ..) ?_);exact .cons is hv (Bg ps)
theorem zj{P:DictEntry→Prop}{x:Str}{key r:Value}{hs:Int}(hp:P ⟨hs,key,r⟩)(hr:∀ e:DictEntry,P e→P ⟨e.hash,e.key,r⟩):∀ {des:List DictEntry},(∀ e∈des,P e)→∀ e∈putL x hs key r des,P e
 | [],_,e,he=>List.mem_singleton.mp he▸hp
 | d::des,h,e,he=>by
  unfold putL at he
  split at he
  ·exact (List.mem_cons.mp he).elim (fun q=>q▸hr d (h d (.head _))) fun he=>h e (.tail _ he)
  ·exact (List.mem_cons.mp he).elim (fun q=>q▸h d (.head _)) fun he=>zj hp hr (fun e he=>h e (.tail _ he)) e he
open PySem.Calls
section
variable{prog:Program}{w:World}{A:Around}{E:Value→Shared→Prop}{s:Shared}
theorem Jb{l:Addr}{items:Array Value}{k:Int}{j:Nat}{t:Tok}{v:Value}{Q:Unit→Shared→Prop}(hl:s.heap.IsList l items)(hb:items.size≤1000000)(hj:j<items.size)(hk:k=j∨∃ m,k = .negSucc m∧m<items.size∧j=items.size - 1 - m)
  (hQ:Q () { s with heap:=s.heap.update l (Obj.mapSeq (·.setIfInBounds j v)) }):wpAny (model prog w) A (setItem (.ref l) (.int k t) v) Q E s:=by
 refine F1 (id hl) ?_;intro o ho hc rI;obtain ⟨ne,hd⟩:=rI
 have hx':items[j]?=some items[j]:=Array.getElem?_eq_getElem hj
 unfold setItem
 try with_reducible refine wpAny_holding ?_
 first|refine wpAny_bind (wpAny_pure ?_)|skip
 refine wpAny_bind (wpAny_sequenceKey hl.typeIs (by decide) ?_)
 refine wpAny_bind (wpAny_callSpecial?_slot (name:=Str.ofString "__setitem__") hl.typeIs slot_list_setitem
  (wpAny_call_entry slot_list_setitem hl.typeIs entry_list_setitem ?_ (args_list_setitem _ _ _)))
 show wpAny _ _ (Builtin.List.listSubscript? (.int k t) >>= _) _ _ s
 refine wpAny_bind (wpAny_listSubscript_int (hk.elim (fun e=>fitsIndex_of (by omega) (by omega)) fun e=>e.elim fun m e=>fitsIndex_neg (by omega) (by omega)) ?_)
 rcases hk with rfl|⟨m,rfl,hm,ej⟩
 ·show wpAny _ _ ((seqItemAt l j >>= fun r=>pure (r.map (j,·))) >>= _) _ _ s
  refine wpAny_bind (wpAny_bind (wpAny_seqItemAt ho hd (wpAny_pure ?_)))
  refine f0 (hx' ..) ?_
  show wpAny _ _ (setSeqItemAt l j v >>= _) _ _ s
  refine wpAny_bind (wpAny_setSeqItemAt ho hd ?_)
  first
   | exact wpAny_bind (wpAny_pure (wpAny_pure (C0 .none rfl (wpAny_pure hQ))))
   | exact wpAny_pure ⟨.none,rfl,wpAny_pure hQ⟩
 ·have hidx:=(show seqIndex? (Int.negSucc m) items.size=_ from y8 hm)
  show wpAny _ _ ((Builtin.List.listItems (.ref l) >>= fun xs=>pure ((seqIndex? (Int.negSucc m) xs.size).bind fun i=>xs[i]?.map (i,·))) >>= _) _ _ s
  refine wpAny_bind (wpAny_bind ?_)
  show wpAny _ _ (seqItems? (.ref l) >>= _) _ _ s
  refine wpAny_bind (wpAny_seqItems ho hd (wpAny_pure (wpAny_pure ?_)))
  refine f0 (hidx ..) (P5 (ej ..) (f0 (Option.bind_some ..) (f0 (hx' ..) (f0 (Option.map_some ..) ?_))))
  show wpAny _ _ (setSeqItemAt l j v >>= _) _ _ s
  refine wpAny_bind (wpAny_setSeqItemAt ho hd ?_)
  first
   | exact wpAny_bind (wpAny_pure (wpAny_pure (C0 .none rfl (wpAny_pure hQ))))
   | exact wpAny_pure ⟨.none,rfl,wpAny_pure hQ⟩
theorem Pw{K:Frag}{R:Result→Shared→Prop}{x Ca dx:Addr}{ox:Obj}{es:List DictEntry}{n:Nat}{name:Str}{tk:Tok}{v:Value}(X:K.In s.heap)(I:InstAt s.heap x ox Ca (some (dictOf es n)))(hd:ox.dict=some dx)
  (hp:plainOver K Ca=true) (ht:takerIn K Ca name=some none) (hh:hasDictIn K Ca=true) (hr:∀ e∈es,e.refKey=false)
  (hz:(putL name (PyData.keyHash w.params name) (.str name s.toks) v es).length≤1000) (D:s.heap.get? dx=some (dictOf es n))
  (h:∀ h',Heap.SameBut dx s.heap h'→h'.get? dx=some (dictOf (putL name (PyData.keyHash w.params name) (.str name s.toks) v es) (putN name es n))→R (.ok (.ret .none)) { s with heap:=h',toks:=s.toks+1 }) :
  codeAny (model prog w) A (.call (.builtin "object.__setattr__") ⟨[.ref x,.str name tk,v],[]⟩) R s:=by
 refine osa_open X I hp ht fun b=>?_
 refine A0 (any_some hh) fun cd hc hd'=>?_
 obtain ⟨hx,hcl,hn,-⟩:=I
 obtain ⟨oc,odi,oda,osl⟩:=ox
 dsimp only at hcl hd
 subst hcl hd
 refine wpAny_bind (wpAny_pure (wpAny_bind (wpAny_bind (wpAny_loadPart hx (wpAny_bind ((looks_clsIn X hc).here ?_))))))
 refine f0 (hd' ..) ?_
 refine wpAny_pure (a:=some dx) (wpAny_bind (wpAny_pure (wpAny_bind ?_)))
 unfold nsSet
 refine wpAny_bind (wpAny_bind (wpAny_askSetting (wpAny_pure (wpAny_bind (wpAny_mkText (wpAny_bind (wpAny_loadPart D ?_)))))))
 have c:(!es.toArray.any (·.key.isStr name)&&es.toArray.any (·.refKey))=false:=by
  have z:es.toArray.any (·.refKey)=false:=by
   refine P5 (Array.any_toList ..) ?_
   exact List.any_eq_false.mpr fun e he=>by refine f0 (hr e he ..) ?_;exact Bool.false_ne_true
  refine f0 (z ..) ?_;exact Bool.and_false _
 dsimp only
 refine f0 (aRefKeyMayBeTheName_at ..) (f0 (c ..) ?_)
 have D':(s.heap.update dx (Obj.putName name (PyData.keyHash w.params name) (.str name s.toks) v)).get? dx=some (dictOf (putL name (PyData.keyHash w.params name) (.str name s.toks) v es) (putN name es n)):=by
  rw [Heap.get?_update_self _ D (by refine f0 (putName_dict ..) ?_;rfl),putName_dict]
 refine wpAny_updatePart D ?_
 refine wpAny_bind (wpAny_lookBehind D' (by exact pastItsLine_dict (by refine f0 (List.size_toArray ..) (f0 (sizeLine_eq ..) ?_);exact Nat.le_trans hz (by decide))) ?_)
 exact wpAny_pure (h _ (Heap.SameBut.update ..) D')
end
open PySem.Calls
section
variable{B:Bk}{K:Fr}{t t':St}{s s':Shared}{Q:Unit→Shared→Prop}{E:Value→Shared→Prop}{k:Nat}{xs:List V}{v:V}{r:Value}
theorem W0.cell(h:W0 B K t s){A:Ag}(e:A1 t.σ k=some (.a A xs)):∃ rs,A ≠ .tup∧Sh B.C s.heap (t.al k) (t.dl k) rs A∧E0 B.C t s.heap xs rs:=by
 refine R5 (h.rel.cell k _ e) fun A' xs' rs e' n sh vr=>?_
 cases e'
 exact A2 rs n sh vr
theorem W0.put(h:W0 B K t s){A:Ag}{v0:V}(e:A1 t.σ k=some v0){b0:Addr}(hb:b0=t.al k∨b0=t.dl k){h':Heap}{tk:Nat}(sb:Heap.SameBut b0 s.heap h'){rs:List Value}(hA:A ≠ .tup)(sh:Sh B.C h' (t.al k) (t.dl k) rs A)(vr:E0 B.C t s.heap xs rs) :
  O3 B.C no t s (t.put k (.a A xs)) { s with heap:=h',toks:=tk }:=⟨Tr.put h.rel h.own ⟨v0,e⟩ hb sb hA sh vr,rfl,rfl⟩
theorem Qh{c:Nat}{ns:List Nat}{x:Nat}(h:W0 B K t s)(e:A1 t.σ k=some (.a (.obj c ns) xs))(hx:x<fS.length)(vr:G0 B.C t s.heap v r)
  (q:∀ s',O3 B.C no t s (t.put k (.a (.obj c (V7 ns xs x v).1) (V7 ns xs x v).2)) s'→Q () s'):wpAny (model pw B.C.w) K.A (setAttr (.ref (t.al k)) (fN x) r) Q E s:=by
 refine F1 (h.cell e) ?_;intro rs _ EI vx;refine F1 EI ?_;(repeat clear EI);intro ca hc ho UI;refine F1 UI ?_;(repeat clear UI);intro kvs WI ek cJ;refine Qi WI ?_;(repeat clear WI);intro YI es ep hod aJ hd hk hp nd;obtain ⟨oc,od,odt,os⟩:=YI;refine i4 aJ ?_;(repeat clear aJ);intro e1 e2 e3;obtain rfl:=cJ
 dsimp only at e1 e2 e3 hd
 subst e1;subst e2;subst e3;subst hd
 refine Hv (Ka (h.ok.cls _ _ hc).1) ?_;(repeat clear _);intro g1 g2 g3 _ g5
 have htk:takerIn B.C.K ca (fN x)=some none:=by unfold takerIn;rw [g5 x hx];rfl
 obtain ⟨z1,z2⟩:=Td (x:=fN x) vr vx
 rw [ek,Ts hx] at z1 z2
 have nd':=yg (k:=fN x) (v:=r) nd
 have P:=Bg (x:=fN x) (tk:=s.toks+1) (r:=r) (hs:=PyData.keyHash B.C.w.params (fN x)) hp
 have I:InstAt s.heap (t.al k) (instObj ca (t.dl k)) ca (some (dictOf es.toList ep)):=⟨ho,rfl,rfl,hod⟩
 refine set_plain h.inK I g3 (Pw (s:={ s with toks:=s.toks+1 }) h.inK I rfl g2 htk g1 (fun d hd=>?_) ?_ hod fun h' hs hg=>?_)
 ·refine A0 (hk d (Array.mem_toList_iff.mp hd)) fun kk is Z=>?_
  obtain ⟨tt,ek⟩:=Value.isStrOf_shape is
  unfold DictEntry.refKey
  exact f0 (ek ..) rfl
 ·rw [P.length,←List.length_map (f:=(·.1)),z1]
  exact Nat.le_trans (zg (m:=(List.range 47).map fN) (z1▸nd') fun y hy=>by
   refine A0 (List.mem_map.mp hy) ?_;intro n _ CI;obtain rfl:=CI
   by_cases hn:n<46
   ·exact List.mem_map.mpr (C0 n (List.mem_range.mpr (Nat.lt_succ_of_lt hn)) rfl)
   ·refine List.mem_map.mpr (C0 46 (List.mem_range.mpr (by decide)) ?_)
    unfold fN nm
    rw [List.getD_eq_getElem?_getD,List.getD_eq_getElem?_getD,List.getElem?_eq_none (show fS.length≤n from Nat.not_lt.mp hn)]
    rfl) (by rw [List.length_map,List.length_range];decide)
 ·have ne:t.al k≠t.dl k:=fun q=>by
   rw [q] at ho
   exact Data.noConfusion (congrArg Obj.data (Option.some.inj (ho.symm.trans hod)))
  refine q _ (h.put (tk:=s.toks+1+1) e (.inr rfl) hs (A := .obj c (V7 ns xs x v).1) nofun ⟨ca,hc,(hs.2 _ ne).trans ho,_,(Zq _ _ _ hg (V0 rfl rfl rfl) rfl (fun d hd=>?_) P nd'),z1,rfl⟩ z2)
  exact zj (P:=fun d=>∃ k,(strKind pw B.C.w).is k d.key=true∧d.hash=(strKind pw B.C.w).hash k) (C0 _ (beq_iff_eq.mpr rfl) rfl) (fun Z z=>z) (fun d hd=>hk d (Array.mem_toList_iff.mp hd)) d (List.mem_toArray.mp hd)
theorem Xp{A:Ag}{i:V}{ri:Value}{G:y0→Prop}(h:W0 B K t s)(e:A1 t.σ k=some (.a A xs))(vi:G0 B.C t s.heap i ri)(vr:G0 B.C t s.heap v r)
  (w:Qy A xs i v fun A xs=>G (R2 t.σ k (some (.a A xs))))
  (q:∀ t' s',O3 B.C no t s t' s'→G t'.σ→Q () s'):wpAny (model pw B.C.w) K.A (setItem (.ref (t.al k)) ri r) Q E s:=by
 refine F1 (h.cell e) fun rs hA sh vx=>?_
 induction A using Ag.casesOn with
 | tup=>exact w.elim
 | obj=>exact w.elim
 | lst =>
  refine A0 (Ac w) ?_;(repeat clear w);intro i zI w;obtain rfl:=zI
  obtain ⟨tk,rfl⟩:=vi
  obtain ⟨hdl,eJ⟩:=sh;refine Z0 eJ ?_;(repeat clear eJ);intro its n ho gJ hl;obtain rfl:=gJ
  have hsz:its.size=xs.length:=vx.len
  have K5:∀ j,j<its.size→G (R2 t.σ k (some (.a .lst (xs.set j v))))→Q () { s with heap:=s.heap.update (t.al k) (Obj.mapSeq (·.setIfInBounds j r)) }:=fun j hj g=>by
   obtain ⟨k',hg⟩:∃ k',(s.heap.update (t.al k) (Obj.mapSeq (·.setIfInBounds j r))).get? (t.al k)=some (listOf (its.setIfInBounds j r) k'):=⟨_,by rw [Heap.get?_update_self _ ho (by rfl)];rfl⟩
   exact q _ _ (h.put (tk:=s.toks) (A := .lst) e (.inl rfl) (Heap.SameBut.update ..) nofun ⟨hdl,_,k',hg,Array.toList_setIfInBounds,by refine f0 (List.length_set ..) ?_;exact hl⟩ (vx.set vr j)) g
  induction i using Int.casesOn with
  | ofNat j =>
   obtain ⟨hj,g⟩:=V4 w
   have hj:=Nat.le_of_ble_eq_true hj
   exact Jb (Q3 ho) hl (hsz▸hj) (.inl rfl) (K5 j (hsz▸hj) g)
  | negSucc j =>
   obtain ⟨hj,g⟩:=V4 w
   have hj:=Nat.le_of_ble_eq_true hj
   have hj2:xs.length - 1 - j<its.size:=by
    refine f0 (hsz ..) ?_
    exact Nat.lt_of_le_of_lt (Nat.sub_le _ _) (Nat.sub_lt (Nat.lt_of_le_of_lt (Nat.zero_le _) hj) Nat.one_pos)
   exact Jb (Q3 ho) hl hj2 (.inr (A2 j rfl (hsz▸hj) (hsz▸rfl))) (K5 _ hj2 g)
 | ds ss =>
  refine A0 (Pr w) ?_;intro y xI g;obtain rfl:=xI
  obtain ⟨hb,g⟩:=S5 g
  have g:=ao (fun Z Z=>k7) g
  obtain ⟨tk,rfl⟩:=vi
  refine i4 sh ?_;(repeat clear sh);intro hdl nsm vI;refine F1 vI ?_;(repeat clear vI);intro kvs hd jJ lJ;obtain rfl:=jJ;obtain rfl:=lJ
  have nd:=hd.choose_spec.choose_spec.choose_spec.2.2.2.2.2
  obtain ⟨z1,z2⟩:=Td (x:=y) vr vx
  refine wpAny_setItem_pairs (knd:=strKind pw B.C.w) (k:=y) (beq_iff_eq.mpr rfl) hd (fun h' hd' hs=>?_) (X2 (by rw [List.length_map] at hb;exact hb))
  rw [yj nd] at hd'
  exact q _ _ (h.put (A := .ds _) e (.inl rfl) hs nofun ⟨hdl,nsm,_,hd',z1,rfl⟩ z2) g
 | dt kk =>
  refine Z0 (Fl vi w) ?_;intro ks a tI is g;obtain rfl:=tI
  obtain ⟨hb,g⟩:=S5 g
  have g:=ao (fun Z Z=>ye) g
  refine i4 sh ?_;(repeat clear sh);intro hdl nsm rI;refine F1 rI ?_;(repeat clear rI);intro es hd nJ pJ;obtain rfl:=nJ;obtain rfl:=pJ
  have nd:=hd.choose_spec.choose_spec.choose_spec.2.2.2.2.2
  have m1:∀ es:List (List MK×Addr×Value),(es.map pr).map (·.1)=es.map (·.1):=fun es=>List.map_map
  have m2:∀ es:List (List MK×Addr×Value),(es.map pr).map (·.2)=es.map (·.2.2):=fun es=>List.map_map
  obtain ⟨z1,z2⟩:=Td (kvs:=es.map pr) (x:=ks) vr (by refine f0 (m2 ..) ?_;exact vx)
  rw [←Kc (a:=a) nd,m1,m1] at z1
  rw [←Kc (a:=a) nd,m1,m2] at z2
  refine wpAny_setItem_heap (Gh h) is hd (fun h' hd' hs=>?_) (X2 (by rw [List.length_map] at hb;exact hb))
  exact q _ _ (h.put (A := .dt _) e (.inl rfl) hs nofun ⟨hdl,nsm,_,hd',z1,rfl⟩ z2) g
end
open PySem.Calls
noncomputable def Wy(B:Bk)(K:Fr)(t:St)(s:Shared)(N:y0→y0→Prop)(s':Shared):Prop:=∃ t' ρ',O3 B.C (i3 K.en) t s t' s'∧I1 B (K.at ρ') t' s'∧N ρ' t'.σ
noncomputable def ST(B:Bk)(e:Expr)(p:T):Prop:=∀ K t s v r N,I1 B K t s→G0 B.C t s.heap v r→sG B.L.f K.X p K.ρ v t.σ N→wpAny (model pw B.C.w) K.A (assign e K.en r) (fun Z=>Wy B K t s N) (SX B K t s) s
section
variable{B:Bk}{K:Fr}{t t' t'':St}{s s' s'':Shared}{pos p2:Pos}{N:y0→y0→Prop}{R:X0}{ρ':y0}
theorem Qw{x:Str}{i:Nat}(hk:Y6 (B.b.kd x)=true)(ei:B.b.tb.lookup x=some i):ST B (.Name x p2) (.loc i):=fun K t s v r N h vr q =>
 wpAny_assign_Name (wpAny_mono (N4 h ei (Ib h hk) vr) (fun Z s'' hp=>L1 t _ hp.1 hp.2 q) fun Z Z y=>y)
theorem io{o:Expr}{x:Nat}{p:E}(he:SE B o p)(hx:x<fS.length):ST B (.Attribute o (fN x) p2) (.attr p x):=fun K t s v r N h vr q=>by
 refine f0 (arm_assign_Attribute ..) ?_
 refine wpAny_bind (wpAny_holding (he.go h q fun t1 s1 u ru h1 y vu q=>?_))
 refine wpAny_bind (wpAny_standAt (wpAny_bind (wpAny_holding ?_)))
 refine A0 (Tv q) ?_;(repeat clear q);intro k xI q;obtain rfl:=xI
 refine A0 (D6 q) ?_;(repeat clear q);intro c e q
 refine Y1 (Ja q) ?_;(repeat clear q);intro A xs vI q;obtain rfl:=vI
 obtain ⟨_,rfl⟩:=vu
 induction A using Ag.casesOn with
 | obj c ns =>
  have q:=ao (f:=Nat.beq) (fun Z Z=>wG) (show Zz Nat.beq ns xs x v fun ns xs=>N K.ρ (R2 t1.σ k (some (.a (.obj c ns) xs))) from q)
  exact Qh h1.h e hx (vr.go (h.mo y) v) fun s2 z=>wpAny_release (L1 _ K.ρ (y.trans z.of0) (h1.ext z) q)
 | _=>exact q.elim
theorem Us{o i:Expr}{p pi:E}(he:SE B o p)(hi:SE B i pi):ST B (.Subscript o i p2) (.sub p pi):=fun K t s v r N h vr q=>by
 refine f0 (arm_assign_Subscript ..) ?_
 refine wpAny_bind (wpAny_holding (he.go h q fun t1 s1 u ru h1 y vu q=>?_))
 refine wpAny_bind (wpAny_holding (wpAny_mono (hi K t1 s1 _ h1.h q) (fun iv s2 hp=>?_) fun Z Z z=>SX.trans h.h.rel y (SX.of0 z)))
 refine Z0 hp ?_;(repeat clear hp);intro t2 j z vj q
 have h2:=h1.ext z
 refine wpAny_bind (wpAny_standAt (wpAny_bind (wpAny_holding ?_)))
 refine A0 (Tv q) ?_;(repeat clear q);intro k tI q;obtain rfl:=tI
 refine A0 (D6 q) ?_;(repeat clear q);intro c e q
 refine Y1 (Ja q) ?_;(repeat clear q);intro A xs rI q;obtain rfl:=rI
 obtain ⟨_,rfl⟩:=vu.go (h1.h.mo z) (.ref k)
 exact Xp (G:=N K.ρ) h2.h e vj ((vr.go (h.mo y) v).go (h1.h.mo z) v) q fun t3 s3 w g=>wpAny_release (L1 t3 K.ρ ((y.trans z.of0).trans w.of0) (h2.ext w) g)
theorem Vs{e v:Expr}{p:T}{pv:E}(hv:SE B v pv)(ht:ST B e p)(he:∀ en,exec (.Assign [e] v pos) en=(do standAt pos;let x ←eval v en;assign e en x;pure .next)):SS B (.Assign [e] v pos) (.asg p pv):=fun K t s N R h q=>by
 refine f0 (he ..) ?_
 refine wpAny_bind (wpAny_standAt (wpAny_bind (hv.go h q fun t1 s1 u r h1 y vu q=>?_)))
 refine wpAny_bind (wpAny_mono (ht K t1 s1 u r N h1 vu q) (fun Z s2 hp=>?_) fun Z Z z=>SX.trans h.h.rel y z)
 exact wpAny_pure (hp.imp fun Z hp=>hp.imp fun Z z=>⟨y.trans z.1,z.2⟩)
theorem Sw{o v:Expr}{x:Nat}{p pv:E}(hv:SE B v pv)(he:SE B o p)(hx:x<fS.length):SS B (.Assign [.Attribute o (fN x) p2] v pos) (.asg (.attr p x) pv) :=
 Vs hv (io he hx) fun en=>plainObj_exec_Assign_Attribute o (fN x) p2 v pos (by induction v using Expr.casesOn<;>rfl)
theorem BA{o i v:Expr}{p pi pv:E}(hv:SE B v pv)(he:SE B o p)(hi:SE B i pi):SS B (.Assign [.Subscript o i p2] v pos) (.asg (.sub p pi) pv) :=
 Vs hv (Us he hi) fun en=>exec_Assign_Subscript o i p2 v pos (by induction v using Expr.casesOn<;>rfl)
end
open PySem.Calls
structure Zl(B:Bk)(e:Expr)(p:E):Prop where
 se:SE B e p
 sb:SB B e p
 ca:∀ v vs q,e = .BoolOp .And (v::vs) q→L8 B .and (v::vs) p
 co:∀ v vs q,e = .BoolOp .Or (v::vs) q→L8 B .or (v::vs) p
 asg:∀ x p2 pos i,Y6 (B.b.kd x)=true→B.b.tb.lookup x=some i→SS B (.Assign [.Name x p2] e pos) (.asg (.loc i) p)
structure sH(B:Bk)(es:List Expr)(p:E):Prop where
 sl:SL B es p
 one:∀ e,es=[e]→∃ p1,p = .cons p1 .nil∧SB B e p1
structure C7{C:Cx}{n:Nat}(L:Lv C n)(p:E):Prop where
 e:∀ b e,(ck p).1 b e=true→Zl ⟨C,n,b,L⟩ e p
 l:∀ b es,(ck p).2 b es=true→sH ⟨C,n,b,L⟩ es p
noncomputable def dm(e:Expr):Bool:=!(e.ctorIdx==0)&&!yc e
theorem Yp{p:Bool}(h:(!p)=true):p=false:=by induction p using Bool.casesOn<;>first|rfl|exact Bool.noConfusion h
section
variable{B:Bk}
theorem Xs{e:Expr}(h:dm e=true):yc e=false:=Yp (br h)
theorem Zl.val2{e:Expr}{p:E}(he:SE B e p)(ht:SB B e p)(hp:dm e=true):Zl B e p :=
 ⟨he,ht,fun Z Z Z q=>by rw [q] at hp;exact Bool.noConfusion hp,fun Z Z Z q=>by rw [q] at hp;exact Bool.noConfusion hp,fun Z Z Z Z hk ei=>Ph he (Xs hp) hk ei⟩
theorem Zl.val{e:Expr}{p:E}(he:SE B e p)(hf:∀ en w,isTrue e en w=(do let v ←w;standAt e.pos;holding [v] (truthy v)))(hp:dm e=true):Zl B e p := .val2 he (fj he hf) hp
end
section
variable{C:Cx}{n:Nat}{L:Lv C n}{b:M5}
theorem DD{p:E}:∀ b (e:Expr),M9 b e=true→Zl ⟨C,n,b,L⟩ e p:=fun Z Z h=>Bool.noConfusion h
theorem qa{p:E}:∀ b (e:List Expr),M9 b e=true→sH ⟨C,n,b,L⟩ e p:=fun Z Z h=>Bool.noConfusion h
theorem MH{v:V}:C7 L (.k v):=⟨fun b e h=>Er h fun c Z Z h => .val (cj h) (fun Z Z=>rfl) rfl,qa⟩
theorem ED{i:Nat}:C7 L (.loc i):=⟨fun b e h=>U7 h fun x Z h => .val (ml (bl (bl h)) (eq_of_beq (br (bl h))) (br h)) (fun Z Z=>rfl) rfl,qa⟩
theorem xG{x:Nat}:C7 L (.gl x):=⟨fun b e h=>U7 h fun x Z h => .val (Ry h) (fun Z Z=>rfl) rfl,qa⟩
theorem yG{x:Nat}:C7 L (.gc x):=⟨fun b e h=>U7 h fun x Z h => .val (wD h) (fun Z Z=>rfl) rfl,qa⟩
theorem zG{x:Nat}:C7 L (.bl x):=⟨fun b e h=>U7 h fun x Z h => .val (Gn h) (fun Z Z=>rfl) rfl,qa⟩
theorem Re{o:BoolOp}{f:E→E→E}{x y:E}(hx:C7 L x)(hy:C7 L y){p:Pos}(go:∀ v w r,Zl ⟨C,n,b,L⟩ (.BoolOp o (v::w::r) p) y→L8 ⟨C,n,b,L⟩ f (v::w::r) y) :
  ∀ {vs:List Expr},Ah (ck x).1 (ck y).1 b o p vs=true→L8 ⟨C,n,b,L⟩ f vs (f x y)
 | [u,v],h => .more (hx.e b u (b2 h).1).se (hx.e b u (b2 h).1).sb (.one (hy.e b v (b2 h).2).se (hy.e b v (b2 h).2).sb)
 | u::v::w::r,h => .more (hx.e b u (b2 h).1).se (hx.e b u (b2 h).1).sb (go v w r (hy.e b _ (b2 h).2))
 | [u],h=>Bool.noConfusion h
 | [],h=>Bool.noConfusion h
theorem GD{x y:E}(hx:C7 L x)(hy:C7 L y):C7 L (.and x y):=⟨fun b e h=>Ey h fun o vs p h=>by
 induction o using BoolOp.casesOn with
 | And =>
  have w:=Re (f := .and) hx hy (fun v w r z=>z.ca v (w::r) p rfl) (vs:=vs) h
  exact ⟨ig w,Fs w,fun Z Z Z q=>by cases q;exact w,fun Z Z Z q=>(nomatch q),fun Z Z Z Z hk ei=>Ph (ig w) rfl hk ei⟩
 | Or=>exact Bool.noConfusion h,qa⟩
theorem AG{x y:E}(hx:C7 L x)(hy:C7 L y):C7 L (.or x y):=⟨fun b e h=>Ey h fun o vs p h=>by
 induction o using BoolOp.casesOn with
 | Or =>
  have w:=Re (f := .or) hx hy (fun v w r z=>z.co v (w::r) p rfl) (vs:=vs) h
  exact ⟨ij w,iw w,fun Z Z Z q=>(nomatch q),fun Z Z Z q=>by cases q;exact w,fun Z Z Z Z hk ei=>Ph (ij w) rfl hk ei⟩
 | And=>exact Bool.noConfusion h,qa⟩
theorem HD{x y z:E}(hx:C7 L x)(hy:C7 L y)(hz:C7 L z):C7 L (.ite x y z):=⟨fun b e h=>bD h fun u v w p h =>
 have X:=(hx.e b u (bl (bl h))).sb
 have Y:=hy.e b v (br (bl h))
 have W:=hz.e b w (br h)
 .val2 (pA X Y.se W.se) (qA X Y.sb W.sb) rfl,qa⟩
theorem CA{o o':Tk}{x y z:E}(hx:C7 L x)(hy:C7 L y)(hz:C7 L z):C7 L (.cmp2 o o' x y z):=⟨fun b e h=>by
 refine zr h fun l u v p h=>?_
 refine i2 h fun a a' h=>?_
 refine i2 h fun c c' h=>?_
 have X:=(hx.e b _ (br (bl (bl h)))).se
 have Y:=(hy.e b _ (br (bl h))).se
 have W:=(hz.e b _ (br h)).se
 have h:=bl (bl (bl h))
 have h1:=Yp (bl (bl h))
 have h2:=eq_of_beq (br (bl h))
 have h3:=eq_of_beq (br h)
 exact .val2 (jw X Y W h1 h2 h3) (mw X Y W h1 h2 h3) rfl,qa⟩
theorem DA{x y:E}(hx:C7 L x)(hy:C7 L y):C7 L (.call x y):=⟨fun b e h=>lb h fun g a p h =>
 .val (Aw (hx.e b _ (br (bl h))).se (hy.l b _ (br h)).sl (bl (bl h))) (fun Z Z=>rfl) rfl,qa⟩
theorem EA{a:Nat}{x y:E}(hx:C7 L x)(hy:C7 L y):C7 L (.meth a x y):=⟨fun b e h=>by
 refine lb h fun g as k h=>?_
 refine pd h fun o u z h=>?_
 refine iB (br (bl (bl h))) ?_
 exact .val (Bw (hx.e b _ (br (bl h))).se (hy.l b _ (br h)).sl (bl (bl (bl (bl h)))) (of_decide_eq_true (br (bl (bl (bl h)))))) (fun Z Z=>rfl) rfl,qa⟩
theorem Tw{c a:Nat}{y:E}(hy:C7 L y):C7 L (.cmeth c a y):=⟨fun b e h=>by
 refine lb h fun g as k h=>?_
 refine pd h fun o u z h=>?_
 refine U7 h fun v p h=>?_
 refine iB (br (bl h)) ?_
 have g:=bl (bl (bl h))
 exact .val (Js (br (bl g)) (of_decide_eq_true (br g)) (hy.l b _ (br h)).sl (bl (bl g))) (fun Z Z=>rfl) rfl,qa⟩
theorem BG{f:CM}{x y:E}(hx:C7 L x)(hy:C7 L y):C7 L (.cm f x y):=⟨fun b e h=>by
 refine lb h fun g as k h=>?_
 refine pd h fun o u z h=>?_
 refine iB (br (bl (bl (bl h)))) ?_
 exact .val (yD (hx.e b _ (br (bl h))).se (hy.l b _ (br h)).sl (bl (bl (bl (bl h))))) (fun Z Z=>rfl) rfl,qa⟩
theorem ID:C7 L .nil:=⟨DD,fun b es h=>by
 refine f0 (List.isEmpty_iff.mp h ..) ?_
 exact ⟨.nil,nofun⟩⟩
theorem FA{x y:E}(hx:C7 L x)(hy:C7 L y):C7 L (.cons x y):=⟨DD,fun b es h=>by
 induction es using List.casesOn with
 | nil=>exact Bool.noConfusion h
 | cons e r =>
  obtain ⟨h,h3⟩:=b2 h
  obtain ⟨h1,h2⟩:=b2 h
  have X:=hx.e b e h2
  have Y:=(hy.l b r h3).sl
  refine ⟨.cons X.se h1 Y,fun e' q=>?_⟩
  obtain ⟨rfl,rfl⟩:=List.cons.inj q
  cases Y
  exact C0 x rfl X.sb⟩
end
open PySem.Calls
theorem Vw{o:Operator}:ke o=some .add→o = .Add:=by
 induction o using Operator.casesOn with
 | Add=>exact fun Z=>rfl
 | _=>exact nofun
theorem Ww{o:Operator}:ke o=some .mul→o = .Mult:=by
 induction o using Operator.casesOn with
 | Mult=>exact fun Z=>rfl
 | _=>exact nofun
section
variable{C:Cx}{n:Nat}{L:Lv C n}
theorem DG{o:Op}{p:E}(w:C7 L p):C7 L (.op o p):=⟨fun b e h=>by
 have w:=w.l b
 induction o using Op.casesOn with
 | bin o=>exact Vk h fun l u r z h => .val (jA (w _ (br h)).sl (eq_of_beq (bl h))) (fun Z Z=>rfl) rfl
 | cat m =>
  refine Vk h fun l u r z h=>?_
  refine f0 (Vw (eq_of_beq (bl h))) ?_
  exact .val (kA (w _ (br h)).sl) (fun Z Z=>rfl) rfl
 | rep m =>
  refine Vk h fun l u r z h=>?_
  refine f0 (Ww (eq_of_beq (bl h))) ?_
  exact .val (lA (w _ (br h)).sl) (fun Z Z=>rfl) rfl
 | neg =>
  refine yr h fun u x z h=>?_
  refine f0 (ag (bl h)) ?_
  exact .val (Es (w _ (br h)).sl) (fun Z Z=>rfl) rfl
 | not =>
  refine yr h fun u x z h=>?_
  refine f0 (Lr (bl h)) ?_
  refine A0 ((w _ (br h)).one _ rfl) ?_;intro p1 tI hb;obtain rfl:=tI
  exact .val2 (iA (w _ (br h)).sl) (nA hb) rfl
 | cmp o =>
  refine zr h fun l u r z h=>?_
  refine i1 h fun u h=>?_
  refine i1 h fun r h=>?_
  have h1:=Yp (bl (bl h))
  have h2:=eq_of_beq (br (bl h))
  have W:=(w _ (br h)).sl
  exact .val2 (mA W h1 h2) (oA W h1 h2) rfl
 | list m=>exact Ar h fun es z h => .val (bw (w _ (br h)).sl (of_decide_eq_true (bl h))) (fun Z Z=>rfl) rfl
 | tup=>exact Fy h fun es k z h => .val (dA (w _ (br h)).sl (of_decide_eq_true (bl h))) (fun Z Z=>rfl) rfl
 | lstar =>
  refine Ar h fun es z h=>?_
  refine i2 h fun x y h=>?_
  refine Mz (e:=y) (br h) fun v z g=>?_
  exact .val (Ds (w _ g).sl (bl h)) (fun Z Z=>rfl) rfl
 | ds ss m =>
  refine Br h fun ks vs z h=>?_
  have X:=(w _ (br h)).sl
  have h4:=of_decide_eq_true (br (bl h))
  have h:=bl (bl h)
  have h3:=eq_of_beq (br h)
  have h2:=of_decide_eq_true (br (bl h))
  exact (of_decide_eq_true (bl (bl h))).elim (fun z => .val (AD X h3 h2 h4 z) (fun Z Z=>rfl) rfl) fun z => .val (wA X h3 h2 h4 z.1 z.2) (fun Z Z=>rfl) rfl
 | dt m =>
  refine Br h fun ks vs z h=>?_
  refine iE (bl (bl h)) ?_
  refine iE (br (bl h)) ?_
  have X:=(w _ (br h)).sl
  cases X
  exact .val BD (fun Z Z=>rfl) rfl
 | attr x =>
  refine pd h fun o u z h=>?_
  refine iB (br (bl h)) ?_
  exact .val (aw (w _ (br h)).sl (bl (bl (bl h))) (of_decide_eq_true (br (bl (bl h))))) (fun Z Z=>rfl) rfl
 | sub=>exact X8 h fun o i z h => .val (cA (w _ (br h)).sl) (fun Z Z=>rfl) rfl
 | slLo m =>
  refine X8 h fun o i z h=>?_
  refine Dn h fun a c d z h=>?_
  refine iN (bl (bl h)) (iN (br (bl h)) (iO (br h) fun u h=>?_))
  exact .val (dw (w _ h).sl) (fun Z Z=>rfl) rfl
 | slHi m =>
  refine X8 h fun o i z h=>?_
  refine Dn h fun a c d z h=>?_
  refine iN (bl (bl h)) (iN (br (bl h)) (iO (br h) fun u h=>?_))
  exact .val (gw (w _ h).sl) (fun Z Z=>rfl) rfl
 | slBoth m =>
  refine X8 h fun o i z h=>?_
  refine Dn h fun a c d z h=>?_
  refine iN (bl h) (iO (br h) fun u h=>iO h fun v h=>?_)
  exact .val (Hp (w _ h).sl) (fun Z Z=>rfl) rfl
 | rev =>
  refine X8 h fun o i z h=>?_
  refine Dn h fun a c d z h=>?_
  have W:=(w _ (br (bl h))).sl
  have g:=bl (bl h)
  refine iN (bl g) (iN (br g) (iO (br h) fun v h=>yr h fun u x z h=>?_))
  refine f0 (ag (bl h)) (Er (br h) fun c k z h=>?_)
  refine A0 (P0 h) fun j e h=>?_
  refine f0 (Kr e) (iB h ?_)
  exact .val (fA W) (fun Z Z=>rfl) rfl
 | bf f =>
  refine lb h fun g a z h=>?_
  refine U7 h fun x z h=>?_
  exact .val (zD (bl (bl h)) (w _ (br h)).sl) (fun Z Z=>rfl) rfl,qa⟩
theorem jo{e:Expr}(h:Uk e=true):∀ en x,foldedSetIterable e en x=pure x:=by
 induction e using Expr.casesOn with
 | Set=>exact Bool.noConfusion h
 | _=>exact fun Z Z=>rfl
theorem GA{p:E}(h:p.isT=true):p = .k (.bool true):=by
 induction p using E.casesOn with
 | k v=>induction v using V.casesOn with
  | bool c=>induction c using Bool.casesOn with
   | true=>rfl
   | false=>exact Bool.noConfusion h
  | _=>exact Bool.noConfusion h
 | _=>exact Bool.noConfusion h
theorem Ys{c:E}{b:M5}(hc:C7 L c){ifs:List Expr}(h:Nr (ck c).1 c b ifs=true):wg ⟨C,n,b,L⟩ ifs c :=
 (or_true h).elim (fun h => .inl ⟨List.isEmpty_iff.mp (bl h),GA (br h)⟩) fun h=>(P0 h).elim fun u h => .inr (C0 u (Gr h.1) ((hc.e _ u h.2).sb))
theorem Xy{x:E}{b:M5}(hx:C7 L x){ik:IK}{e:Expr}(h:Rz (ck x) ik b e=true):SI ⟨C,n,b,L⟩ e ik x:=by
 induction ik using IK.casesOn with
 | val=>exact xA (hx.e b e h).se
 | vals =>
  refine lb h fun g a k h=>?_
  refine pd h fun o u z h=>?_
  have g:=bl (bl h)
  refine iE (bl g) (iB (br g) ?_)
  exact Hw (hx.e b _ (br h)).se (br (bl h))
 | range=>exact lb h fun g a k h=>U7 h fun r z h=>Ms (br (bl h)) (hx.l b _ (br h)).sl
 | range2=>exact lb h fun g a k h=>U7 h fun r z h=>Tp (br (bl h)) (hx.l b _ (br h)).sl
 | enum=>exact lb h fun g a k h=>U7 h fun r z h=>Gw (br (bl h)) (hx.l b _ (br h)).sl
theorem JD{ik:IK}(h:(!(ik == .enum))=true):ik.pat=false:=by
 induction ik using IK.casesOn with
 | enum=>exact Bool.noConfusion h
 | _=>rfl
theorem HA{nx:Nat}{fv ts:List Nat}{pat:Bool}{ik:IK}{m:Md}{it x c:E}(hi:C7 L it)(hx:C7 L x)(hc:C7 L c):C7 L (.comp nx fv ts pat ik m it x c):=⟨fun b e h=>by
 refine cD h fun x' g s z h=>?_
 refine i1 h fun g h=>?_
 obtain ⟨tg,i,ifs,k⟩:=g
 have hk:k=0:=eq_of_beq (bl h)
 refine f0 hk ?_
 have h:=br h
 have T:=Ys hc (br h)
 have h:=bl h
 have X:=(hx.e _ _ (br h)).se
 have h:=bl h
 have I:=Xy hi (br h)
 have h6:=eq_of_beq (br (bl h))
 have h:=bl (bl h)
 have h5:=eq_of_beq (br h)
 have h:=bl h
 refine f0 (eq_of_beq (br h)) ?_
 have h:=bl h
 have h3:=jo (br h)
 have h1:=bl (bl h)
 have h2:=JD (br (bl h))
 have W:=Wn (B:=⟨C,n,b,L⟩) (pos:=z) (md:=m) h1 I h2 X T h6 h5 h3
 exact ⟨W,fj W fun Z Z=>rfl,fun Z Z Z q=>(nomatch q),fun Z Z Z q=>(nomatch q),fun Z Z Z Z hk ei=>Ow h1 I h2 X T h6 h5 h3 hk ei⟩,qa⟩
theorem IA:C7 L .dead:=⟨fun b e Z=>⟨fun Z Z Z Z Z q=>False.elim q,fun Z Z Z Z Z q=>False.elim q,fun Z Z Z Z => .dead,fun Z Z Z Z => .dead,fun Z Z Z Z Z Z Z Z Z Z Z Z q=>False.elim q⟩,qa⟩
theorem gm{C:Cx}{n:Nat}(L:Lv C n):∀ p,C7 L p:=E.rec (fun Z=>MH) (fun Z=>ED) (fun Z=>xG) (fun Z=>yG) (fun Z=>zG) (fun Z Z=>DG) (fun Z Z=>GD) (fun Z Z=>AG) (fun Z Z Z=>HD) (fun Z Z Z Z Z=>CA) (fun Z Z=>DA) (fun Z Z Z=>EA) (fun Z Z Z=>Tw) (fun Z Z Z=>BG)
 (fun Z Z Z Z Z Z Z Z Z=>HA) ID (fun Z Z=>FA) IA
end
open PySem.Calls
noncomputable def EG(b:M5):T→Expr→Bool
 | .loc i,e=>Cr e fun x Z=>Y6 (b.kd x)&&b.tb.lookup x==some i
 | .attr o x,e=>Dy e fun w u Z=>decide (x<fS.length)&&u==fN x&&(ck o).1 b w
 | .sub o i,e=>Yi e fun w u Z=>Xi u&&(ck o).1 b w&&(ck i).1 b u
noncomputable def Zp(b:M5):List T→List Expr→Bool
 | [],[]=>true
 | t::ts,e::es=>EG b t e&&Zp b ts es
 | _,_=>false
noncomputable def Ba(e:Expr):Option Str:=(P7 e).map (·.1)
noncomputable def im(ts:List Expr)(v:Expr):Bool:=ts.all Q4&&decide ((ts.filterMap Ba).Nodup)&&!(dD v fun vs Z Z=>vs.all (constantsAlone 8)&&!(vs.all (foldedForSure 8)))
section
variable{C:Cx}{n:Nat}{L:Lv C n}{b:M5}
theorem KD(p:T)(e:Expr)(h:EG b p e=true):ST ⟨C,n,b,L⟩ e p:=by
 induction p using T.casesOn with
 | loc i=>exact U7 h fun x z h=>Qw (bl h) (eq_of_beq (br h))
 | attr o x=>exact pd h fun w u z h=>iB (br (bl h)) (io ((gm L o).e b _ (br h)).se (of_decide_eq_true (bl (bl h))))
 | sub o i=>exact X8 h fun w u z h=>Us ((gm L o).e b _ (br (bl h))).se ((gm L i).e b _ (br h)).se
end
noncomputable abbrev LD(ρ:y0)(p:Str×Nat×V):y0:=R2 ρ p.2.1 (some p.2.2)
theorem Cg{v:V}{k:Nat}{l:List (Nat×V)}:((k,v)::l).lookup k=some v:=by exact f0 (List.lookup_cons ..) (f0 (beq_self_eq_true ..) rfl)
theorem Lc{v:V}{k j:Nat}{l:List (Nat×V)}(n:j≠k):((k,v)::l).lookup j=l.lookup j:=by exact f0 (List.lookup_cons ..) (f0 (beq_eq_false_iff_ne.mpr n ..) rfl)
theorem Se{k:Nat}:∀ {l:List (Nat×V)},k∉l.map (·.1)→l.lookup k=none
 | [],_=>rfl
 | p::l,h=>(Lc (k:=p.1) (v:=p.2) fun (q:k=p.1)=>h (q ▸ .head _)).trans (Se fun z=>h (.tail _ z))
theorem Dg(ρ:y0)(k:Nat):∀ L:List (Str×Nat×V),A1 (L.foldr (fun p r=>LD r p) ρ) k=((L.map (·.2)).lookup k).or (A1 ρ k)
 | []=>rfl
 | p::L=>by
  by_cases q:k=p.2.1
  ·subst q
   have e:((p::L).map (·.2)).lookup p.2.1=some p.2.2:=Cg (k:=p.2.1) (v:=p.2.2)
   exact (N1 ..).trans (by refine f0 (e ..) ?_;rfl)
  ·exact (T1 _ _ q).trans ((Dg ρ k L).trans (congrArg (Option.or · (A1 ρ k)) (Lc (v:=p.2.2) q)).symm)
theorem Eg(k:Nat):∀ (L:List (Str×Nat×V)) (ρ:y0),(L.map (·.2.1)).Nodup→A1 (L.foldl LD ρ) k=((L.map (·.2)).lookup k).or (A1 ρ k)
 | [],_,_=>rfl
 | p::L,ρ,nd=>by
  obtain ⟨n1,n2⟩:=List.nodup_cons.mp nd
  refine (Eg k L (LD ρ p) n2).trans ?_
  by_cases q:k=p.2.1
  ·subst q
   have e:((p::L).map (·.2)).lookup p.2.1=some p.2.2:=Cg (k:=p.2.1) (v:=p.2.2)
   refine f0 (Se (by rw [List.map_map];exact n1) ..) (f0 (e ..) ?_)
   exact N1 ρ p.2.1 _
  ·exact (congrArg (Option.or _) (T1 ρ _ q)).trans (congrArg (Option.or · (A1 ρ k)) (Lc (v:=p.2.2) q)).symm
theorem Zs{α β:Type}{f:α→Option β}:∀ {l:List α},(l.filterMap f).length=l.length→l.map f=(l.filterMap f).map some
 | [],_=>rfl
 | a::l,h=>by
  cases e:f a with
  | none =>
   rw [List.filterMap_cons_none e] at h
   exact absurd (List.length_filterMap_le f l) (by rw [h];exact Nat.not_succ_le_self _)
  | some b =>
   rw [List.filterMap_cons_some e] at h ⊢
   exact f0 (List.map_cons ..) (f0 (List.map_cons ..) (f0 (e ..) (f0 (Zs (Nat.succ.inj h) ..) rfl)))
theorem qo{α:Type}:∀ l:List α,(l.map some).filterMap id=l
 | []=>rfl
 | a::l=>congrArg (a::·) (qo l)
theorem MD{ts:List Expr}{f:Expr→Option Str}{en:Env}(hf:∀ t x,f t=some x→Ba t=some x∧en.kindOf x=some .local)(hl:(ts.filterMap f).length=ts.length)(h2:(ts.filterMap Ba).Nodup) :
  ts.map Ba=(ts.filterMap f).map some∧(ts.filterMap f).Nodup∧∀ x∈ts.filterMap f,en.kindOf x=some .local:=by
 have em:=Zs hl
 have e1:ts.map Ba=(ts.filterMap f).map some:=by
  rw [←em]
  refine List.map_congr_left fun t ht=>?_
  have hm:f t∈(ts.filterMap f).map some:=em▸List.mem_map.mpr (C0 t ht rfl)
  refine A0 (List.mem_map.mp hm) fun x Z e=>?_
  rw [←e];exact (hf t x e.symm).1
 refine V0 e1 ?_ (fun x hx=>(List.mem_filterMap.mp hx).elim fun t z=>(hf t x z.2).2)
 have e2:ts.filterMap Ba=ts.filterMap f:=by
  have a1:ts.filterMap Ba=(ts.map Ba).filterMap id:=by rw [List.filterMap_map];rfl
  exact f0 (a1 ..) (f0 (e1 ..) (f0 (qo ..) rfl))
 exact e2▸h2
set_option tactic.hygienic true in
theorem NH{p:Bool}(h:(!p)=false):p=true:=by induction p using Bool.casesOn<;>first|rfl|exact Bool.noConfusion h
theorem jm{ts:List Expr}{v:Expr}{k:Nat}{p:Pos}{en:Env}(zC:im ts v=true):swappedStores [.Tuple ts k p] v en=pure none ∨
  ∃ names,swappedStores [.Tuple ts k p] v en=pure (some names)∧ts.map Ba=names.map some∧names.Nodup∧∀ x∈names,en.kindOf x=some .local:=by
 obtain ⟨h,h3⟩:=b2 zC
 obtain ⟨h1,h2⟩:=b2 h
 have h2:=of_decide_eq_true h2
 induction v using Expr.casesOn with
 | Tuple vs k' p' =>
  have h3:(!(vs.all (constantsAlone 8)&&!(vs.all (foldedForSure 8))))=true:=h3
  unfold swappedStores
  dsimp only
  split
  ·exact .inl rfl
  split
  ·exact .inl rfl
  split
  ·exact .inl rfl
  rename_i hc
  split
  ·exact .inl rfl
  rename_i hf
  split
  ·rename_i hcn
   rw [hcn] at h3
   exact absurd (NH (Yp h3)) hf
  ·refine .inr (C0 _ rfl ?_)
   rw [Bool.not_eq_true,Bool.or_eq_false_iff,bne_eq_false_iff_eq] at hc
   refine MD (fun t x e=>?_) hc.1 h2
   split at e
   ·split at e
    ·rename_i hk
     obtain rfl:=Option.some.inj e
     exact ⟨rfl,eq_of_beq (b2 hk).1⟩
    ·exact nn e
   ·exact nn e
 | _=>exact .inl rfl
theorem z8{en:Env}:∀ {ts:List Expr},ts.all Q4=true→assignEach ts en=ts.map fun t=>(false,assign t en)
 | [],_=>rfl
 | t::ts,h=>by
  rw [List.all_cons] at h
  have ih:=z8 (en:=en) (b2 h).2
  refine f0 (List.map_cons ..) (P5 (ih ..) ?_)
  induction t using Expr.casesOn with
  | Starred=>exact Bool.noConfusion (b2 h).1
  | _=>rfl
open PySem.Calls
section
variable{B:Bk}{K:Fr}{t t':St}{s s':Shared}{ρ':y0}
theorem I1.sub(h:I1 B K t s)(w:∀ i,A1 ρ' i=A1 K.ρ i):I1 B (K.at ρ') t s :=
 ⟨⟨h.h.ok,h.h.amb,h.h.fr,h.h.sc,⟨h.h.env.kind,h.h.env.glob,h.h.env.blt,h.h.env.loc.imp fun Z z=>⟨z.1,fun x i v a b c=>z.2 x i v a ((w i).symm.trans b) c⟩,h.h.env.nloc,fun x i v a b c=>h.h.env.cel x i v a ((w i).symm.trans b) c⟩,h.h.rel,h.h.own,h.h.oa⟩,h.l,h.sc,h.f,h.cells⟩
theorem Te{EX:Value→Shared→Prop}:∀ (L:List (Str×Nat×V)) (rs:List Value) (ρ:y0) (s:Shared),I1 B (K.at ρ) t s→(∀ p∈L,B.b.tb.lookup p.1=some p.2.1∧K.en.kindOf p.1=some .local)→E0 B.C t s.heap (L.map (·.2.2)) rs →
  wpAny (model pw B.C.w) K.A (assignInOrder (L.map fun p=>bindName K.en p.1) rs) (fun Z s'=>O3 B.C (i3 K.en) t s t s'∧I1 B (K.at (L.foldl LD ρ)) t s') EX s
 | [],rs,ρ,s,h,hL,vr=>by
  obtain rfl:=(show rs=[] from vr)
  exact wpAny_pure ⟨.refl h.h.rel,h⟩
 | p::L,rs,ρ,s,h,hL,vr=>by
  refine Z0 vr ?_;(repeat clear vr);intro r rt zI x xs;obtain rfl:=zI
  show wpAny _ _ (holding rt (bindName K.en p.1 r) >>= fun Z=>assignInOrder (L.map fun p=>bindName K.en p.1) rt) _ _ _
  obtain ⟨e1,e2⟩:=hL p (.head _)
  refine wpAny_bind (wpAny_holding (wpAny_bindName (wpAny_mono (N4 (K:=K.at ρ) h e1 (.inl e2) x) (fun Z s2 hp=>?_) fun Z Z y=>y)))
  exact wpAny_mono (Te L rt _ s2 hp.2 (fun q hq=>hL q (.tail _ hq)) (xs.go (h.mo hp.1) _)) (fun Z s3 hq=>⟨hp.1.trans hq.1,hq.2⟩) fun Z Z y=>y
end
section
variable{C:Cx}{n:Nat}{L:Lv C n}{b:M5}{pos p2:Pos}
theorem Aj{X:y0→Prop}{σ:y0}{N:y0→y0→Prop}:∀ {ts:List Expr} {tt:List T} {names:List Str} {vs:List V} {ρ:y0},ts.map Ba=names.map some→Zp b tt ts=true→Wv L.f X tt vs ρ σ N →
  ∃ L:List (Str×Nat×V),L.map (·.1)=names∧L.map (·.2.2)=vs∧(∀ p∈L,b.tb.lookup p.1=some p.2.1)∧N (L.foldl LD ρ) σ
 | [],[],[],[],_,_,_,q=>i5 [] rfl rfl (fun Z h=>(List.not_mem_nil h).elim) q
 | [],[],[],_::_,_,_,_,q=>q.elim
 | t::ts,u::tt,x::names,[],_,_,_,q=>q.elim
 | t::ts,u::tt,x::names,v::vs,ρ,e,k,q=>by
  obtain ⟨e1,e2⟩:=List.cons.inj e
  obtain ⟨k1,k2⟩:=b2 k
  refine A0 (F4 e1) fun y e3 e4=>?_
  induction u using T.casesOn with
  | loc i =>
   have k1:b.tb.lookup y.1=some i:=U7 (P:=fun t=>P7 t=some y→b.tb.lookup y.1=some i) k1 (fun z w k e3=>Option.some.inj (show some (z,w)=some y from e3)▸eq_of_beq (br k)) e3
   refine fe (Aj e2 k2 q) fun L a1 a2 a3 a4=>?_
   exact i5 ((x,i,v)::L) (congrArg _ a1) (congrArg _ a2) (fun p hp=>(List.mem_cons.mp hp).elim (fun e=>by refine f0 (e ..) (f0 (e4 ..) ?_);exact k1) (a3 p)) a4
  | attr o a=>exact pd (P:=fun t=>P7 t=some y→_) k1 (fun Z Z Z Z e3=>nn e3) e3
  | sub o a=>exact X8 (P:=fun t=>P7 t=some y→_) k1 (fun Z Z Z Z e3=>nn e3) e3
theorem Bj:∀ {ts:List Expr} {tt:List T},Zp b tt ts=true→∀ K t s vs rs N,I1 ⟨C,n,b,L⟩ K t s→E0 C t s.heap vs rs→Wv L.f K.X tt vs K.ρ t.σ N →
  wpAny (model pw C.w) K.A (assignInOrder (ts.map fun t=>assign t K.en) rs) (fun Z=>Wy ⟨C,n,b,L⟩ K t s N) (SX ⟨C,n,b,L⟩ K t s) s
 | [],[],_,K,t,s,[],rs,N,h,vr,q=>by
  obtain rfl:=(show rs=[] from vr)
  exact wpAny_pure (L1 t K.ρ (.refl h.h.rel) h q)
 | [],[],_,K,t,s,_::_,rs,N,h,vr,q=>q.elim
 | e::ts,u::tt,k,K,t,s,[],rs,N,h,vr,q=>q.elim
 | e::ts,u::tt,k,K,t,s,v::vs,rs,N,h,vr,q=>by
  refine Z0 vr ?_;(repeat clear vr);intro r rt xI x xs;obtain rfl:=xI
  show wpAny _ _ (holding rt (assign e K.en r) >>= fun Z=>assignInOrder (ts.map fun t=>assign t K.en) rt) _ _ _
  refine wpAny_bind (wpAny_holding (wpAny_mono (KD u e (b2 k).1 K t s v r _ h x q) (fun Z s2 hp=>?_) fun Z Z y=>y))
  refine Z0 hp ?_;(repeat clear hp);intro t2 ρ2 y h2 q2
  exact wpAny_mono (Bj (b2 k).2 (K.at ρ2) t2 s2 vs rt N h2 (xs.go (h.mo y) _) q2) (fun Z s3 hq=>hq.imp fun Z hq=>hq.imp fun Z z=>⟨y.trans z.1,z.2⟩) fun Z Z z=>SX.trans h.h.rel y z
theorem Cj:∀ {tt:List T} {ts:List Expr},Zp b tt ts=true→tt.length=ts.length
 | [],[],_=>rfl
 | _::_,_::_,h=>congrArg (·+1) (Cj (b2 h).2)
end
theorem Fg{tb:vC}(inj:∀ x y i,tb.lookup x=some i→tb.lookup y=some i→x=y):∀ {L:List (Str×Nat×V)},(∀ p∈L,tb.lookup p.1=some p.2.1)→(L.map (·.1)).Nodup→(L.map (·.2.1)).Nodup
 | [],_,_=>List.nodup_nil
 | p::L,hL,nd=>by
  obtain ⟨n1,n2⟩:=List.nodup_cons.mp nd
  refine List.nodup_cons.mpr ⟨fun hm=>?_,Fg inj (fun q hq=>hL q (.tail _ hq)) n2⟩
  refine A0 (List.mem_map.mp hm) fun q hq e=>?_
  exact n1 (List.mem_map.mpr (C0 q hq (inj _ _ _ ((hL q (.tail _ hq)).trans (congrArg some (show q.2.1=p.2.1 from e))) (hL p (.head _)))))
section
variable{C:Cx}{n:Nat}{L:Lv C n}{b:M5}{pos p2:Pos}
theorem Xw{ts:List Expr}{v:Expr}{pv:E}{tt:List T}{k2:Nat}(hv:SE ⟨C,n,b,L⟩ v pv)(hck:Zp b tt ts=true)(zC:im ts v=true):SS ⟨C,n,b,L⟩ (.Assign [.Tuple ts k2 p2] v pos) (.asgs tt pv):=fun K t s N R h q=>by
 have hs:swapsWithSole [.Tuple ts k2 p2] v pos.line K.en=pure false:=by induction v using Expr.casesOn<;>rfl
 refine f0 (exec_Assign_arm ..) ?_
 refine wpAny_bind (wpAny_standAt ?_)
 refine f0 (hs ..) ?_
 refine wpAny_bind (wpAny_pure ?_)
 refine f0 (if_neg Bool.false_ne_true ..) ?_
 refine wpAny_bind (hv.go h q fun t1 s1 u r h1 y vu q=>?_)
 refine Y1 (Ja q) ?_;(repeat clear q);intro A vs vI q;obtain rfl:=vI
 induction A using Ag.casesOn with
 | tup =>
  obtain ⟨ql,q⟩:=V4 q
  have ql:=Nat.eq_of_beq_eq_true ql
  refine O8 vu.d.tup ?_;intro a its rI tI vr hsz _;obtain rfl:=rI;refine F1 tI ?_;(repeat clear tI);intro o ho hc uI;obtain ⟨mm,hd⟩:=uI
  have hns:ts.all Q4=true:=(b2 (b2 zC).1).1
  have K5:∀ h',Heap.ExtBut s1.heap.objs.size s1.heap h'→O3 C no t1 s1 t1 { s1 with heap:=h' }:=fun h' he=>⟨Tr.more h1.h.rel h1.h.own fun b o e=>he b o (fun q=>Q5 (M2 _ (Nat.le_of_eq q.symm)) e) e,rfl,rfl⟩
  rcases jm (en:=K.en) (k:=k2) (p:=p2) zC with hw|⟨names,hw,e1,nd,e2⟩
  ·refine f0 (hw ..) ?_
   refine wpAny_bind (wpAny_pure ?_)
   show wpAny _ K.A (do assign (.Tuple ts k2 p2) K.en (.ref a);pure Flow.next) _ _ s1
   refine wpAny_bind (wpAny_assign_Tuple h1.h.amb.hand (A2 o ho hc ⟨mm,hd⟩) (by exact f0 (z8 hns ..) (f0 (List.length_map ..) (f0 (hsz ..) (f0 (ql ..) (f0 (Cj hck ..) rfl))))) (by rw [z8 hns,List.findIdx?_map];simp) fun h' he=>?_)
   have Y:=K5 h' he
   refine f0 (z8 hns ..) (f0 (List.map_map ..) ?_)
   refine wpAny_mono (Bj hck K t1 _ vs its.toList N (h1.ext Y) (vr.go (h1.mo Y.of0) vs) q) (fun Z s3 hq=>?_) fun Z Z z=>SX.trans h.h.rel (y.trans Y.of0) z
   exact wpAny_pure (hq.imp fun Z hq=>hq.imp fun Z z=>⟨(y.trans Y.of0).trans z.1,z.2⟩)
  ·refine f0 (hw ..) ?_
   refine wpAny_bind (wpAny_pure ?_)
   refine fe (Aj e1 hck q) fun L a1 a2 a3 a4=>?_
   show wpAny _ K.A (do
    rule "assign.swapped-stores"
    let items ←unpackItems (.ref a) names.length none
    assignInOrder (names.reverse.map fun n=>bindName K.en n) items.reverse
    pure Flow.next) _ _ s1
   have hnl:names.length=its.size:=by exact f0 (hsz ..) (P5 (a1 ..) (P5 (a2 ..) (f0 (List.length_map ..) (f0 (List.length_map ..) rfl))))
   refine f0 (hnl ..) ?_
   refine wpAny_bind (wpAny_rule (wpAny_bind (wpAny_unpackItems_tuple h1.h.amb.hand (A2 o ho hc ⟨mm,hd⟩) fun h' he=>?_)))
   have Y:=K5 h' he
   have em:(names.reverse.map fun n=>bindName K.en n)=L.reverse.map fun p=>bindName K.en p.1:=by
    refine P5 (a1 ..) (P5 (List.map_reverse ..) (f0 (List.map_map ..) ?_));rfl
   refine f0 (em ..) ?_
   have ndx:=Fg h.f.inj a3 (a1▸nd)
   refine wpAny_bind (wpAny_mono (Te L.reverse _ K.ρ _ (h1.ext Y) (fun p hp=>⟨a3 p (List.mem_reverse.mp hp),e2 p.1 (a1▸List.mem_map.mpr (C0 p (List.mem_reverse.mp hp) rfl))⟩) (by refine f0 (List.map_reverse ..) (f0 (a2 ..) ?_);exact (vr.go (h1.mo Y.of0) vs).rev)) (fun Z s3 hq=>?_) fun Z Z y=>y)
   exact wpAny_pure (L1 t1 _ ((y.trans Y.of0).trans hq.1) (hq.2.sub fun k=>by
    refine f0 (List.foldl_reverse ..) ?_
    exact (Eg k L K.ρ ndx).trans (Dg K.ρ k L).symm) a4)
 | _=>exact q.elim
end
open PySem.Calls
section
variable{B:Bk}
theorem aq{e:Expr}{p:E}{k:Nat}{p1 p2 p3 p4 p5 cp:Pos}(he:SE B e p)(hc:B.b.kd "BadRows"=some .globalImplicit) :
  SS B (.Try [.Return (some e) p1] [.ExceptHandler (some (.Name "BadRows" cp)) none [.Return (some (.Constant .none k p2)) p3] p4] [] [] p5) (.tryret p):=fun K t s N R h q=>by
 have h0:I1 B ⟨K.A,K.l,K.en,K.ρ,fun σ=>R .none σ⟩ t s:=⟨⟨h.h.ok,h.h.amb,h.h.fr,h.h.sc,h.h.env,h.h.rel,h.h.own,h.h.oa⟩,h.l,h.sc,h.f,h.cells⟩
 refine wpAny_Try_except (wpAny_execs_cons (wpAny_Return_some (wpAny_mono (he ⟨K.A,K.l,K.en,K.ρ,fun σ=>R .none σ⟩ t s _ h0.h q) (fun v s' hp=>?_) fun ev s1 hf=>?_)))
 ·exact hp.imp fun t' hp=>hp.imp fun u z=>V0 z.1.of0 (h.h.own.tr0 h.h.rel z.1.tr) z.2
 refine Ri hf ?_;(repeat clear hf);intro t' Bx ea cls a0 rI y qR hcl hf;obtain rfl:=rI
 have hfr:=h.h.amb.fr
 have hf:Heap.FlyingW Bx (K.en::K.l.tail) ea (.ref cls) a0 s1.heap:=h.l▸hf
 rw [h.l] at hfr
 refine wpAny_looks_onW hfr h.f.fr hf fun h4 hheld hsm4=>?_
 refine wpAny_landsW hheld fun h5 hfl hsm5=>?_
 have k5:∀ b o,B.C.B.get? b=some o→h5.get? b=some o:=fun b o e=>hfl.1 b o (y.rel.base b o e)
 obtain ⟨m,hm⟩:=h.h.ok.mg
 refine A0 hfl.there fun ob hob hobc=>?_
 have LT:Looks (model pw B.C.w) h5 (typeOf (.ref ea)) (.ref cls):=by refine P5 (hobc ..) ?_;exact (Looks.ld hob).andThen .now
 have EX:=exm_one (M:=model pw B.C.w) (h.h.ok.inB.keeps k5) LT (h.h.ok.exm cls hcl)
 refine wpAny_handleBy_cons (codeAny_handlers_test ?_) nofun
 refine wpAny_Name ?_ (by decide)
 show wpAny _ _ (loadName K.en "BadRows") _ _ _
 unfold loadName
 have ek:K.en.kindOf "BadRows"=some .globalImplicit:=h.h.sc.eq hc nofun
 simp only [Env.blockKind,h.h.env.kind,ek,ScopeKind.isAnnotationScope,Bool.false_and,Bool.false_eq_true,if_false]
 refine loadGlobal_global (h.h.env.glob▸hm.keeps k5) (mg_of h.h.ok.inB hm hcl) ?_
 refine EX.here ?_
 refine f0 (if_pos rfl ..) ?_
 refine codeAny_handlers_suite ?_
 refine lands_againW hfl fun h6 hfl6 hsm6=>?_
 have E6:=y.land (h.l▸h.h.fr) hfl6.1 (hsm4.trans (hsm5.trans hsm6)) h.h.rel.sub fun Z Z=>id
 exact wpAny_execs_cons (wpAny_Return_some (wpAny_Constant_none (aa t' .none E6.of0 (h.h.own.tr0 h.h.rel E6.tr) rfl qR)))
end
open PySem.Calls
noncomputable abbrev wC:=(M5→Stmt→Bool)×(M5→List Stmt→Bool)
noncomputable def Yw(s:Stmt)(f:List Expr→Expr→Pos→Bool):Bool:=dite (s.ctorIdx=5) (fun h=>Stmt.Assign.elim s h f) fun Z=>false
@[elab_as_elim] theorem bt{P:Stmt→Prop}{s:Stmt}{f}(h:Yw s f=true)(k:∀ l v p,f l v p=true→P (.Assign l v p)):P s:=Stmt.Assign.elim (motive_2:=fun s=>Yw s f=true→P s) s (dI h) k h
noncomputable def FG(s:Stmt)(f:Expr→Pos→Bool):Bool:=dite (s.ctorIdx=24) (fun h=>Stmt.Expr.elim s h f) fun Z=>false
@[elab_as_elim] theorem ND{P:Stmt→Prop}{s:Stmt}{f}(h:FG s f=true)(k:∀ v p,f v p=true→P (.Expr v p)):P s:=Stmt.Expr.elim (motive_2:=fun s=>FG s f=true→P s) s (dI h) k h
noncomputable def jt(s:Stmt)(f:Option Expr→Pos→Bool):Bool:=dite (s.ctorIdx=3) (fun h=>Stmt.Return.elim s h f) fun Z=>false
@[elab_as_elim] theorem km{P:Stmt→Prop}{s:Stmt}{f}(h:jt s f=true)(k:∀ v p,f v p=true→P (.Return v p)):P s:=Stmt.Return.elim (motive_2:=fun s=>jt s f=true→P s) s (dI h) k h
noncomputable def GG(s:Stmt)(f:Expr→List Stmt→List Stmt→Pos→Bool):Bool:=dite (s.ctorIdx=12) (fun h=>Stmt.If.elim s h f) fun Z=>false
@[elab_as_elim] theorem OD{P:Stmt→Prop}{s:Stmt}{f}(h:GG s f=true)(k:∀ u x y p,f u x y p=true→P (.If u x y p)):P s:=Stmt.If.elim (motive_2:=fun s=>GG s f=true→P s) s (dI h) k h
noncomputable def HG(s:Stmt)(f:Expr→List Stmt→List Stmt→Pos→Bool):Bool:=dite (s.ctorIdx=11) (fun h=>Stmt.While.elim s h f) fun Z=>false
@[elab_as_elim] theorem PD{P:Stmt→Prop}{s:Stmt}{f}(h:HG s f=true)(k:∀ u x y p,f u x y p=true→P (.While u x y p)):P s:=Stmt.While.elim (motive_2:=fun s=>HG s f=true→P s) s (dI h) k h
noncomputable def IG(s:Stmt)(f:Expr→Expr→List Stmt→List Stmt→Pos→Bool):Bool:=dite (s.ctorIdx=9) (fun h=>Stmt.For.elim s h f) fun Z=>false
@[elab_as_elim] theorem QD{P:Stmt→Prop}{s:Stmt}{f}(h:IG s f=true)(k:∀ l i x y p,f l i x y p=true→P (.For l i x y p)):P s:=Stmt.For.elim (motive_2:=fun s=>IG s f=true→P s) s (dI h) k h
noncomputable def JG(s:Stmt)(f:List Stmt→List ExceptHandler→List Stmt→List Stmt→Pos→Bool):Bool:=dite (s.ctorIdx=17) (fun h=>Stmt.Try.elim s h f) fun Z=>false
@[elab_as_elim] theorem RD{P:Stmt→Prop}{s:Stmt}{f}(h:JG s f=true)(k:∀ u q o g p,f u q o g p=true→P (.Try u q o g p)):P s:=Stmt.Try.elim (motive_2:=fun s=>JG s f=true→P s) s (dI h) k h
noncomputable def KG(s:Stmt)(f:Pos→Bool):Bool:=dite (s.ctorIdx=25) (fun h=>Stmt.Pass.elim s h f) fun Z=>false
@[elab_as_elim] theorem SD{P:Stmt→Prop}{s:Stmt}{f}(h:KG s f=true)(k:∀ p,f p=true→P (.Pass p)):P s:=Stmt.Pass.elim (motive_2:=fun s=>KG s f=true→P s) s (dI h) k h
noncomputable def JA(e:Expr):Bool:=eD e fun c Z Z=>c.ctorIdx==0
noncomputable def Yy(t:Option Expr):Bool:=t.any fun e=>Cr e fun x Z=>x==("BadRows":Str)
noncomputable def Zy:ExceptHandler→Bool
 | .ExceptHandler t n b _=>n.isNone&&Yy t&&(Ef b).any fun s=>jt s fun v Z=>v.any JA
noncomputable def KA(t:T)(e:E)(b:M5)(s:Stmt):Bool:=Yw s fun l v Z=>(Ef l).any fun g=>EG b t g&&(ck e).1 b v
noncomputable def Zw(ts:List T)(e:E)(b:M5)(s:Stmt):Bool:=Yw s fun l v Z=>(Ef l).any fun g=>dD g fun q Z Z=>im q v&&Zp b ts q&&(ck e).1 b v
noncomputable def ax(e:E)(b:M5)(s:Stmt):Bool:=FG s fun v Z=>!yc v&&(ck e).1 b v
noncomputable def TD:E→Bool
 | .k .none=>true
 | _=>false
noncomputable def LA(e:E)(b:M5)(s:Stmt):Bool:=jt s fun v Z=>match v with|some v=>(ck e).1 b v|none=>TD e
noncomputable def MA(c:E)(p q:wC)(b:M5)(s:Stmt):Bool:=GG s fun u x y Z=>(ck c).1 b u&&p.2 b x&&q.2 b y
noncomputable def NA(c:E)(p:wC)(b:M5)(s:Stmt):Bool:=HG s fun u x y Z=>y.isEmpty&&(ck c).1 b u&&p.2 b x
noncomputable def UD(ts:List Nat)(pat:Bool)(ik:IK)(it:E)(p:wC)(b:M5)(s:Stmt):Bool:=IG s fun tg i x y Z=>y.isEmpty&&b.tgts tg==some (ts,pat)&&!(ik.pat&&!pat)&&Uk i&&Rz (ck it) ik b i&&p.2 b x
noncomputable def cq(e:E)(b:M5)(s:Stmt):Bool:=JG s fun u h o f Z=>o.isEmpty&&f.isEmpty&&b.kd "BadRows"==some .globalImplicit&&(Ef h).any Zy&&(Ef u).any fun r=>jt r fun v Z=>v.any ((ck e).1 b)
noncomputable def bx(_:M5)(s:Stmt):Bool:=KG s fun Z=>true
noncomputable def cx(p q:wC)(b:M5)(s:List Stmt):Bool:=match s with|x::r=>p.1 b x&&q.2 b r|[]=>false
noncomputable def VD:S→wC:=S.rec (motive:=fun Z=>wC) (fun t e=>(KA t e,M9)) (fun ts e=>(Zw ts e,M9)) (fun e=>(ax e,M9)) (fun e=>(LA e,M9)) (fun c Z Z p q=>(MA c p q,M9)) (fun c Z p=>(NA c p,M9)) (fun ts pat ik it Z p=>(UD ts pat ik it p,M9)) (fun e=>(cq e,M9)) (bx,M9)
 (M9,fun Z s=>s.isEmpty) (fun Z Z p q=>(M9,cx p q)) (fun Z Z=>true,M9)
structure A8{C:Cx}{n:Nat}(L:Lv C n)(p:S):Prop where
 s:∀ b st,(VD p).1 b st=true→SS ⟨C,n,b,L⟩ st p
 l:∀ b st,(VD p).2 b st=true→Kw ⟨C,n,b,L⟩ st p
section
variable{C:Cx}{n:Nat}{L:Lv C n}
theorem WD{p:S}:∀ b (st:Stmt),M9 b st=true→SS ⟨C,n,b,L⟩ st p:=fun Z Z h=>Bool.noConfusion h
theorem Da{p:S}:∀ b (st:List Stmt),M9 b st=true→Kw ⟨C,n,b,L⟩ st p:=fun Z Z h=>Bool.noConfusion h
theorem YD{t:T}{e:E}:A8 L (.asg t e):=⟨fun b st h=>by
 refine bt h fun l v p h=>i1 h fun g h=>?_
 have h1:=bl h
 have V:=(gm L e).e b v (br h)
 induction t using T.casesOn with
 | loc i=>exact U7 h1 fun x z h1=>V.asg _ _ _ _ (bl h1) (eq_of_beq (br h1))
 | attr o x=>exact pd h1 fun w u z h1=>iB (br (bl h1)) (Sw V.se ((gm L o).e b _ (br h1)).se (of_decide_eq_true (bl (bl h1))))
 | sub o i=>exact X8 h1 fun w u z h1=>BA V.se ((gm L o).e b _ (br (bl h1))).se ((gm L i).e b _ (br h1)).se,Da⟩
theorem OA{ts:List T}{e:E}:A8 L (.asgs ts e):=⟨fun b st h=>bt h fun l v p h=>i1 h fun g h=>Fy h fun q k z h=>Xw ((gm L e).e b v (br h)).se (br (bl h)) (bl (bl h)),Da⟩
theorem PA{e:E}:A8 L (.expr e):=⟨fun b st h=>ND h fun v p h=>Nw ((gm L e).e b v (br h)).se (Yp (bl h)),Da⟩
theorem fx{e:E}(h:TD e=true):e = .k .none:=by
 induction e using E.casesOn with
 | k v=>induction v using V.casesOn with
  | none=>rfl
  | _=>exact Bool.noConfusion h
 | _=>exact Bool.noConfusion h
theorem ZD{e:E}:A8 L (.ret e):=⟨fun b st h=>km h fun v p h=>by
 induction v using Option.casesOn with
 | some v=>exact zA ((gm L e).e b v h).se
 | none=>refine f0 (fx h) wj,Da⟩
theorem aE{c:E}{x y:S}(hx:A8 L x)(hy:A8 L y):A8 L (.ife c x y):=⟨fun b st h=>OD h fun u v w p h=>CD ((gm L c).e b u (bl (bl h))).sb (hx.l b v (br (bl h))) (hy.l b w (br h)),Da⟩
theorem bE{c:E}{x:S}(hx:A8 L x):A8 L (.whl c x):=⟨fun b st h=>PD h fun u v w p h=>iE (bl (bl h)) (Ss ((gm L c).e b u (br (bl h))).sb (hx.l b v (br h))),Da⟩
theorem LG{ts:List Nat}{pat:Bool}{ik:IK}{it:E}{x:S}(hx:A8 L x):A8 L (.fr ts pat ik it x):=⟨fun b st h=>QD h fun tg i v w p h=>by
 have X:=hx.l b v (br h)
 have h:=bl h
 have I:=Xy (gm L it) (br h)
 have h:=bl h
 exact iE (bl (bl (bl h))) (AA I X (eq_of_beq (br (bl (bl h)))) (Yp (br (bl h))) (jo (br h))),Da⟩
@[elab_as_elim] theorem cE{P:ExceptHandler→Prop}{h:ExceptHandler}(e:Zy h=true)(k:∀ k cp p2 p3 p4,P (.ExceptHandler (some (.Name "BadRows" cp)) none [.Return (some (.Constant .none k p2)) p3] p4)):P h:=by
 induction h using ExceptHandler.casesOn with|ExceptHandler t n b p =>
 have h1:Yy t=true:=br (bl e)
 refine iN (bl (bl e)) (iO h1 fun x h1=>U7 h1 fun x cp h1=>iB h1 (i1 (br e) fun s h2=>km h2 fun v p3 h2=>iO h2 fun v h2=>Er h2 fun c j p2 h2=>?_))
 exact Const.none.elim (motive:=fun c=>P (.ExceptHandler (some (.Name "BadRows" cp)) none [.Return (some (.Constant c j p2)) p3] p)) c (eq_of_beq h2) (k j cp p2 p3 p)
theorem kt{e:E}:A8 L (.tryret e):=⟨fun b st h=>RD h fun u hd o f p h=>by
 have g:=bl (bl h)
 refine iE (bl (bl g)) (iE (br (bl g)) (i1 (br (bl h)) fun x h4=>i1 (br h) fun r h5=>km h5 fun v p1 h5=>iO h5 fun v h5=>cE h4 fun k cp p2 p3 p4=>?_))
 exact aq ((gm L e).e b v h5).se (eq_of_beq (br g)),Da⟩
theorem QA:A8 L .pass:=⟨fun b st h=>SD h fun p Z=>Mw,Da⟩
theorem dE:A8 L .nil:=⟨WD,fun b st h=>by refine f0 (List.isEmpty_iff.mp h ..) ?_;exact Lw⟩
theorem RA{x y:S}(hx:A8 L x)(hy:A8 L y):A8 L (.cons x y):=⟨WD,fun b st h=>by
 induction st using List.casesOn with
 | nil=>exact Bool.noConfusion h
 | cons s r=>exact Rs (hx.s b s (b2 h).1) (hy.l b r (b2 h).2)⟩
theorem SA:A8 L .dead:=⟨fun Z Z Z Z Z Z Z Z Z q=>False.elim q,Da⟩
theorem eE{C:Cx}{n:Nat}(L:Lv C n):∀ p,A8 L p:=S.rec (fun Z Z=>YD) (fun Z Z=>OA) (fun Z=>PA) (fun Z=>ZD) (fun Z Z Z=>aE) (fun Z Z=>bE) (fun Z Z Z Z Z=>LG) (fun Z=>kt) QA dE (fun Z Z=>RA) SA
end
open PySem.Calls
section
variable{prog:Program}{w:World}{A:Around}{s:Shared}
theorem mt{R:Result→Shared→Prop}{a:Addr}{o:Obj}{fd:FuncData}{body:List Stmt}{vals:List Value}{binds:List (Str×Value)}
  (hroom:A.depth<recursionLimit) (ho:s.heap.get? a=some o) (hdata:o.data = .func fd) (hlim:s.heap.NoLimit) (hcd:s.heap.CodeRec fd.code fd.qualname)
  (hbody:fd.body = .stmts body) (hbind:BindsTo s fd ⟨vals,[]⟩ binds) (hclo:fd.closure=[])
  (hkind:∀ x∈binds,fd.scope.names.lookup x.1=some .local∨(fd.scope.names.lookup x.1=some .cell∧((cellsFrom (s.heap.objs.size+1) fd.scope.names []).lookup x.1).isSome=true))
  (h:∀ s₁,InCallC s (callEnvC fd s.heap.objs.size a).locals (bindL (callEnvC fd s.heap.objs.size a).kindOf binds fun Z=>none) (callEnvC fd s.heap.objs.size a).cells
    (bindC (callEnvC fd s.heap.objs.size a).kindOf binds fun Z=>none) s₁ →
   wpAny (model prog w) (A.deeper (callEnvC fd s.heap.objs.size a)) (execs body (callEnvC fd s.heap.objs.size a)) (fun f s'=>R (.ok (.ret (match f with | .ret v=>v|_ => .none))) s')
    (fun e s'=>wpAny (model prog w) (A.deeper (callEnvC fd s.heap.objs.size a)) (leaving (callEnvC fd s.heap.objs.size a) e) (fun Z s''=>R (.error e) s'') (fun e' s''=>R (.error e') s'') s') s₁)
  (hco:fd.scope.isCoroutine=false) (hgen:fd.scope.isGenerator=false) (hk:fd.scope.kind = .function) :
  codeAny (model prog w) A (.call (.ref a) ⟨vals,[]⟩) R s:=by
 refine codeAny_call_function hroom ho hdata hco hgen hbody hcd (hbind _ _ _ _ ?_)
 refine f0 (hclo ..) ?_
 refine wpAny_newFunctionEnv_cells hk hkind fun env he s' x=>?_
 subst he
 exact ⟨hlim.keeps x.toInCall.keep,codeAny_func (h s' x)⟩
end
noncomputable def m9(p:Arguments):Bool:=p.posonlyargs.isEmpty&&p.kwonlyargs.isEmpty&&p.vararg.isNone&&p.kwarg.isNone
theorem fE:∀ {ns:List Str} {vs:List Value} {i:Nat} {n:Str},ns.Nodup→ns[i]?=some n→(ns.zip vs).lookup n=vs[i]?
 | [],_,_,_,_,e=>nn e
 | m::ns,[],_,_,_,_=>rfl
 | m::ns,v::vs,0,n,_,e=>(Option.some.inj e)▸List.lookup_cons_self
 | m::ns,v::vs,i+1,n,nd,e=>by
  have h:(n==m)=false:=beq_eq_false_iff_ne.mpr fun q=>(List.nodup_cons.mp nd).1 (q▸List.mem_of_getElem? (show ns[i]?=some n from e))
  show (match n==m with|true=>some v|false=>(ns.zip vs).lookup n)=_
  refine f0 (h ..) ?_;exact fE (List.nodup_cons.mp nd).2 e
theorem Dj:∀ {ns:List Str} {vs:List Value} {n:Str} {d:Value},ns[vs.length]?=some n→ns.zip vs++[(n,d)]=ns.zip (vs++[d])
 | [],_,_,_,e=>nn e
 | m::ns,[],_,_,e=>by obtain rfl:=Option.some.inj e;induction ns using List.casesOn<;>rfl
 | m::ns,v::vs,_,_,e=>congrArg ((m,v)::·) (Dj (ns:=ns) (vs:=vs) e)
theorem Ea{f:Str→Option Value}:∀ {ns:List Str} {vs:List Value},vs.length=ns.length→(∀ (i:Nat) (n:Str),ns[i]?=some n→f n=vs[i]?)→ns.filterMap (fun n=>(f n).map (n,·))=ns.zip vs
 | [],_,_,_=>rfl
 | n::ns,[],hl,_=>nomatch hl
 | n::ns,v::vs,hl,h=>(List.filterMap_cons_some (by refine f0 (h 0 n rfl ..) ?_;rfl)).trans (congrArg ((n,v)::·) (Ea (Nat.succ.inj hl) fun i m e=>h (i+1) m e))
theorem Jf{ns:List Str}{vs:List Value}(nd:ns.Nodup)(hl:vs.length=ns.length):ns.filterMap (fun n=>((ns.zip vs).lookup n).map (n,·))=ns.zip vs :=
 Ea hl fun Z Z=>fE nd
noncomputable def gE(b:List (Str×Value))(x:Str×Value):List (Str×Value):=if (b.lookup x.1).isNone=true then b++[x] else b
theorem Ue{ns:List Str}(nd:ns.Nodup):∀ (ds u:List Value) (i k:Nat),i+ds.length=ns.length→i+k=u.length→((ns.drop i).zip ds).foldl gE (ns.zip u)=ns.zip (u++ds.drop k)
 | [],u,i,k,_,_=>by refine f0 (List.zip_nil_right ..) (f0 (List.drop_nil ..) (f0 (List.append_nil ..) ?_));rfl
 | d::ds,u,i,k,h1,h2=>by
  have hi:i<ns.length:=Nat.lt_of_lt_of_eq (Nat.lt_add_of_pos_right (Nat.succ_pos _)) h1
  have e:=List.getElem?_eq_getElem hi
  have h1':i+1+ds.length=ns.length:=(Nat.succ_add_eq_add_succ ..).trans h1
  refine f0 (List.drop_eq_getElem_cons hi ..) (f0 (List.zip_cons_cons ..) (f0 (List.foldl_cons ..) ?_))
  cases k with
  | zero =>
   have h2:i=u.length:=h2
   rw [show gE (ns.zip u) (ns[i],d)=ns.zip (u++[d]) from (if_pos (by rw [fE nd e,List.getElem?_eq_none (Nat.le_of_eq h2.symm)];rfl)).trans (Dj (by refine P5 (h2 ..) ?_;exact e)),Ue nd ds (u++[d]) (i+1) 0 h1' (by refine f0 (h2 ..) (f0 (List.length_append ..) ?_);rfl),List.append_assoc];rfl
  | succ k =>
   rw [show gE (ns.zip u) (ns[i],d)=ns.zip u from if_neg (by rw [fE nd e,List.getElem?_eq_getElem (Nat.lt_of_lt_of_eq (Nat.lt_add_of_pos_right (Nat.succ_pos k)) h2)];exact Bool.noConfusion)]
   exact Ue nd ds u (i+1) k h1' ((Nat.succ_add_eq_add_succ ..).trans h2)
theorem dq{fd:FuncData}{vals:List Value}(hp:m9 fd.params=true):∃ (e1 e2:Option (Array Value)→Sem (List (Str×Value))),
  bindArgs fd ⟨vals,[]⟩=seqItems? fd.defaults >>= fun o=>if (decide (vals.length>(fd.params.args.map Arg.arg).length)&&true)=true then e1 o else
   if (!((((fd.params.args.map Arg.arg).take ((fd.params.args.map Arg.arg).length - ((o.getD #[]).toList.drop ((o.getD #[]).toList.length - (fd.params.args.map Arg.arg).length)).length)).filter fun n=>(((fd.params.args.map Arg.arg).zip vals).lookup n).isNone).isEmpty))=true then e2 o else
   forIn (((fd.params.args.map Arg.arg).drop ((fd.params.args.map Arg.arg).length - ((o.getD #[]).toList.drop ((o.getD #[]).toList.length - (fd.params.args.map Arg.arg).length)).length)).zip ((o.getD #[]).toList.drop ((o.getD #[]).toList.length - (fd.params.args.map Arg.arg).length))) ((fd.params.args.map Arg.arg).zip vals)
    (fun x b=>if (b.lookup x.1).isNone=true then pure (.yield (b++[(x.1,x.2)])) else pure (.yield b)) >>= fun sl=>pure ((fd.params.args.map Arg.arg++[]).filterMap fun n=>(sl.lookup n).map (n,·)):=by
 obtain ⟨nm,qn,⟨po,as,va,ko,kd,kw,df⟩,_⟩:=fd
 induction po using List.casesOn with
 | cons=>exact Bool.noConfusion hp
 | nil =>
 induction ko using List.casesOn with
 | cons=>exact Bool.noConfusion hp
 | nil =>
 induction va using Option.casesOn with
 | some=>exact Bool.noConfusion hp
 | none =>
 induction kw using Option.casesOn with
 | some=>exact Bool.noConfusion hp
 | none=>exact V8 _ _ rfl
set_option tactic.hygienic true in
theorem fq{s:Shared}{fd:FuncData}{vals ds:List Value}{i k:Nat}(hp:m9 fd.params=true)(hn:(fd.params.args.map Arg.arg).Nodup)
  (h1:i+ds.length=(fd.params.args.map Arg.arg).length) (h2:i+k=vals.length) (h3:vals.length≤(fd.params.args.map Arg.arg).length)
  (hd:∀ (M:Model) (A:Around) (E:Value→Shared→Prop) (Q:Option (Array Value)→Shared→Prop),(∀ r:Option (Array Value),(r.getD #[]).toList=ds→Q r s)→wpAny M A (seqItems? fd.defaults) Q E s)
  (hl:(vals++ds.drop k).length=(fd.params.args.map Arg.arg).length) :
  BindsTo s fd ⟨vals,[]⟩ ((fd.params.args.map Arg.arg).zip (vals++ds.drop k)):=fun M A E Q hq=>by
 refine jh (dq (vals:=vals) hp) fun e1 e2 e=>?_
 refine f0 (e ..) ?_
 generalize fd.params.args.map Arg.arg=ns at *
 refine wpAny_bind (hd M A E _ fun r hr=>?_)
 have z1:ds.length - ns.length=0:=Nat.sub_eq_zero_of_le (Nat.le.intro ((Nat.add_comm ..).trans h1))
 have z2:ns.length - ds.length=i:=h1▸Nat.add_sub_cancel ..
 refine f0 (hr ..) (f0 (z1 ..) (f0 (List.drop_zero ..) (f0 (z2 ..) (f0 (if_neg (by rw [decide_eq_false (Nat.not_lt.mpr h3)];exact Bool.noConfusion) ..) ?_))))
 rw [if_neg (by
  rw [List.filter_eq_nil_iff.mpr fun n hm=>?_];· exact Bool.noConfusion
  obtain ⟨j,hj⟩:=List.mem_iff_getElem?.mp hm
  obtain ⟨hj',_⟩:=List.getElem?_eq_some_iff.mp hj
  have hji:j<i:=Nat.lt_of_lt_of_le hj' (List.length_take_le ..)
  rw [fE hn ((List.getElem?_take_of_lt hji).symm.trans hj),List.getElem?_eq_getElem (Nat.lt_of_lt_of_le hji (Nat.le.intro h2))];exact Bool.noConfusion)]
 refine wpAny_bind (wpAny_forIn_list _ (fun l b s'=>s'=s∧l.foldl gE b=ns.zip (vals++ds.drop k)) _ (fun x rest b s' h=>?_) (fun b s' h=>?_) _ _ ⟨rfl,Ue hn ds vals i k h1 h2⟩)
 ·have h':=h.2
  rw [List.foldl_cons] at h'
  unfold gE at h'
  split
  ·rename_i q;rw [if_pos q] at h';exact wpAny_pure ⟨h.1,h'⟩
  ·rename_i q;rw [if_neg q] at h';exact wpAny_pure ⟨h.1,h'⟩
 ·refine wpAny_pure ?_
  refine f0 (show b=_ from h.2) (f0 (List.append_nil ..) (f0 (Jf hn hl ..) (f0 (h.1 ..) ?_)))
  exact hq
theorem tH{a d n:Nat}(h1:a≤n)(h3:n≤a+d):a+(d - (d - (n - a)))=n:=f0 (Nat.sub_sub_self (Nat.sub_le_of_le_add (Nat.add_comm a d▸h3))) (Nat.add_sub_cancel' h1)
theorem gq{s:Shared}{fd:FuncData}{vals ds:List Value}(hp:m9 fd.params=true)(hn:(fd.params.args.map (·.arg)).Nodup)
  (h1:vals.length≤fd.params.args.length) (h2:ds.length≤fd.params.args.length) (h3:fd.params.args.length≤vals.length+ds.length)
  (hd:∀ (M:Model) (A:Around) (E:Value→Shared→Prop) (Q:Option (Array Value)→Shared→Prop),(∀ r:Option (Array Value),(r.getD #[]).toList=ds→Q r s)→wpAny M A (seqItems? fd.defaults) Q E s) :
  BindsTo s fd ⟨vals,[]⟩ ((fd.params.args.map (·.arg)).zip (vals++ds.drop (ds.length - (fd.params.args.length - vals.length)))):=by
 rw [←List.length_map (f:=Arg.arg)] at h1 h2 h3 ⊢
 revert h1 h2 h3
 generalize e:(fd.params.args.map Arg.arg).length=N
 intro h1 h2 h3
 exact fq (i:=N - ds.length) hp hn (by refine f0 (e ..) ?_;exact Nat.sub_add_cancel h2) ((Nat.sub_add_sub_cancel h2 (Nat.sub_le_of_le_add (Nat.add_comm vals.length _▸h3))).trans (Nat.sub_sub_self h1)) (e▸h1) hd (by exact f0 (e ..) (f0 (List.length_append ..) (f0 (List.length_drop ..) (tH h1 h3))))
open PySem.Calls
structure n9(C:Cx)(fv:V)(names:List Str)(dflts:List V)(b:M5)(body:List Stmt):Prop where
 here:∀ t h r,G0 C t h fv r→∃ a o fd,r = .ref a∧C.B.get? a=some o∧o.data = .func fd∧fd.globals=mainGlobals∧fd.builtins=builtinsNs∧fd.closure=[]∧fd.body = .stmts body∧fd.scope=b.sc ∧
  C.B.CodeRec fd.code fd.qualname∧m9 fd.params=true∧fd.params.args.map (·.arg)=names ∧
  ((fd.defaults = .none∧dflts=[])∨∃ T its,fd.defaults = .ref T∧IsTup C.B T its∧E0 C Jy C.B dflts its.toList)
 nod:names.Nodup
 kin:∀ x∈names,b.kd x=some .local∨b.kd x=some .cell
 co:b.sc.isCoroutine=false
 gen:b.sc.isGenerator=false
 fn:b.sc.kind = .function
 inj:∀ x y i,b.tb.lookup x=some i→b.tb.lookup y=some i→x=y
 par:∀ j x,names[j]?=some x→b.tb.lookup x=some j
 len:dflts.length≤names.length
theorem Gg:∀ {l:List V} {i:Nat} {v:V},A1 (l.map some) i=some v→l[i]?=some v
 | [],_,_,e=>nn e
 | _::_,0,_,e=>e
 | _::l,i+1,_,e=>Gg (l:=l) (i:=i) e
noncomputable def lm(np:Nat)(l:List V):y0:=match np with
 | 0=>l.map some
 | n+1=>l.map some++List.replicate (n+1) none
theorem Ej:∀ {n i:Nat} {v:V},A1 (List.replicate n none) i=some v→False
 | 0,_,_,e=>nn e
 | _+1,0,_,e=>nn (show none=some _ from e)
 | n+1,i+1,_,e=>Ej (n:=n) (i:=i) e
theorem Fj:∀ {l:List V} {n i:Nat} {v:V},A1 (l.map some++List.replicate n none) i=some v→A1 (l.map some) i=some v
 | [],_,_,_,e=>(Ej e).elim
 | _::_,_,0,_,e=>e
 | _::l,_,i+1,_,e=>Fj (l:=l) (i:=i) e
theorem Gj{np:Nat}{l:List V}{i:Nat}{v:V}(e:A1 (lm np l) i=some v):A1 (l.map some) i=some v:=by
 cases np with
 | zero=>exact e
 | succ n=>exact Fj e
theorem Hg{kindOf:Str→Option NameKind}{x:Str}{v:Value}(hk:kindOf x=some .local):∀ {bs:List (Str×Value)} {m:Str→Option Value},(bs.map (·.1)).Nodup→((x,v)∈bs∨(x∉bs.map (·.1)∧m x=some v))→bindL kindOf bs m x=some v
 | [],m,_,h=>h.elim nofun (·.2)
 | p::bs,m,nd,h=>by
  obtain ⟨n1,n2⟩:=List.nodup_cons.mp nd
  unfold bindL
  refine Hg hk n2 ?_
  rcases h with h|⟨h,hm⟩
  ·rcases List.mem_cons.mp h with h|h
   ·subst h
    exact .inr ⟨n1,by refine f0 (if_pos hk ..) ?_;exact if_pos rfl⟩
   ·exact .inl h
  ·have h:=not_or.mp fun z=>h (List.mem_cons.mpr z)
   refine .inr ⟨h.2,?_⟩
   split
   ·exact (if_neg h.1).trans hm
   ·exact hm
theorem Ig{kindOf:Str→Option NameKind}{x:Str}{v:Value}(hk:kindOf x≠some .local):∀ {bs:List (Str×Value)} {m:Str→Option Value},(bs.map (·.1)).Nodup→((x,v)∈bs∨(x∉bs.map (·.1)∧m x=some v))→bindC kindOf bs m x=some v
 | [],m,_,h=>h.elim nofun (·.2)
 | p::bs,m,nd,h=>by
  obtain ⟨n1,n2⟩:=List.nodup_cons.mp nd
  unfold bindC
  refine Ig hk n2 ?_
  rcases h with h|⟨h,hm⟩
  ·rcases List.mem_cons.mp h with h|h
   ·subst h
    exact .inr ⟨n1,by refine f0 (if_neg hk ..) ?_;exact if_pos rfl⟩
   ·exact .inl h
  ·have h:=not_or.mp fun z=>h (List.mem_cons.mpr z)
   refine .inr ⟨h.2,?_⟩
   split
   ·exact hm
   ·exact (if_neg h.1).trans hm
set_option tactic.hygienic true in
theorem E4:∀ (names:List (Str×NameKind)) (k:Nat) (acc:List (Str×Addr)) (x:Str),(names.lookup x=some .cell∨∃ c,acc.lookup x=some c)→∃ c,(cellsFrom k names acc).lookup x=some c
 | [],_,_,_,h=>h.elim (fun Z=>nn Z) id
 | p::r,k,acc,x,h=>by
  unfold cellsFrom
  cases q:x==p.1 with
  | true =>
   obtain rfl:=eq_of_beq q
   split
   ·exact E4 r _ _ _ (.inr ⟨_,A5⟩)
   ·rename_i hkd
    refine E4 r _ _ _ (h.elim (fun h=>?_) .inr)
    exact absurd (beq_iff_eq.mpr (Option.some.inj ((A5 (v:=p.2) (l:=r)).symm.trans h))) hkd
  | false =>
   have h:r.lookup x=some .cell∨∃ c,acc.lookup x=some c:=h.imp (D5 (v:=p.2) q).symm.trans id
   split
   ·exact E4 r _ _ x (h.imp id fun z=>z.imp fun Z z=>(D5 q).trans z)
   ·exact E4 r _ _ x h
section
variable{C:Cx}{n:Nat}{L:Lv C n}{b:M5}
theorem om(np:Nat){fv:V}{names:List Str}{dflts:List V}{body:List Stmt}(ok:C.Ok)(F:n9 C fv names dflts b body){args:List V}(h1:args.length≤names.length)(h3:names.length≤args.length+dflts.length)
  {A:Around} {l:List Env} {t:St} {s:Shared} {r:Value} {vals:List Value} {Rr:Result→Shared→Prop} (vf:G0 C t s.heap fv r) (va:E0 C t s.heap args vals) (R:Y0 C t s.heap) (O:U1 t s.heap) (am:Ff A l (n+1)) (fr:l4 l t s.heap)
  (An:∀ en s₁,(∀ b o,s.heap.get? b=some o→s₁.heap.get? b=some o)→s₁.gens=s.gens→s₁.os=s.os→(∀ b,i3 en b→s.heap.get? b=none)→(∀ X,I1 ⟨C,n,b,L⟩ ⟨A.deeper en,en::l,en,lm np (args++dflts.drop (dflts.length - (names.length - args.length))),X⟩ (t.hid (i3 en) (·=en.locals)) s₁) →
   wpAny (model pw C.w) (A.deeper en) (execs body en) (fun f s'=>Rr (.ok (.ret (match f with | .ret v=>v|_ => .none))) s') (fun e s'=>wpAny (model pw C.w) (A.deeper en) (leaving en e) (fun Z s''=>Rr (.error e) s'') (fun e' s''=>Rr (.error e') s'') s') s₁) :
  codeAny (model pw C.w) A (.call r ⟨vals,[]⟩) Rr s:=by
 refine KC (F.here t s.heap r vf) ?_;intro a o fd zI ho hd f1 f2 f3 f4 f5 f6 f7 f8 f9;obtain rfl:=zI
 have hal:fd.params.args.length=names.length:=by exact P5 (f8 ..) (f0 (List.length_map ..) rfl)
 have hvl:vals.length=args.length:=va.len
 have m0:Mo Jy C.B t s.heap:=qH R
 obtain ⟨ds,hds,vds⟩:∃ ds:List Value,(∀ (M:Model) (A:Around) (E:Value→Shared→Prop) (Q:Option (Array Value)→Shared→Prop),(∀ r:Option (Array Value),(r.getD #[]).toList=ds→Q r s)→wpAny M A (seqItems? fd.defaults) Q E s)∧E0 C t s.heap dflts ds:=by
  rcases f9 with ⟨e,rfl⟩|⟨T,its,e,ht,vr⟩
  ·refine C0 [] (fun M A E Q hq=>?_) rfl
   refine f0 (e ..) ?_
   exact wpAny_of_eq (a:=none) rfl (hq none rfl)
  ·refine C0 its.toList (fun M A E Q hq=>?_) (vr.go m0 _)
   refine F1 ht ?_;(repeat clear ht);intro ot hot _ xI;obtain ⟨k,hdt⟩:=xI
   refine f0 (e ..) ?_
   exact wpAny_seqItems (R.base _ _ hot) hdt (hq (some its) rfl)
 have hdl:ds.length=dflts.length:=vds.len
 have hb:BindsTo s fd ⟨vals,[]⟩ (names.zip (vals++ds.drop (dflts.length - (names.length - args.length)))):=by
  have z:=gq (s:=s) (fd:=fd) (vals:=vals) (ds:=ds) f7 (by refine f0 (f8 ..) ?_;exact F.nod) (by refine f0 (hvl ..) (f0 (hal ..) ?_);exact h1) (by refine f0 (hal ..) (f0 (hdl ..) ?_);exact F.len) (by refine f0 (hvl ..) (f0 (hal ..) (f0 (hdl ..) ?_));exact h3) hds
  rwa [f8,hal,hdl,hvl] at z
 have vall:E0 C t s.heap (args++dflts.drop (dflts.length - (names.length - args.length))) (vals++ds.drop (dflts.length - (names.length - args.length))):=va.append (vds.drop _)
 revert hb vall An
 generalize hvs:args++dflts.drop (dflts.length - (names.length - args.length))=vs
 generalize vals++ds.drop (dflts.length - (names.length - args.length))=rs
 intro An hb vall
 have hlen:vs.length=names.length:=by
  refine P5 (hvs ..) (f0 (List.length_append ..) (f0 (List.length_drop ..) ?_))
  exact tH h1 h3
 have zl:rs.length=names.length:=vall.len.trans hlen
 have zn:(names.zip rs).map (·.1)=names:=List.map_fst_zip (Nat.le_of_eq zl.symm)
 refine mt (by have:=am.deep;exact ak this (by simp +arith)) (R.base _ _ ho) hd (ok.lim.keeps R.base) (f6.keeps R.base) f4 hb f3 (fun x hx=>?_) (fun s₁ I=>?_) (by refine f0 (f5 ..) ?_;exact F.co) (by refine f0 (f5 ..) ?_;exact F.gen) (by refine f0 (f5 ..) ?_;exact F.fn)
 ·refine f0 (f5 ..) ?_
  exact (F.kin _ (List.of_mem_zip hx).1).imp id fun z=>⟨z,(E4 b.sc.names _ [] _ (.inl z)).elim fun c e=>by refine f0 (e ..) ?_;rfl⟩
 ·generalize he:callEnvC fd s.heap.objs.size a=en at I ⊢
  have ek:∀ x,en.kindOf x=b.kd x:=fun x=>by refine P5 (he ..) ?_;exact congrArg (fun z:Scope=>z.names.lookup x) f5
  have ecl:∀ x,b.kd x=some .cell→∃ c,en.cells.lookup x=some c:=fun x hx=>by
   refine P5 (he ..) ?_
   show ∃ c,(cellsFrom _ fd.scope.names []).lookup x=some c
   refine f0 (f5 ..) ?_
   exact E4 b.sc.names _ [] x (.inl hx)
  have keep:=I.toInCall.keep
  refine jh I.toInCall.same fun hh tk es=>?_
  have hg:s₁.gens=s.gens:=by exact f0 (es ..) rfl
  have hos:s₁.os=s.os:=by exact f0 (es ..) rfl
  have hL:s.heap.objs.size≤en.locals:=I.toInCall.fresh
  have own:∀ c,i3 en c→s.heap.get? c=none:=fun c hc=>hc.elim (fun q=>q▸M2 _ hL) fun z=>z.elim fun x e=>M2 _ (Nat.le_of_lt (Nat.lt_of_le_of_lt hL (I.above x c (mem_of_lookup e))))
  have hF:∀ b,b=en.locals→i3 en b:=fun b q => .inl q
  refine i4 (Cw (P:=i3 en) (F:=(·=en.locals)) R O keep own hF fun b hb=>hb.elim (fun q=>by refine f0 (q ..) ?_;exact Me I.toInCall.ns) fun z=>z.elim fun x e=>Xn (I.cell x b e)) fun R1 O1 m1=>?_
  have Bz:∀ x i v,b.tb.lookup x=some i→A1 (vs.map some) i=some v→x∈names∧∃ r,(x,r)∈names.zip rs∧G0 C (t.hid (i3 en) (·=en.locals)) s₁.heap v r:=fun x i v ei ev=>by
   have e2:=Gg ev
   have hi:i<names.length:=hlen▸(List.getElem?_eq_some_iff.mp e2).1
   have e1:=List.getElem?_eq_getElem hi
   obtain rfl:=F.inj _ _ _ ei (F.par i _ e1)
   refine A0 (vall.get e2) fun r er vr=>?_
   exact ⟨List.mem_of_getElem? e1,r,List.mem_of_getElem? (List.getElem?_zip_eq_some.mpr ⟨e1,er⟩),vr.go m1 v⟩
  have HS:∀ X,I1 ⟨C,n,b,L⟩ ⟨A.deeper en,en::l,en,lm np vs,X⟩ (t.hid (i3 en) (·=en.locals)) s₁:=fun X=>by
   refine ⟨⟨ok,am.deeper _,fun env hm=>?_,fun x => .inl (ek x),⟨by refine P5 (he ..) ?_;exact (congrArg Scope.kind f5).trans F.fn,by refine P5 (he ..) ?_;exact f1,by refine P5 (he ..) ?_;exact f2,(C0 _ I.toInCall.ns (fun x i v ei ev hk=>?_)),.inr (.inl rfl),fun x i v ei ev hk=>?_⟩,R1,O1,fun b hb => .inr hb⟩,rfl,by refine P5 (he ..) ?_;exact f5,⟨by refine P5 (he ..) ?_;rfl,I.apart,F.inj,fun env hm L hf hc=>?_,fun x hk=>ecl x ((ek x).symm.trans hk)⟩,fun x c e=>⟨_,I.cell x c e⟩⟩
   ·rcases List.mem_cons.mp hm with rfl|hm
    ·refine nh (Bh I.toInCall.ns) fun o es n ho hd=>?_
     exact ⟨by refine P5 (he ..) ?_;show fd.scope.kind≠_;refine f0 (f5 ..) (f0 (F.fn ..) ?_);exact nofun,_,o,es,n,by refine P5 (he ..) ?_;rfl,.inr rfl,ho,hd⟩
    ·exact (fr env hm).imp id fun z=>z.imp fun L z=>z.imp fun o z=>z.imp fun es z=>z.imp fun n z=>E3 z.1 (.inl z.2.1) (keep _ _ z.2.2.1) z.2.2.2
   ·obtain ⟨_,yI⟩:=Bz x i v ei (Gj ev);refine A0 yI ?_;(repeat clear yI);intro r hm vr
    exact C0 r (Hg hk (by refine f0 (zn ..) ?_;exact F.nod) (.inl hm)) vr
   ·obtain ⟨hx,AI⟩:=Bz x i v ei (Gj ev);refine A0 AI ?_;(repeat clear AI);intro r hm vr
    have hc:b.kd x=some .cell:=(F.kin x hx).elim (fun z=>by rw [ek,z] at hk;exact hk.elim nofun nofun) id
    obtain ⟨c,ec⟩:=ecl x hc
    refine aa c r ec ?_ vr (.inr (.inr ⟨x,ec⟩))
    have z:=I.cell x c ec
    rwa [Ig (v:=r) (by refine f0 (ek ..) (f0 (hc ..) ?_);exact nofun) (by refine f0 (zn ..) ?_;exact F.nod) (.inl hm)] at z
   ·obtain ⟨_,DI⟩:=fr env hm;refine Ia DI ?_;(repeat clear DI);intro L2 o2 es2 n2 hf2 _ ho2 _
    obtain rfl:=Option.some.inj (hf.symm.trans hf2)
    exact Q5 (own _ hc) ho2
  exact An en s₁ keep hg hos own HS
set_option tactic.hygienic true in
theorem gx{np:Nat}{fv:V}{names:List Str}{dflts:List V}{body:List Stmt}(ok:C.Ok)(F:n9 C fv names dflts b body){args:List V}{σ:y0}{Q:X0}{X:y0→Prop}(h1:args.length≤names.length)(h3:names.length≤args.length+dflts.length)
  (An:∀ K t s,K.X=X→K.ρ=lm np (args++dflts.drop (dflts.length - (names.length - args.length)))→t.σ=σ→I1 ⟨C,n,b,L⟩ K t s→wpAny (model pw C.w) K.A (execs body K.en) (za ⟨C,n,b,L⟩ K t s (fun Z σ'=>Q .none σ') Q) (SX ⟨C,n,b,L⟩ K t s) s) :
  B0 C (n+1) fv args σ Q X:=⟨fun r vals A l t s hσ vf va R O am fr=>by
 refine om (L:=L) np ok F h1 h3 vf va R O am fr fun en s₁ keep hg hos own HS0=>?_
 have HS:=HS0 X
 have hF:∀ b,b=en.locals→i3 en b:=fun b q => .inl q
 have K5:∀ {t' s' v u P},O3 C (i3 en) (t.hid (i3 en) (·=en.locals)) s₁ t' s'→U1 t' s'.heap→G0 C t' s'.heap u v→P u t'.σ→D0 C t s P v s':=fun {t' s' v u P} y O' vr q=>by
  obtain ⟨T,m⟩:=unhide R keep own hF own y.tr O'
  exact L1 _ u ⟨T,y.gens.trans hg,y.os.trans hos⟩ (vr.go m u) q
 refine wpAny_mono (An ⟨A.deeper en,en::l,en,lm np (args++dflts.drop (dflts.length - (names.length - args.length))),X⟩ (t.hid (i3 en) (·=en.locals)) s₁ rfl rfl hσ HS) (fun f s' p=>?_) fun e s' p=>?_
 ·induction f using Flow.casesOn with
  | next =>
   refine Z0 p ?_;(repeat clear p);intro t' ρ' y h' z
   exact K5 (u := .none) y h'.h.own rfl z
  | ret v =>
   refine lh p ?_;(repeat clear p);intro t' u y O' vr z
   exact K5 y O' vr z
  | _=>exact p.elim
 ·have out:∀ {t' s' Bx ea cls a0 h''},Nk C (i3 en) (en::l) (t.hid (i3 en) (·=en.locals)) s₁ t' s' Bx→X t'.σ→Cp C cls→Heap.FlyingW Bx l ea (.ref cls) a0 h''→s'.heap.UpToSlots h''→Z1 C no l none t s X (.ref ea) { s' with heap:=h'' }:=fun y q hc hf hu =>
   (ir _ _ _ _ _ rfl ((y.slots hu).unhide R keep own hF own (fun env he=>(List.mem_cons.mp he).elim (fun e => .inr (C0 en.locals (e▸HS.f.fr) (.inl rfl))) .inl) hg hos) q hc hf)
  rcases p with p|p
  ·refine Ri p ?_;(repeat clear p);intro t' Bx ea cls a0 vI y q hc hf;obtain rfl:=vI
   exact wpAny_leaves_onW HS.h.amb.fr HS.f.fr hf fun h'' hfl hu=>out y q hc hfl hu
  ·refine Ri p ?_;(repeat clear p);intro t' Bx ea cls a0 tI y q hc hf;obtain rfl:=tI
   unfold leaving
   refine wpAny_bind (wpAny_noteFrame_againW HS.f.fr hf.2.2.2 ?_)
   refine wpAny_landsW hf fun h'' hfl hu=>?_
   refine R7 hfl ?_;(repeat clear hfl);intro k1 k2 rI k4;refine i4 rI ?_;(repeat clear rI);intro _ _ k3
   exact out y q hc (E3 k1 k2 k3 k4) hu⟩
theorem jE{np:Nat}{fv:V}{names:List Str}{dflts:List V}{body:List Stmt}{p:S}(ok:C.Ok)(F:n9 C fv names dflts b body)(hs:(VD p).2 b body=true){args:List V}{σ:y0}{Q:X0}{X:y0→Prop}(h1:args.length≤names.length)(h3:names.length≤args.length+dflts.length)
  (q:I4 L.f X p (lm np (args++dflts.drop (dflts.length - (names.length - args.length)))) σ (fun Z σ'=>Q .none σ') Q):B0 C (n+1) fv args σ Q X :=
 gx ok F h1 h3 fun K t s e1 e2 e3 h=>(eE L p).l b body hs K t s _ Q h (e1▸e2▸e3▸q)
end
open PySem.Calls
section
variable{M:Model}{A:Around}{E:Value→Shared→Prop}{h:Heap}{g:Array GenState}{d:Drawn}{t:Nat}{os:OsState}
variable{nm q:Str}{C N:Addr}{bs bm bmB:List Value}{hdct:Bool}{sn:List Str}{sub:List Value}{ab:Bool}{col:Option Bool}{dd:Option Addr}{k0 k1 k2 k3 k5:Option Value}{B newId initId:String}
theorem Kf(F:ExcBaseFacts B newId initId bmB)(hbm:∀ X,bm.contains (.type X)=bmB.contains (.type X)){rest:List Value}{Q:Unit→Shared→Prop}(hC:h.get? C=some (excClassObj nm q C N bs bm hdct sn sub ab col dd k0 k1 k2 k3 k5 newId))
  (hq:Q () ⟨h,g,d,t,os⟩):wpAny M A (checkBuiltinCall newId ⟨.ref C::rest,[]⟩) Q E ⟨h,g,d,t,os⟩:=by
 have hcont:(Value.ref C::bm).contains (.type B)=true:=by exact f0 (List.contains_cons ..) (f0 (hbm ..) (f0 (F.hasB ..) (f0 (Bool.or_true ..) rfl)))
 have hstar:=F.noStar
 simp only [checkBuiltinCall,F.newKind,F.newSplit,F.newRow]
 repeat (first|refine wpAny_loadPart_at hC ?_|(refine wpAny_isSubtype_exc hC ?_;refine f0 (hcont ..) ?_)|refine wpAny_staticBase_exc hC ?_|refine wpAny_madeBy_exc hC ?_|simp only [bne_self_eq_false,Bool.false_eq_true,if_false]|wp_step)
 exact hq
end
section
variable{prog:Program}{w:World}{A:Around}{R:Result→Shared→Prop}{E:Value→Shared→Prop}{h:Heap}{g:Array GenState}{d:Drawn}{t:Nat}{os:OsState}
variable{nm q:Str}{C N:Addr}{bs bm bmB:List Value}{hdct:Bool}{sn:List Str}{sub:List Value}{ab:Bool}{col:Option Bool}{dd:Option Addr}{k0 k1 k2 k3 k5:Option Value}{B newId initId:String}
theorem Hj(F:ExcBaseFacts B newId initId bmB)(hbm:∀ X,bm.contains (.type X)=bmB.contains (.type X)){rest:List Value}(hC:h.get? C=some (excClassObj nm q C N bs bm hdct sn sub ab col dd k0 k1 k2 k3 k5 newId))
  (hq:R (.ok (.ret (.ref (h.objs.size+1)))) ⟨(h.push { cls := .type "tuple",data := .seq rest.toArray }).push
   { cls := .ref C,data := .fields #[.ref h.objs.size,.none,.none,.none,.bool false,.none] },g,d,t,os⟩) (hrest:rest.length≤sizeLine:=by size_fits) :
  codeAny (model prog w) A (.builtin newId ⟨.ref C::rest,[]⟩) R ⟨h,g,d,t,os⟩:=by
 have hends:=F.ends
 have hcB:(Value.ref C::bm).contains (.type B)=true:=by exact f0 (List.contains_cons ..) (f0 (hbm ..) (f0 (F.hasB ..) (f0 (Bool.or_true ..) rfl)))
 have hcA:(Value.ref C::bm).contains (.type "AttributeError")=false:=by refine f0 (List.contains_cons ..) (f0 (hbm ..) (f0 (F.noAttr ..) ?_));rfl
 have hcN:(Value.ref C::bm).contains (.type "NameError")=false:=by refine f0 (List.contains_cons ..) (f0 (hbm ..) (f0 (F.noName ..) ?_));rfl
 refine codeAny_builtinAt F.entry ?_
 unfold Builtin.«BaseException.__new__»
 refine PySem.wpAt_bind ?_
 show PySem.wpAt _ _ _ (stack >>= _) _ _ _
 refine PySem.wpAt_bind (PySem.wpAt_stack fun p below=>PySem.wpAt_of_wpAny ?_)
 wp_walk
 refine PySem.wpAt_of_wpAny ?_
 refine f0 (F.owner ..) ?_
 repeat (first|with_reducible refine wpAny_madeHere_exc F.canon hC ?_|with_reducible refine wpAny_loadPart_at hC ?_|(with_reducible refine wpAny_isSubtype_exc hC ?_;first|rw [hcB]|rw [hcA]|rw [hcN])|wp_step)
 show R _ _
 refine f0 (Heap.size_push ..) ?_
 exact hq
theorem Lf(F:ExcBaseFacts B newId initId bmB)(hbm:∀ X,bm.contains (.type X)=bmB.contains (.type X)){rest:List Value}{fI:Addr}{oI:Obj}{Q:Fin→Shared→Prop}
  (hC:h.get? C=some (excClassObj nm q C N bs bm hdct sn sub ab col dd k0 k1 k2 k3 k5 newId)) (hi:Looks (model prog w) h (typeLookup (.ref C) "__init__") (some (.ref fI)))
  (hfI:h.get? fI=some oI) (hfc:oI.cls = .type "function")
  (hq:∀ h' e,Heap.MadeExcOf h h' e (.ref C) rest →
   wpAny (model prog w) A (call (.ref fI) (.ref e::rest)) (fun r s'=>r = .none∧Q (.done (.ret (.ref e))) s') E ⟨h',g,d,t,os⟩) (hrest:rest.length≤sizeLine:=by size_fits) :
  wpAny (model prog w) A (Builtin.«type.__call__» ⟨.ref C::rest,[]⟩) Q E ⟨h,g,d,t,os⟩:=by
 repeat (first|with_reducible refine wpAny_loadPart_at hC ?_|with_reducible refine wpAny_madeBy_exc hC ?_|wp_step)
 refine codeAny_call_builtin_code (Code.quiet_builtin _ F.quiet) (Kf F hbm hC ?_)
 refine Hj F hbm hC ?_ hrest
 show wpAny _ _ _ _ _ _
 have hC₁:=Heap.get?_push_of_some { cls := .ref C,data := .fields #[.ref h.objs.size,.none,.none,.none,.bool false,.none] }
  (Heap.get?_push_of_some { cls := .type "tuple",data := .seq rest.toArray } hC)
 have hfI₁:=Heap.get?_push_of_some { cls := .ref C,data := .fields #[.ref h.objs.size,.none,.none,.none,.bool false,.none] }
  (Heap.get?_push_of_some { cls := .type "tuple",data := .seq rest.toArray } hfI)
 have hget:((h.push { cls := .type "tuple",data := .seq rest.toArray }).push
   { cls := .ref C,data := .fields #[.ref h.objs.size,.none,.none,.none,.bool false,.none] }).get? (h.objs.size+1)=some
   { cls := .ref C,data := .fields #[.ref h.objs.size,.none,.none,.none,.bool false,.none] }:=by heap_get
 have hcC:(Value.ref C::bm).contains (.ref C)=true:=by simp
 unfold isInstance
 repeat (first|with_reducible refine wpAny_loadPart_at hget ?_|(with_reducible refine wpAny_isSubtype_exc hC₁ ?_;refine f0 (hcC ..) ?_)|wp_step)
 show wpAny _ _ (typeLookup (.ref C) _) _ _ _
 refine (hi.keeps fun b o e=>Heap.get?_push_of_some _ (Heap.get?_push_of_some _ e)).at ?_
 refine wpAny_holding (wpAny_bind ?_)
 unfold bindSpecial
 refine wpAny_bind (wpAny_typeOf (T:="function") (C0 _ hfI₁ hfc) ?_)
 refine f0 (if_pos (by decide) ..) ?_
 refine wpAny_pure (wpAny_bind (wpAny_mono (hq _ (h.objs.size+1) ⟨fun b o hb=>Heap.get?_push_of_some _ (Heap.get?_push_of_some _ hb),Heap.get?_none_of_le (Nat.le_succ _),h.objs.size,hget,Heap.get?_none_of_le (Nat.le_refl _),?_⟩) (fun r s' hr=>?_) fun Z Z x=>x))
 ·exact Heap.get?_push_of_some _ (Heap.get?_push_at rfl rfl)
 ·obtain ⟨rfl,hQ⟩:=hr
  wp_walk
  exact hQ
theorem Rh(F:ExcBaseFacts B newId initId bmB)(hbm:∀ X,bm.contains (.type X)=bmB.contains (.type X)){rest:List Value}{fI:Addr}{oI:Obj}{Q:Value→Shared→Prop}
  (hC:h.get? C=some (excClassObj nm q C N bs bm hdct sn sub ab col dd k0 k1 k2 k3 k5 newId)) (hi:Looks (model prog w) h (typeLookup (.ref C) "__init__") (some (.ref fI)))
  (hfI:h.get? fI=some oI) (hfc:oI.cls = .type "function")
  (hq:∀ h' e,Heap.MadeExcOf h h' e (.ref C) rest →
   wpAny (model prog w) (A.under (.builtin "type.__call__" ⟨.ref C::rest,[]⟩)) (call (.ref fI) (.ref e::rest)) (fun r s'=>r = .none∧Q (.ref e) s') E ⟨h',g,d,t,os⟩) (hrest:rest.length≤sizeLine:=by size_fits) :
  wpAny (model prog w) A (call (.ref C) rest) Q E ⟨h,g,d,t,os⟩:=by
 have f1:=tc_lookup
 have f2:=tc_bind (.ref C)
 have hT:(⟨h,g,d,t,os⟩:Shared).TypeIs (.ref C) "type":=C0 _ hC rfl
 refine wpAny_call (codeAny_of_tree ?_)
 show wpAny _ _ (callAny (.ref C) _) _ _ _
 repeat (any_goals (first|assumption|with_reducible refine wpAny_loadPart_at hC ?_|wp_step))
 refine ⟨rfl,?_⟩
 refine codeAny_call_builtin_at (Code.quiet_builtin _ (by decide +kernel)) entry_typeCall (wpAny_check_type_call_sub hC (Lf (hrest:=hrest) F hbm hC hi hfI hfc fun h' e hm=>?_))
 exact hq h' e hm
end
open PySem.Calls
section
variable{prog:Program}{w:World}{A:Around}{R:Result→Shared→Prop}{E:Value→Shared→Prop}{h:Heap}{g:Array GenState}{d:Drawn}{t:Nat}{os:OsState}
variable{nm q:Str}{C N:Addr}{bs bm bmB:List Value}{hdct:Bool}{sn:List Str}{sub:List Value}{ab:Bool}{col:Option Bool}{dd:Option Addr}{k0 k1 k2 k3 k5:Option Value}{B newId initId:String}
noncomputable abbrev T6(C t0:Addr)(dd:Option Addr):Obj:={ cls := .ref C,dict:=dd,data := .fields #[.ref t0,.none,.none,.none,.bool false,.none] }
theorem Ve(F:ExcBaseFacts B newId initId bmB)(hbm:∀ X,bm.contains (.type X)=bmB.contains (.type X)){M:Model}{e:Addr}{oe:Obj}{rest:List Value}{Q:Unit→Shared→Prop}
  (hC:h.get? C=some (excClassObj nm q C N bs bm hdct sn sub ab col dd k0 k1 k2 k3 k5 newId)) (he:h.get? e=some oe) (hcls:oe.cls = .ref C) (hq:Q () ⟨h,g,d,t,os⟩) :
  wpAny M A (checkBuiltinCall initId ⟨.ref e::rest,[]⟩) Q E ⟨h,g,d,t,os⟩:=by
 have hcB:(Value.ref C::bm).contains (.type B)=true:=by exact f0 (List.contains_cons ..) (f0 (hbm ..) (f0 (F.hasB ..) (f0 (Bool.or_true ..) rfl)))
 have hshort:=F.noStar
 simp only [checkBuiltinCall,F.initKind,F.initSplit,F.initRow]
 repeat (first|(with_reducible refine wpAny_loadPart_at he ?_;refine f0 (hcls ..) ?_)|with_reducible refine wpAny_loadPart_at hC ?_|(with_reducible refine wpAny_isSubtype_exc hC ?_;refine f0 (hcB ..) ?_)|wp_step)
 refine wpAny_onRaise ?_
 rw [show ∀ (a b:String) (n:Nat),Bind.check ⟨.positional,"*",B,.self,[⟨"args",.varPos,false⟩]⟩ a b n (List.map (fun x=>x.fst) ({ pos:=Value.ref e::rest }:Args).kw)=pure () from
  fun a b n=>check_star_args _ _ _ _ _ _]
 exact wpAny_pure hq
theorem pt(F:ExcBaseFacts B newId initId bmB)(hbm:∀ X,bm.contains (.type X)=bmB.contains (.type X)){e t0:Addr}{rest:List Value}{Q:Value→Shared→Prop}
  (hC:h.get? C=some (excClassObj nm q C N bs bm hdct sn sub ab col dd k0 k1 k2 k3 k5 newId)) (he:h.get? e=some (T6 C t0 none)) 
  (hq:∀ h' t1,(∀ b o,b≠e→h.get? b=some o→h'.get? b=some o)→h'.get? e=some (T6 C t1 none)→Q .none ⟨h',g,d,t,os⟩) (hrest:rest.length≤sizeLine:=by size_fits) :
  wpAny (model prog w) A (call (.builtin initId) (.ref e::rest)) Q E ⟨h,g,d,t,os⟩:=by
 refine wpAny_call (codeAny_call_builtin F.init.plain F.initEntry (Ve F hbm hC he rfl ?_))
 have hget:=Heap.get?_push_of_some { cls := .type "tuple",data := .seq rest.toArray } he
 wp_walk
 refine hq _ h.objs.size (fun b o hb e'=>?_) ?_
 ·rw [Heap.get?_update_other _ _ (Ne.symm hb)]
  exact Heap.get?_push_of_some _ e'
 ·rw [Heap.get?_update_self _ hget rfl]
  rfl
theorem Th{M:Model}{sa owner:String}{x:Addr}{o:Obj}{nameV v:Value}{Q:Unit→Shared→Prop}(SF:StoreFacts B bmB sa owner)(hbm:∀ X,bm.contains (.type X)=bmB.contains (.type X))
  (hC:h.get? C=some (excClassObj nm q C N bs bm true sn sub ab col dd k0 k1 k2 k3 k5 newId)) (hx:h.get? x=some o) (hc:o.cls = .ref C) (hq:Q () ⟨h,g,d,t,os⟩) :
  wpAny M A (checkBuiltinCall sa ⟨[.ref x,nameV,v],[]⟩) Q E ⟨h,g,d,t,os⟩:=by
 have hcB:(Value.ref C::bm).contains (.type owner)=true:=by exact f0 (List.contains_cons ..) (f0 (hbm ..) (f0 (SF.hasOwner ..) (f0 (Bool.or_true ..) rfl)))
 have ha:=SF.args (.ref x) nameV v
 simp only [checkBuiltinCall,SF.kind,SF.split]
 refine wpAny_bind ?_
 ·unfold isInstance
  repeat (first|(with_reducible refine wpAny_loadPart_at hx ?_;refine f0 (hc ..) ?_)|(with_reducible refine wpAny_isSubtype_exc hC ?_;refine f0 (hcB ..) ?_)|wp_step)
  cases hsig:Manifest.signature? sa with
  | none=>exact wpAny_pure hq
  | some sig =>
   simp only [argsOk,hsig] at ha
   have h2:Bind.checkArgs sa sig ⟨[.ref x,nameV,v],[]⟩=pure ():=ha
   show wpAny M A (Bind.checkArgs sa sig ⟨[.ref x,nameV,v],[]⟩) Q E _
   refine f0 (h2 ..) ?_;exact wpAny_pure hq
theorem Gd{sa owner:String}{x G t1:Addr}{name:Str}{v:Value}{tk:Tok}{Q:Fin→Shared→Prop}(SF:StoreFacts B bmB sa owner)
  (hC:h.get? C=some (excClassObj nm q C N bs (.ref G::bmB) true sn sub ab col dd k0 k1 k2 k3 k5 newId)) (LN:Looks (model prog w) h (typeLookup (.ref C) name) none)
  (hx:h.get? x=some (T6 C t1 none))
  (hq:∀ h' tk' dx,(∀ b o,b≠x→h.get? b=some o→h'.get? b=some o)→h'.get? x=some (T6 C t1 (some dx))→Q (.done (.ret .none)) ⟨h',g,d,tk',os⟩) :
  wpAny (model prog w) A (Builtin.«object.__setattr__» ⟨[.ref x,.str name tk,v],[]⟩) Q E ⟨h,g,d,t,os⟩:=by
 have hpass:=SF.passes (.ref x)
 unfold Builtin.«object.__setattr__»
 repeat (first|refine f0 (refuse_eq ..) ?_|(refine f0 (refuseLoop_ref ..) (f0 (refuseLoop_ref ..) (f0 (hpass ..) ?_)))|(with_reducible refine wpAny_loadPart_at hx ?_)|with_reducible refine wpAny_mroOf_exc hC ?_|(with_reducible refine LN.at ?_)|wp_step)
 have hxs:x≠h.objs.size:=Nat.ne_of_lt (Heap.lt_size hx)
 have hx₁:=Heap.get?_push_of_some { cls := .type "dict",data := .dict #[] } hx
 have D:((h.push { cls := .type "dict",data := .dict #[] }).update x fun o=>{ cls:=o.cls,dict:=some h.objs.size,data:=o.data,slots:=o.slots }).get? h.objs.size=some (dictOf [] 0) :=
  (Heap.get?_update_ne _ _ _ _ hxs.symm).trans (Heap.get?_push_at rfl rfl)
 have c:aRefKeyMayBeTheName name #[]=false:=by refine f0 (aRefKeyMayBeTheName_at ..) ?_;simp
 refine wpAny_askSetting (wpAny_pure (wpAny_bind (wpAny_mkText (wpAny_bind (wpAny_loadPart D ?_)))))
 dsimp only
 refine f0 (c ..) ?_
 refine wpAny_updatePart D ?_
 generalize hHash:(if name.cps.isEmpty=true then (0:Int) else _)=hsh
 have D':(((h.push { cls := .type "dict",data := .dict #[] }).update x fun o=>{ cls:=o.cls,dict:=some h.objs.size,data:=o.data,slots:=o.slots }).update h.objs.size (Obj.putName name hsh (.str name t) v)).get? h.objs.size=some (dictOf (putL name hsh (.str name t) v []) (putN name [] 0)):=by
  rw [Heap.get?_update_self _ D (by refine f0 (putName_dict ..) ?_;rfl),putName_dict]
 refine wpAny_bind (wpAny_lookBehind D' (by exact pastItsLine_dict (by refine f0 (List.size_toArray ..) (f0 (sizeLine_eq ..) ?_);simp [putL])) ?_)
 refine wpAny_pure (hq _ _ h.objs.size (fun b o hb e=>?_) ?_)
 ·have hbs:b≠h.objs.size:=Nat.ne_of_lt (Heap.lt_size e)
  exact (Heap.get?_update_ne _ _ _ _ hbs).trans ((Heap.get?_update_ne _ _ _ _ hb).trans (Heap.get?_push_of_some _ e))
 ·refine (Heap.get?_update_ne _ _ _ _ hxs).trans ?_
  exact Heap.get?_update_self _ hx₁ rfl
theorem iq{sa owner:String}{x G t1:Addr}{name:Str}{v:Value}{Q:Unit→Shared→Prop}(SF:StoreFacts B bmB sa owner)(hbm:∀ X,(Value.ref G::bmB).contains (.type X)=bmB.contains (.type X))
  (hC:h.get? C=some (excClassObj nm q C N bs (.ref G::bmB) true sn sub ab col dd k0 k1 k2 k3 k5 newId)) (LN:Looks (model prog w) h (typeLookup (.ref C) name) none) (LS:Looks (model prog w) h (typeLookup (.ref C) "__setattr__") (some (.builtin sa)))
  (hx:h.get? x=some (T6 C t1 none))
  (hq:∀ h' tk' dx,(∀ b o,b≠x→h.get? b=some o→h'.get? b=some o)→h'.get? x=some (T6 C t1 (some dx))→Q () ⟨h',g,d,tk',os⟩) :
  wpAny (model prog w) A (setAttr (.ref x) name v) Q E ⟨h,g,d,t,os⟩:=by
 have LT:Looks (model prog w) h (typeOf (.ref x)) (.ref C):=(Looks.ld hx).andThen .now
 refine wpAny_bind (wpAny_mkText (wpAny_bind (wpAny_bind (wpAny_bind (LT.at (LS.at (wpAny_holding ?_)))))))
 refine f0 (SF.slot.bind ..) ?_
 refine wpAny_bind (wpAny_pure (wpAny_bind (wpAny_call (codeAny_call_builtin SF.slot.plain SF.entry (Th SF hbm hC hx rfl (Gd SF hC LN hx fun h' tk' dx k e=>?_))))))
 exact wpAny_pure (wpAny_pure (hq h' tk' dx k e))
end
open PySem.Calls
theorem jq{K:Frag}{prog:Program}{w:World}{A:Around}{E:Value→Shared→Prop}{s:Shared}{name:Str}{v:Value}{T:String}{pl:Sem Bool}{Q:Value×List Value→Shared→Prop}(X:K.In s.heap)(ht:typeOf (.type T)=pure (.type "type"))(hs:Manifest.isStub T=false)
  (e:findCls K (.type T) (.type "type") name=some (.val v)) (hh:handedIn v=true) (h:Q (v,[]) { s with toks:=s.toks+1 }):wpAny (model prog w) A (getMethod (.type T) name pl) Q E s:=by
 have hstub:opaqueClassAbove (.type T)=pure none:=by unfold opaqueClassAbove;dsimp only;refine f0 (hs ..) ?_;rfl
 have L0:Looks (model prog w) s.heap (typeOf (.type T)) (.type "type"):=Looks.of_pure ht
 have hg:findIn K (.type "type") "__getattribute__"=some (some (.builtin "type.__getattribute__")):=type_tga
 unfold getMethod specialOf
 refine wpAny_bind (wpAny_bind (L0.here ((looks_findIn X hg).here ?_)))
 dsimp only
 refine f0 (if_pos canon_tga ..) ?_
 refine wpAny_bind (wpAny_mono (Q:=fun v=>Q (v,[])) (E:=E) ?_ (fun Z Z z=>wpAny_pure z) fun Z Z z=>z)
 have LO:Looks (model prog w) s.heap (opaqueClassAbove (.type T)) none:=Looks.of_pure hstub
 refine cls_open X LO L0 hg (looks_hook X (r:=none) (by rfl)) (by show subIn K _ _=_;rfl) e
  (wpAny_pure (by show wpAny _ _ (handedOut v) _ _ _;refine f0 (handedOut_of hh ..) ?_;exact wpAny_pure h))
structure XD where
 nm:Str
 q:Str
 N:Addr
 G:Addr
 bs:List Value
 sn:List Str
 sub:List Value
 ab:Bool
 col:Option Bool
 dd:Option Addr
 k0:Option Value
 k1:Option Value
 k2:Option Value
 k3:Option Value
 k5:Option Value
noncomputable abbrev XD.o(D:XD)(cls:Addr):Obj:=excClassObj D.nm D.q cls D.N D.bs (.ref D.G::pC) true D.sn D.sub D.ab D.col D.dd D.k0 D.k1 D.k2 D.k3 D.k5 "ValueError.__new__"
structure uo(C:Cx)(cls:Addr)(D:XD):Prop where
 keep:keepIn C.K (.ref cls)=true
 obj:C.K.lookup cls=some (D.o cls)
 na:findIn C.K (.ref cls) "reason"=some none
 sa:findIn C.K (.ref cls) "__setattr__"=some (some (.builtin "object.__setattr__"))
 vi:findCls C.K (.type "ValueError") (.type "type") "__init__"=some (.val (.builtin "ValueError.__init__"))
theorem Ud{G:Addr}:∀ X,(Value.ref G::pC).contains (.type X)=pC.contains (.type X):=fun X=>by refine f0 (List.contains_cons ..) ?_;rfl
theorem Tr.dropf{C:Cx}{ex:Addr→Prop}{t t':St}{h h':Heap}(T:Tr C ex t h t' h')(fr:∀ b,ex b→h.get? b=none):Tr C no t h t' h' :=
 ⟨T.rel,fun b o e nc Z=>T.keep b o e nc fun q=>Q5 (fr b q) e,T.grow,T.alive,T.lv,T.ow,T.sl⟩
section
variable{B:Bk}{K:Fr}{t t':St}{s s' s2:Shared}
theorem Tr.rk1{C:Cx}{e:Addr}(R:Y0 C t s.heap)(O:U1 t s.heap)(nn:Y7 [e] s.heap)(r:Rk [e] s s2)(al:∃ o,s2.heap.get? e=some o)(fb:∀ b∈[e],C.B.get? b=none):Tr C (·=e) t s.heap t s2.heap :=
 ⟨R.rk O nn r fb,fun b o h Z n=>i5 o (r.2.2 b o (fun q=>n (List.mem_singleton.mp q)) h) (fun Z=>rfl) rfl rfl,fun Z f => .inl f,fun b o h=>(Classical.em (b=e)).elim (fun q=>q▸al) fun n=>⟨o,r.2.2 b o (fun q=>n (List.mem_singleton.mp q)) h⟩,fun Z l=>V0 l rfl rfl,rfl,rfl⟩
theorem Jg{α:Type}{m:Sem α}{Q:α→Shared→Prop}{M:Model}{A:Around}{C:Cx}{ex:Addr→Prop}{l:List Env}(w:wpAny M A m Q (Z1 C ex l none t s dg) s'):wpAny M A m Q Oe s' :=
 wpAny_mono w (fun Z Z q=>q) fun ev s' f=>by
  refine jr f ?_;(repeat clear f);intro _ _ _ _ _ _ _ z _
  exact z
noncomputable def qt(C:Cx)(e cls:Addr)(t:St)(s:Shared)(s':Shared):Prop:=∃ t' t1 dx,Tr C (·=e) t s.heap t' s'.heap∧s'.gens=s.gens∧s'.os=s.os∧U1 t' s'.heap∧s'.heap.get? e=some (T6 cls t1 (some dx))∧t'.σ=t.σ
theorem q9{e cls t0:Addr}{dd:Option Addr}(he:s.heap.get? e=some (T6 cls t0 dd)):Y7 [e] s.heap:=G7 he rfl
theorem ut{p1 p3 p4 p5 p6 p7 p8 p9 p10 ap:Pos}{e cls t0:Addr}{m:Str}{D:XD}(BO:uo B.C cls D)(h:I1 B K t s)(hX:K.X=dg)(hb:B.b.isG bS 12 "ValueError"=true)(k1:B.b.kd "self"=some .local)(k2:B.b.kd "reason"=some .local)
  (l1:B.b.tb.lookup ("self":Str)=some 0) (l2:B.b.tb.lookup ("reason":Str)=some 1) (hρ:K.ρ=[some (.raw e),some (.str m)]) (ok:j7 (.Name "ValueError" p1) [.Name "self" p3,.Name "reason" p4] ap p5=true)
  (he:s.heap.get? e=some (T6 cls t0 none)) (nb:B.C.B.get? e=none) :
  wpAny (model pw B.C.w) K.A (execs [.Expr (.Call (.Attribute (.Name "ValueError" p1) "__init__" ap) [.Name "self" p3,.Name "reason" p4] [] p5) p6,.Assign [.Attribute (.Name "self" p7) "reason" p8] (.Name "reason" p9) p10] K.en)
   (fun f s'=>f = .next∧qt B.C e cls t s s') Oe s:=by
 obtain ⟨A,l,en,ρ,X⟩:=K
 dsimp only at hX hρ
 subst hX
 subst hρ
 have fb:∀ b∈[e],B.C.B.get? b=none:=fun b hb=>(List.mem_singleton.mp hb).symm▸nb
 have hK:=BO.obj
 have s1:∀ p,SE B (.Name "self" p) (.loc 0):=fun p=>ml (by refine f0 (k1 ..) ?_;rfl) l1 (by kernel_rfl)
 have s2:∀ p,SE B (.Name "reason" p) (.loc 1):=fun p=>ml (by refine f0 (k2 ..) ?_;rfl) l2 (by kernel_rfl)
 refine wpAny_execs_cons ?_
 have hi:interactive en=false:=by unfold interactive;refine f0 (h.h.env.kind ..) ?_;rfl
 refine f0 (exec_Expr en _ p6 hi rfl ..) ?_
 refine wpAny_bind (wpAny_standAt (wpAny_bind ?_))
 refine f0 (arm_eval_Call ..) (f0 (n3 (g7 ok).2.2.2 ..) ?_)
 refine wpAny_bind (Jg (WE.go h.h h.h.refl (Gn hb ⟨A,l,en,_,dg⟩ t s (fun l σ=>l=[.b 12]∧σ=t.σ) h.h ⟨rfl,rfl⟩) fun t1 s1' u r h1 x1 Z vu e1=>?_))
 obtain ⟨e1,eσ⟩:=e1
 obtain rfl:=(List.cons.inj e1).1
 obtain rfl:=Option.some.inj (vu.2.symm.trans (show bootBuiltins (bN 12)=some (.type "ValueError") by kernel_rfl))
 refine wpAny_bind (wpAny_standAt (z4 ok fun pl=>?_))
 refine jq h1.inK (by kernel_rfl) (by kernel_rfl) BO.vi rfl ?_
 dsimp only
 have w2:SL B [.Name "self" p3,.Name "reason" p4] (.cons (.loc 0) (.cons (.loc 1) .nil)) := .cons (s1 _) rfl (.cons (s2 _) rfl .nil)
 refine Jg (Db (K:=⟨A,l,en,_,dg⟩) (first:=[]) (P:=fun l σ=>l=[.raw e,.str m]∧σ=t.σ) w2 h.h x1.toks ⟨rfl,eσ⟩ V5 fun t2 s2' vs rs h2 x2 Z vv pp=>?_)
 obtain ⟨rfl,eσ⟩:=pp
 refine Z0 (G6 vv) ?_;intro r1 r2 rI er tI;obtain rfl:=rI;obtain ⟨tk2,rfl⟩:=tI
 obtain rfl:=(show r1 = .ref e from er)
 have he2:=Pe h.h.rel h.h.own x2.tr (q9 he) (fun Z=>False.elim) e (.head _) _ he
 have nn2:=q9 he2
 have hS2:=h.ext x2
 refine wpAny_mono (pt (rest:=[.str m tk2]) PySem.F.excBase_ValueError Ud (h2.inK _ _ hK) he2 (Q:=fun r s3=>r = .none∧∃ h3 t1,s3={ s2' with heap:=h3 }∧(∀ b o,b≠e→s2'.heap.get? b=some o→h3.get? b=some o)∧h3.get? e=some (T6 cls t1 none)) fun h3 t1 k3 e3=>⟨rfl,h3,t1,rfl,k3,e3⟩) (fun r s3 z=>?_) fun Z Z y=>y
 obtain ⟨rfl,wI⟩:=z;refine Z0 wI ?_;(repeat clear wI);intro h3 t1' yI k3 e3;obtain rfl:=yI
 have R3:Rk [e] s2' { s2' with heap:=h3 }:=rk1 (tk:=s2'.toks) k3
 have hS3:=hS2.rk nn2 R3 fb
 have T3:Tr B.C (·=e) t s.heap t2 h3:=x2.tr.of0.trans (Tr.rk1 (s2:={ s2' with heap:=h3 }) hS2.h.rel hS2.h.own nn2 R3 ⟨_,e3⟩ fb)
 refine xj ?_
 refine wpAny_execs_cons ?_
 refine f0 (plainObj_exec_Assign_Attribute _ _ p8 _ p10 rfl ..) ?_
 refine wpAny_bind (wpAny_standAt (wpAny_bind ?_))
 refine Jg (WE.go hS3.h hS3.h.refl (s2 p9 ⟨A,l,en,_,dg⟩ t2 _ (fun l σ=>l=[.str m]∧σ=t2.σ) hS3.h ⟨rfl,rfl⟩) fun t4 s4 u4 r4 h4 x4 Z v4 e4=>?_)
 obtain ⟨e4,eσ4⟩:=e4
 obtain rfl:=(List.cons.inj e4).1
 refine f0 (arm_assign_Attribute ..) ?_
 refine wpAny_bind (wpAny_bind (wpAny_holding ?_))
 refine Jg (WE.go hS3.h x4 (s1 p7 ⟨A,l,en,_,dg⟩ t4 _ (fun l σ=>l=[.raw e]∧σ=t4.σ) h4 ⟨rfl,rfl⟩) fun t5 s5 u5 r5 h5 x5 Z v5 e5=>?_)
 obtain ⟨e5,eσ5⟩:=e5
 obtain rfl:=(List.cons.inj e5).1
 obtain rfl:=(show r5 = .ref e from v5)
 have he5:=Pe hS3.h.rel hS3.h.own x5.tr (q9 e3) (fun Z=>False.elim) e (.head _) _ e3
 have X5:=h5.inK
 refine wpAny_bind (wpAny_standAt (wpAny_bind (wpAny_holding ?_)))
 refine iq PySem.F.store_ValueError Ud (X5 _ _ hK) (looks_findIn X5 BO.na) (looks_findIn X5 BO.sa) he5 (fun h6 tk6 dx k6 e6=>?_)
 have R6:Rk [e] s5 { s5 with heap:=h6,toks:=tk6 }:=rk1 k6
 refine wpAny_release (wpAny_pure ?_)
 exact wpAny_execs_nil ⟨rfl,t5,t1',dx,(T3.trans x5.tr.of0).trans (Tr.rk1 (s2:={ s5 with heap:=h6,toks:=tk6 }) h5.rel h5.own (q9 he5) R6 ⟨_,e6⟩ fb),x5.gens.trans x2.gens,x5.os.trans x2.os,h5.own.rk (q9 he5) R6,e6,eσ5.trans (eσ4.trans eσ)⟩
end
open PySem.Calls
noncomputable def bz:List Stmt:=[.Expr (.Call (.Attribute (.Name "ValueError" ⟨8,8,8,18⟩) "__init__" ⟨8,8,8,27⟩) [.Name "self" ⟨8,28,8,32⟩,.Name "reason" ⟨8,34,8,40⟩] [] ⟨8,8,8,41⟩) ⟨8,8,8,41⟩,.Assign [.Attribute (.Name "self" ⟨9,8,9,12⟩) "reason" ⟨9,8,9,19⟩] (.Name "reason" ⟨9,22,9,28⟩) ⟨9,8,9,28⟩]
structure xt(C:Cx)(b:M5)(fI:Addr):Prop where
 body:n9 C (.raw fI) ["self","reason"] [.str ""] b bz
 isB:b.isG bS 12 "ValueError"=true
 k1:b.kd "self"=some .local
 k2:b.kd "reason"=some .local
section
variable{C:Cx}{n:Nat}{L:Lv C n}{b:M5}{A:Around}{l:List Env}{t:St}{s:Shared}
theorem yt{fI cls e t0:Addr}{m:Str}{tk:Tok}{D:XD}(BO:uo C cls D)(G:xt C b fI)(ok:C.Ok)(he:s.heap.get? e=some (T6 cls t0 none))(nb:C.B.get? e=none)(R:Y0 C t s.heap)(O:U1 t s.heap)(am:Ff A l (n+1))(fr:l4 l t s.heap) :
  wpAny (model pw C.w) A (call (.ref fI) [.ref e,.str m tk]) (fun r s'=>r = .none∧qt C e cls t s s') Oe s:=by
 have F:=G.body
 refine wpAny_call (codeAny_mono (om (L := .self C n) 0 (args:=[.raw e,.str m]) (Rr:=fun r s'=>match r with | .ok (.ret v)=>v = .none∧qt C e cls t s s'|_=>False) ok F (show 2≤2 by decide) (show 2≤3 by decide) (r := .ref fI) rfl (E0.two (u := .raw e) (v := .str m) rfl ⟨tk,rfl⟩) R O am fr
  (fun en s₁ keep hg ho own hS=>?_)) fun r s' p=>by
   induction r using Except.casesOn with
   | ok f=>induction f using Flow.casesOn<;>exact p
   | error e=>exact p)
 refine wpAny_mono (ut BO (hS dg) rfl G.isB G.k1 G.k2 (F.par 0 _ rfl) (F.par 1 _ rfl) rfl rfl (keep _ _ he) nb) (fun f s' p=>?_) fun Z Z f=>f.elim
 obtain ⟨rfl,wI⟩:=p;refine Qi wI ?_;(repeat clear wI);intro t' t1 dx T g o O' e1 eσ
 have T2:=(Rn (e2:=(·=e)) R keep own (fun b q => .inl q) (fun b o q Z=>q) T O').1
 exact ⟨rfl,t'.as t.ow t.sl,t1,dx,T2,g.trans hg,o.trans ho,fun b f=>O' b (T.ow ▸ .inl f),e1,eσ⟩
theorem Ij{t':St}{s₁ s':Shared}{en:Env}{ρ:y0}{X:y0→Prop}{P F:Addr→Prop}{e cls:Addr}{a0:Value}{oe:Obj}{vs:Array Value}(h:I1 ⟨C,n,b,L⟩ ⟨A,en::l,en,ρ,X⟩ (t.hid P F) s₁)(R:Y0 C t s.heap)(keep:∀ b o,s.heap.get? b=some o→s₁.heap.get? b=some o)(hg:s₁.gens=s.gens)(ho:s₁.os=s.os)
  (fr:∀ b,P b→s.heap.get? b=none) (hF:∀ b,F b→P b) (hP:P en.locals) (y:O3 C no (t.hid P F) s₁ t' s') (qX:X t'.σ) (hc:Cp C cls) (he:s'.heap.get? e=some oe) (hcl:oe.cls = .ref cls) (hd:oe.data = .fields vs) (h1:vs[1]?=some .none) (h0:vs[0]?=some a0) (fre:s₁.heap.get? e=none) {Q:Value→Shared→Prop} :
  wpAny (model pw C.w) A (leaving en (.ref e)) (fun Z s''=>Z1 C no l none t s X (.ref e) s'') Q s':=by
 have hh:=h.h.ext y
 have rcd:¬Y4 oe:=fun z=>z vs hd
 have nce:¬t'.cel e:=fun f=>(hh.rel.celA f).elim fun o z=>rcd (Option.some.inj (z.1.symm.trans he)▸z.2)
 have fm:∀ b,b∈(en::l).filterMap (·.frame)→∃ env∈en::l,env.frame=some b:=fun b hb=>List.mem_filterMap.mp hb
 have fw:∀ b,b∈(en::l).filterMap (·.frame)→t'.ow b:=fun b hb=>by
  refine A0 (fm b hb) fun env hm hf=>?_
  obtain ⟨_,yI⟩:=hh.fr env hm;refine da yI ?_;(repeat clear yI);intro L o es k hf' w _
  obtain rfl:=Option.some.inj (hf.symm.trans hf')
  exact hh.rel.sub b w
 generalize hBx:hideAll s'.heap (e::(en::l).filterMap (·.frame))=Bx
 have inBx:∀ b o,s'.heap.get? b=some o→b≠e→¬t'.ow b→Bx.get? b=some o:=fun b o q ne nw=>hBx▸hideAll_get _ q fun hm=>(List.mem_cons.mp hm).elim ne fun hm=>nw (fw b hm)
 have hst:Bx.StaysIn s'.heap:=fun b o q=>of_hideAll _ (hBx▸q)
 have mo:Mo t' s'.heap t' Bx:=⟨fun Z l=>V0 l rfl rfl,fun Z Z Z f=>f,fun b o q z nf=>inBx b o q (fun w=>rcd (Option.some.inj ((w▸q).symm.trans he)▸z)) fun w=>nf (.inl w),hh.rel.nt hh.own⟩
 have rel:Y0 C t' Bx:=by
  refine ⟨fun k v ek=>(hh.rel.cell k v ek).imp fun K x=>x.imp fun xs x=>x.imp fun rs z=>E3 z.1 z.2.1 (z.2.2.1.obj _ fun b o q z c=>inBx b o q (fun w=>rcd (Option.some.inj ((w▸q).symm.trans he)▸z)) fun w=>?_) (z.2.2.2.go mo xs),hh.rel.own,hh.rel.sep,hh.rel.apart,fun b o q=>inBx b o (hh.rel.base b o q) (fun w=>Q5 fre (keep b o (R.base b o q) |> fun z=>w▸z)) fun w=>Q5 (hh.rel.own b (.inl w)) q,hh.rel.sub⟩
  rcases c with c|c|c
  ·exact hh.rel.apart b w (C0 k ⟨v,ek⟩ (.inl c))
  ·exact hh.rel.apart b w (C0 k ⟨v,ek⟩ (.inr c))
  ·exact hh.rel.nt hh.own b o q c (.inl w)
 have hen:Bx.get? e=none:=hBx▸hideAll_none _ (.head _)
 have hFF:s'.heap.FunFrames Bx (en::l):=hBx▸funFrames_hide (l4.fun hh.rel hh.fr) fun env hm a hf => .tail _ (List.mem_filterMap.mpr (C0 env hm hf))
 refine wpAny_leaving_firstW h.h.amb.fr hFF h.f.fr he hst hen hd h1 h0 fun h'' hL=>?_
 refine R7 hL ?_;(repeat clear hL);intro k1 rI k4 k5;refine i4 rI ?_;(repeat clear rI);intro _ _ k3
 rw [hcl] at k4
 have TB:Nk C no (en::l) (t.hid P F) s₁ t' { s' with heap:=h'' } Bx:=Nk.slots (s':=s') ⟨rel,fun b o q nc Z=>by
   by_cases hm:b∈(en::l).filterMap (·.frame)
   ·exact .inl (fm b hm)
   ·refine A0 (y.tr.keep b o q nc id) fun o' e' z=>?_
    exact .inr (C0 o' (hBx▸hideAll_get _ e' fun hm'=>(List.mem_cons.mp hm').elim (fun w=>Q5 fre (w▸q)) hm) z),
  fun b o q i=>hh.rel.nt hh.own b o (hst b o q) i,fun b o q w=>by
   refine fe (y.tr.keep b o q (h.h.rel.apart b w) id) fun o' e' Z c d=>?_
   refine F1 (hh.own b (y.tr.ow▸w)) fun o2 e2 nn Z=>?_
   exact A2 o' e' (Option.some.inj (e2.symm.trans e')▸nn) (fun Z=>⟨c,d⟩),y.tr.grow,y.tr.lv,y.tr.ow,y.tr.sl,y.gens,y.os⟩ k5
 exact ir (t'.as t.ow t.sl) Bx e cls a0 rfl (TB.unhide R keep fr hF (fun Z=>False.elim) (fun env hm=>(List.mem_cons.mp hm).elim (fun q => .inr (C0 en.locals (q▸h.f.fr) hP)) .inl) hg ho) qX hc ⟨k1,hen,k3,k4⟩
end
open PySem.Calls
theorem Ky.call1{A:Around}{l:List Env}{n:Nat}(a:Ky A l n)(c:Addr)(rest:List Value)(kw:List (Str×Value)):Ff (A.under (.builtin "type.__call__" ⟨.ref c::rest,kw⟩)) l n:=by
 refine f0 (Zi ..) ?_
 exact ⟨a.hand,by have:=a.deep;show A.depth+1+2*n+1<recursionLimit;exact ak this (by simp +arith),a.fr,by have:=a.units;show A.units+1+10*n+193<cLine;exact ak this (by simp +arith)⟩
section
variable{M:Model}{A:Around}{E:Value→Shared→Prop}{env:Env}
variable{nm q:Str}{C N:Addr}{bs bm bmB:List Value}{hdct:Bool}{sn:List Str}{sub:List Value}{ab:Bool}{col:Option Bool}{dd:Option Addr}{k0 k1 k2 k3 k5:Option Value}{newId:String}
theorem kq{s:Shared}{x:Sem Value}{Q:Flow→Shared→Prop}(hbase:bm.contains (.type "BaseException")=true)(hh:A.handled=none)
  (h:wpAny M A x (fun v s₁=>∃ e t d1,v = .ref e∧s₁.heap.get? C=some (excClassObj nm q C N bs bm hdct sn sub ab col dd k0 k1 k2 k3 k5 newId) ∧
   s₁.heap.get? e=some (T6 C t d1)∧E (.ref e) s₁) E s) :
  wpAny M A (raiseStmt env (some x) none) Q E s:=by
 have hcB:(Value.ref C::bm).contains (.type "BaseException")=true:=by exact f0 (List.contains_cons ..) (f0 (hbase ..) (f0 (Bool.or_true ..) rfl))
 unfold raiseStmt
 refine wpAny_bind (wpAny_mono h (fun v s₁ h₁=>?_) fun Z Z x=>x)
 refine R5 h₁ ?_;(repeat clear h₁);intro e t d1 vI hC he hE;obtain rfl:=vI
 obtain ⟨hp,g,d,tk,os⟩:=s₁
 repeat (first|with_reducible refine wpAny_loadPart_at he ?_|with_reducible refine wpAny_loadPart_at hC ?_|(with_reducible refine wpAny_isSubtype_exc hC ?_;refine f0 (hcB ..) ?_)|wp_step)
 exact wpAny_raiseNew_none hh hE
end
section
variable{C:Cx}{n:Nat}{bF bG:M5}
theorem ix{fvF:V}{fI cls:Addr}{arg:Expr}{te:E}{p1 p2 p3:Pos}{D:XD}(ok:C.Ok)(hKE:Cp C cls)(BO:uo C cls D)(G:xt C bG fI)(hini:findIn C.K (.ref cls) "__init__"=some (some (.ref fI)))(hfn:isFn C.K (.ref fI)=true)
  (F:n9 C fvF ["self","place","reason"] [] bF [.Raise (some (.Call (.Name "BadRows" p1) [arg] [] p2)) none p3]) (hn:bF.kd "BadRows"=some .globalImplicit) (ha:SE ⟨C,n+1,bF,.self C (n+1)⟩ arg te) (hst:Q4 arg=true)
  {args:List V} {σ:y0} {Q:X0} {X:y0→Prop} (hl:args.length=3) (q:vc C (n+1) dg (.cons te .nil) (args.map some) σ fun l σ=>(∃ m,l=[.str m])∧X σ):B0 C (n+2) fvF args σ Q X:=⟨fun r vals A l t s hσ vf va R O am fr=>by
 refine om (n:=n+1) (L := .self C (n+1)) 0 ok F (by refine f0 (hl ..) ?_;exact Nat.le_refl 3) (by refine f0 (hl ..) ?_;exact Nat.le_refl 3) vf va R O am fr fun en s₁ keep hg ho own hS0=>?_
 rw [List.drop_nil,List.append_nil] at hS0
 have hS:=hS0 dg
 refine wpAny_execs_cons ?_
 refine f0 (arm_exec_Raise ..) ?_
 refine wpAny_bind (wpAny_standAt ?_)
 have hK:=BO.obj
 refine kq (C:=cls) (nm:=D.nm) (q:=D.q) (N:=D.N) (bs:=D.bs) (bm := .ref D.G::pC) (hdct:=true) (sn:=D.sn) (sub:=D.sub) (ab:=D.ab) (col:=D.col) (dd:=D.dd) (k0:=D.k0) (k1:=D.k1) (k2:=D.k2) (k3:=D.k3) (k5:=D.k5) (newId:="ValueError.__new__") (by refine f0 (Ud ..) ?_;decide +kernel) hS.h.amb.hand
  (wpAny_bind (wpAny_mono ?_ (fun v s₃ h₃=>wpAny_bind (wpAny_standAt (wpAny_pure h₃))) fun Z Z x=>x))
 show wpAny _ _ (do callWith p2 (←eval (.Name "BadRows" p1) en) [] (backTo p2 (starEach [arg] en)) (backToKw p2 (keywordEach [] en))) _ _ s₁
 have up:∀ {α:Type} {m:Sem α} {P:α→Shared→Prop} {E:Value→Shared→Prop} {s:Shared},wpAny (model pw C.w) (A.deeper en) m P Oe s→wpAny (model pw C.w) (A.deeper en) m P E s:=fun h=>wpAny_mono h (fun Z Z q=>q) fun Z Z f=>f.elim
 refine wpAny_bind (up (Jg (WE.go hS.h hS.h.refl (Od (Q:=fun v σ=>v = .raw cls∧σ=t.σ) hn (by kernel_rfl) hS.h (Bc (v := .raw cls) hS.h hKE rfl ⟨rfl,rfl⟩)) fun t2 s2 u r2 h2 y2 Z vu e2=>up ?_)))
 obtain ⟨rfl,eσ⟩:=e2
 cases (show r2 = .ref cls from vu)
 have w:SL ⟨C,n+1,bF,.self C (n+1)⟩ [arg] (.cons te .nil) := .cons ha hst .nil
 refine up (Jg (Db (K:=⟨A.deeper en,en::l,en,args.map some,dg⟩) (first:=[]) (P:=fun l σ=>(∃ m,l=[.str m])∧X σ) w hS.h y2 (eσ▸hσ▸q) (Cb BO.keep) fun t3 s3 vs rs h3 x3 Z vv pp=>?_))
 obtain ⟨wI,hX⟩:=pp;obtain ⟨m,rfl⟩:=wI
 refine A0 (j5 vv) ?_;intro r3 rI tI;obtain rfl:=rI;obtain ⟨tk,rfl⟩:=tI
 have X3:=h3.inK
 refine A0 (F4 (beq_iff_eq.mp hfn)) fun oI hoK hoc=>?_
 have hfI:=X3 _ _ hoK
 have hC3:=X3 _ _ hK
 have LI:Looks (model pw C.w) s3.heap (typeLookup (.ref cls) "__init__") (some (.ref fI)):=looks_findIn X3 hini
 have am3:=h3.amb.call1 cls [.str m tk] []
 obtain ⟨hh,g,d,tk',os⟩:=s3
 refine Rh (rest:=[.str m tk]) PySem.F.excBase_ValueError Ud hC3 LI hfI hoc.symm (fun h' e hm=>?_)
 refine F1 hm.there fun t0 he Z Z=>?_
 have x4:O3 C no t3 ⟨hh,g,d,tk',os⟩ t3 ⟨h',g,d,tk',os⟩:=⟨Tr.more h3.rel h3.own hm.keeps,rfl,rfl⟩
 have h4:=h3.ext x4
 have hnew:hh.get? e=none:=hm.new
 have nb:C.B.get? e=none:=h3.rel.off hnew
 have fre:s₁.heap.get? e=none:=by
  cases q:s₁.heap.get? e with
  | none=>rfl
  | some o=>exact (x3.tr.alive e o q).elim fun o' eo=>Q5 hnew eo
 refine wpAny_mono (yt BO G ok he nb h4.rel h4.own am3 h4.fr) (fun r s5 p=>?_) fun Z Z f=>f.elim
 obtain ⟨rfl,yI⟩:=p;refine Qi yI ?_;(repeat clear yI);intro t5 t1 dx T5 g5 o5 O5 e5 eσ5
 have tot:O3 C no (t.hid (i3 en) (·=en.locals)) s₁ t5 s5:=⟨((x3.tr.trans x4.tr).of0.trans T5).dropf fun b q=>by refine f0 (show b=e from q) ?_;exact fre,g5.trans x3.gens,o5.trans x3.os⟩
 refine ⟨rfl,e,t1,some dx,rfl,ok.inB.keeps T5.rel.base _ _ hK,e5,?_⟩
 exact Ij (hS0 X) R keep hg ho own (fun b q => .inl q) (.inl rfl) tot (eσ5▸hX) hKE e5 rfl rfl rfl rfl fre⟩
end
open PySem.Calls
theorem Jj:∀ c,c<11→oh c 0=true:=by decide
theorem Ff.call1{A:Around}{l:List Env}{n:Nat}(a:Ff A l (n+1))(c:Addr)(rest:List Value)(kw:List (Str×Value)):Ff (A.under (.builtin "type.__call__" ⟨.ref c::rest,kw⟩)) l n:=by
 refine f0 (Zi ..) ?_
 exact ⟨a.hand,Nat.lt_of_le_of_lt (show A.depth+1+2*n+1≤A.depth+(2*n+2)+1 by simp +arith) a.deep,a.fr,Nat.lt_of_le_of_lt (show A.units+1+10*n+193≤A.units+(10*n+10)+193 by simp +arith) a.units⟩
section
variable{C:Cx}{n:Nat}
theorem Mc(ok:C.Ok){c k:Nat}(hc:c<11){args:List V}{σ:y0}{Q:X0}{X:y0→Prop}(dead:A1 σ k=none)
  (w:B0 C n (.m c 0) (.ref k::args) (R2 σ k (some (.a (.obj c []) []))) (fun v σ'=>nP v (Q (.ref k) σ')) X):B0 C (n+1) (.g c) args σ Q X:=⟨fun r vals A l t s hσ vf va R O am fr=>by
 refine A0 (ok.gl c (Nat.lt_trans hc (by decide))) fun a ea Z=>?_
 cases vf.2.symm.trans ea
 have hK:P8 C c a:=⟨hc,ea⟩
 refine F1 (ok.mth c a 0 hK (Jj c hc)) fun f hf hfn Z=>?_
 have inK:C.K.In s.heap:=ok.inB.keeps R.base
 obtain ⟨hh,g,d,tk,os⟩:=s
 have keep:∀ b o,hh.get? b=some o→((hh.push emptyDict).push (instObj a hh.objs.size)).get? b=some o:=fun b o e=>Heap.get?_push_of_some _ (Heap.get?_push_of_some _ e)
 have g1:((hh.push emptyDict).push (instObj a hh.objs.size)).get? hh.objs.size=some (dictOf [] 0):=Heap.get?_push_of_some _ (Heap.get?_push_size hh (o:=dictOf [] 0) rfl)
 have sz:(hh.push emptyDict).objs.size=hh.objs.size+1:=Array.size_push ..
 have g2:((hh.push emptyDict).push (instObj a hh.objs.size)).get? (hh.objs.size+1)=some (instObj a hh.objs.size):=sz▸Heap.get?_push_size (hh.push emptyDict) (o:=instObj a hh.objs.size) rfl
 have T:=Tr.new (h':=(hh.push emptyDict).push (instObj a hh.objs.size)) (K := .obj c []) (xs:=[]) (rs:=[]) R O (hσ▸dead) (a:=hh.objs.size+1) (d:=hh.objs.size) (M2 _ (Nat.le_succ _)) (M2 _ (Nat.le_refl _)) keep nofun ⟨a,hK,g2,[],mj g1,rfl,rfl⟩ rfl
 have O1:=O.tr0 R T
 refine make_core (makes_of inK (ok.cls c a hK).2) (looks_findIn inK hf) (fun self=>bind_fn inK self (beq_iff_eq.mp hfn)) (.inl rfl) ?_
 refine codeAny_mono (w.run (.ref f) (.ref (hh.objs.size+1)::vals) (A.under (.builtin "type.__call__" ⟨.ref a::vals,[]⟩)) l _ ⟨(hh.push emptyDict).push (instObj a hh.objs.size),g,d,tk,os⟩ (by refine P5 (hσ ..) ?_;rfl) ⟨Jj c hc,a,hK,hf⟩ (L1 _ _ rfl ⟨⟨_,N1 ..⟩,congrArg Value.ref M3.1.symm⟩ (va.tr R O T)) T.rel O1 (am.call1 a _ _) (fr.tr R T fun Z Z Z Z=>id)) fun res s' pp=>?_
 induction res using Except.casesOn with
 | ok fl=>induction fl using Flow.casesOn with
  | ret v =>
   refine Z0 pp ?_;(repeat clear pp);intro t3 u3 y3 vr3 q3
   obtain ⟨rfl,q3⟩:=Uz q3
   have lk:(t.new k (hh.objs.size+1) hh.objs.size (.a (.obj c []) [])).live k:=⟨_,N1 ..⟩
   exact ⟨vr3,t3,.ref k,(O3.mk T rfl rfl:O3 C no t ⟨hh,g,d,tk,os⟩ _ ⟨(hh.push emptyDict).push (instObj a hh.objs.size),g,d,tk,os⟩).trans y3,⟨(y3.tr.lv k lk).1,congrArg Value.ref (M3.1.symm.trans (y3.tr.lv k lk).2.1.symm)⟩,q3⟩
  | _=>exact pp
 | error e=>exact Z1.trans R (O3.mk T rfl rfl:O3 C no t ⟨hh,g,d,tk,os⟩ _ ⟨(hh.push emptyDict).push (instObj a hh.objs.size),g,d,tk,os⟩) pp⟩
end
open PySem.Calls
inductive NR(k:Nat)(P:V→Prop):V→Prop
 | old {v}:P v→NR k P v
 | a {K xs}:(∀ x∈xs,NR k P x)→NR k P (.a K xs)
 | ref {j}:j≠k→NR k P (.ref j)
 | none:NR k P .none
 | bool {b}:NR k P (.bool b)
 | int {i}:NR k P (.int i)
 | str {s}:NR k P (.str s)
 | g {x}:NR k P (.g x)
 | b {x}:NR k P (.b x)
 | m {c x}:NR k P (.m c x)
 | raw {a}:NR k P (.raw a)
noncomputable def St.drop(t:St)(k:Nat):St:=⟨t.al,t.dl,R2 t.σ k none,t.ow,t.sl⟩
section
variable{C:Cx}{k:Nat}{t t0:St}{h h0:Heap}
mutual
noncomputable def Fa(k:Nat):V→Prop
 | .ref j=>j≠k
 | .a _ xs=>D4 k xs
 | _=>True
noncomputable def D4(k:Nat):List V→Prop
 | []=>True
 | x::xs=>Fa k x∧D4 k xs
end
mutual
theorem zt(d:¬t0.live k):∀ (v:V) {r:Value},G0 C t0 h0 v r→Fa k v
 | .ref j,_,e=>fun q=>d (q▸e.1)
 | .a K xs,_,e=>by
  refine i7 e ?_;(repeat clear e);intro _ _ rs _ _ _ _ vr
  exact Vd d xs vr
 | .none,_,_=>trivial
 | .bool _,_,_=>trivial
 | .int _,_,_=>trivial
 | .str _,_,_=>trivial
 | .g _,_,_=>trivial
 | .b _,_,_=>trivial
 | .m _ _,_,_=>trivial
 | .raw _,_,_=>trivial
theorem Vd(d:¬t0.live k):∀ (v:List V) {r:List Value},E0 C t0 h0 v r→D4 k v
 | [],_,_=>trivial
 | x::xs,_,e=>by
  refine Z0 e ?_;(repeat clear e);intro _ _ _ a b
  exact ⟨zt d x a,Vd d xs b⟩
end
theorem vo:∀ {xs:List V},(∀ x∈xs,Fa k x)→D4 k xs
 | [],_=>trivial
 | x::xs,h=>⟨h x (.head _),vo fun y hy=>h y (.tail _ hy)⟩
theorem kE{P:V→Prop}(hP:∀ v,P v→Fa k v){v:V}(x:NR k P v):Fa k v:=by
 induction x with
 | old p=>exact hP _ p
 | a _ ih=>exact vo ih
 | ref n=>exact n
 | _=>trivial
theorem b8{j:Nat}(l:(t.drop k).live j):j≠k∧t.live j:=by
 have n:j≠k:=fun q=>by subst q;exact l.elim fun v e=>Q5 (N1 t.σ j none) e
 exact ⟨n,l.imp fun Z e=>(T1 t.σ _ n).symm.trans e⟩
theorem s9{b:Addr}(f:(t.drop k).cel b):∃ j,j≠k∧t.live j∧(b=t.al j∨b=t.dl j):=f.imp fun j x=>V0 ((b8 x.1).1) ((b8 x.1).2) x.2
theorem d8{b:Addr}(f:(t.drop k).foot b):t.foot b:=Or.elim f .inl fun f => .inr ((s9 f).imp fun Z x=>x.2)
mutual
theorem G0.drop:∀ (v:V) {r:Value},Fa k v→G0 C t h v r→G0 C (t.drop k) h v r
 | .ref j,_,n,e=>⟨e.1.imp fun Z z=>(T1 t.σ _ n).trans z,e.2⟩
 | .a K xs,_,n,e=>e.imp fun a x=>x.imp fun d x=>x.imp fun rs z=>Yq z.1 (fun f=>z.2.1 (d8 f)) (fun f=>z.2.2.1 (d8 f)) z.2.2.2.1 (E0.drop' xs n z.2.2.2.2)
 | .none,_,_,e=>e
 | .bool _,_,_,e=>e
 | .int _,_,_,e=>e
 | .str _,_,_,e=>e
 | .g _,_,_,e=>e
 | .b _,_,_,e=>e
 | .m _ _,_,_,e=>e
 | .raw _,_,_,e=>e
theorem E0.drop':∀ (v:List V) {r:List Value},D4 k v→E0 C t h v r→E0 C (t.drop k) h v r
 | [],_,_,e=>e
 | x::xs,_,n,e=>e.imp fun Z e=>e.imp fun Z z=>V0 z.1 (G0.drop x n.1 z.2.1) (E0.drop' xs n.2 z.2.2)
end
theorem Y0.drop(R:Y0 C t h)(cl:∀ j v,A1 t.σ j=some v→Fa k v):Y0 C (t.drop k) h:=by
 refine ⟨fun j v e=>?_,fun b f=>R.own b (d8 f),fun i j li lj n=>R.sep i j (b8 li).2 (b8 lj).2 n,fun b f c=>R.apart b f ((s9 c).imp fun Z x=>x.2),R.base,R.sub⟩
 have e':A1 t.σ j=some v:=(T1 t.σ _ (b8 ⟨v,e⟩).1).symm.trans e
 have n:=cl j v e'
 refine R5 (R.cell j v e') ?_;intro K xs rs zI hK sh vr;obtain rfl:=zI
 exact X4 K xs rs rfl hK sh (E0.drop' xs n vr)
theorem Tr.drop{ex:Addr→Prop}(T:Tr C ex t0 h0 t h)(d:¬t0.live k)(cl:∀ j v,A1 t.σ j=some v→Fa k v):Tr C ex t0 h0 (t.drop k) h :=
 ⟨T.rel.drop cl,T.keep,fun b f=>T.grow b ((s9 f).imp fun Z x=>x.2),T.alive,fun j l=>⟨(T.lv j l).1.imp fun Z e=>(T1 t.σ _ fun (q:j=k)=>d (q▸l)).trans e,(T.lv j l).2⟩,T.ow,T.sl⟩
theorem Y0.frz(R:Y0 C t h){w:V}(e:A1 t.σ k=some w)(n:Fa k w):G0 C (t.drop k) h w (.ref (t.al k)):=by
 have lk:t.live k:=⟨w,e⟩
 refine R5 (R.cell k w e) ?_;intro K xs rs xI hK sh vr;obtain rfl:=xI
 refine W8 _ _ rs rfl (fun f=>Or.elim f (fun f=>R.apart _ f (C0 k lk (.inl rfl))) fun f=>?_) (fun f=>Or.elim f (fun f=>R.apart _ f (C0 k lk (.inr rfl))) fun f=>?_) sh (E0.drop' xs n vr)
 ·refine F1 (s9 f) fun j nj lj q=>?_
  refine i4 (R.sep k j lk lj (Ne.symm nj)) fun s1 s2 s3=>?_
  exact q.elim s1 s2
 ·refine F1 (s9 f) fun j nj lj q=>?_
  refine i4 (R.sep k j lk lj (Ne.symm nj)) fun s1 s2 s3=>?_
  refine i4 (R.sep j k lj lk nj) fun u1 u2 u3=>?_
  exact q.elim (Ne.symm u2) s3
theorem B0.frz{n:Nat}{fv:V}{args:List V}{σ:y0}{Q:X0}{X:y0→Prop}(dead:A1 σ k=none)
  (w:B0 C n fv args σ (fun v σ'=>rP v fun j=>j=k∧oP (A1 σ' k) fun u=>(∀ j v,A1 σ' j=some v→NR k (fun v=>v∈args∨∃ j,A1 σ j=some v) v)∧Q u (R2 σ' k none)) X):B0 C n fv args σ Q X :=
 ⟨fun r vals A l t s hσ vf va R O am fr=>codeAny_mono (w.run r vals A l t s hσ vf va R O am fr) fun res s' p=>by
  induction res using Except.casesOn with
  | error e=>exact p
  | ok f=>induction f using Flow.casesOn with
   | ret v =>
    refine Z0 p ?_;(repeat clear p);intro t' u x vr q
    refine F1 (Tv q) ?_;(repeat clear q);intro j tI vI q;obtain rfl:=tI;obtain rfl:=vI
    refine F1 (D6 q) ?_;(repeat clear q);intro w ew nr q
    have d:¬t.live j:=fun l=>l.elim fun v e=>Q5 (hσ▸dead) e
    have mem:∀ {vs:List V} {rs:List Value},E0 C t s.heap vs rs→∀ v∈vs,Fa j v:=fun {vs}=>by
     induction vs with
     | nil=>exact fun Z=>(fun Z h=>(List.not_mem_nil h).elim)
     | cons y ys ih =>
      intro rs vr v hv
      refine Z0 vr ?_;(repeat clear vr);intro _ _ _ a b
      exact (List.mem_cons.mp hv).elim (fun q=>q▸zt d y a) fun hv=>ih b v hv
    have cl:∀ i v,A1 t'.σ i=some v→Fa j v:=fun i v e=>kE (fun v hv=>hv.elim (mem va v) fun z=>z.elim fun i e=>by
     refine R5 (R.cell i v (hσ▸e)) ?_;intro K xs rs rI _ _ vr;obtain rfl:=rI
     exact Vd d xs vr) (nr i v e)
    exact L1 (t'.drop j) w ⟨x.tr.drop d cl,x.gens,x.os⟩ (vr.2▸x.tr.rel.frz ew (cl j w ew)) q
   | _=>exact p⟩
end
noncomputable abbrev z_:Str:=⟨#[]⟩
noncomputable abbrev ra:Str:=⟨#[97]⟩
noncomputable abbrev j4:Str:=⟨#[97,32,115,116,97,99,107,32,111,102,32]⟩
noncomputable abbrev OH:Str:=⟨#[98]⟩
noncomputable abbrev T9:Str:=⟨#[98,108,111,99,107]⟩
noncomputable abbrev TA:Str:=⟨#[98,111,111,108]⟩
noncomputable abbrev PH:Str:=⟨#[99]⟩
noncomputable abbrev Uh:Str:=⟨#[99,97,108,108]⟩
noncomputable abbrev Y5:Str:=⟨#[99,97,117,103,104,116]⟩
noncomputable abbrev Vh:Str:=⟨#[99,108,97,115,115]⟩
noncomputable abbrev lE:Str:=⟨#[100,101,102]⟩
noncomputable abbrev Kb:Str:=⟨#[100,114,97,119,110]⟩
noncomputable abbrev t9:Str:=⟨#[100,117,112]⟩
noncomputable abbrev C8:Str:=⟨#[100,117,112,50]⟩
noncomputable abbrev QH:Str:=⟨#[102]⟩
noncomputable abbrev U6:Str:=⟨#[103,101,116,105]⟩
noncomputable abbrev d5:Str:=⟨#[103,101,116,108]⟩
noncomputable abbrev N5:Str:=⟨#[103,111,101,115,32,111,110,32,98,101,121,111,110,100,32,116,104,101,32,114,111,119,115]⟩
noncomputable abbrev jx:Str:=⟨#[104]⟩
noncomputable abbrev RH:Str:=⟨#[105]⟩
noncomputable abbrev At:Str:=⟨#[105,110,116]⟩
noncomputable abbrev Z5:Str:=⟨#[105,115,108,105,115,116]⟩
noncomputable abbrev S4:Str:=⟨#[105,115,116,97,98,108,101]⟩
noncomputable abbrev A4:Str:=⟨#[106,117,109,112]⟩
noncomputable abbrev J1:Str:=⟨#[106,117,109,112,105,102]⟩
noncomputable abbrev G1:Str:=⟨#[106,117,109,112,110,105,108]⟩
noncomputable abbrev I6:Str:=⟨#[106,117,109,112,115,32,98,101,121,111,110,100,32,116,104,101,32,114,111,119,115]⟩
noncomputable abbrev U0:Str:=⟨#[106,117,109,112,117,110,108,101,115,115]⟩
noncomputable abbrev SH:Str:=⟨#[107]⟩
noncomputable abbrev lx:Str:=⟨#[108]⟩
noncomputable abbrev Bt:Str:=⟨#[108,97,109,98,100,97]⟩
noncomputable abbrev J0:Str:=⟨#[108,101,97,118,101]⟩
noncomputable abbrev qm:Str:=⟨#[108,105,115,116]⟩
noncomputable abbrev F3:Str:=⟨#[108,105,115,116,97,116]⟩
noncomputable abbrev G3:Str:=⟨#[108,105,115,116,102,105,116,115]⟩
noncomputable abbrev U9:Str:=⟨#[109,97,114,107,115]⟩
noncomputable abbrev J6:Str:=⟨#[109,101,116,104,111,100]⟩
noncomputable abbrev V6:Str:=⟨#[109,105,110,116]⟩
noncomputable abbrev Ct:Str:=⟨#[109,111,100,117,108,101]⟩
noncomputable abbrev TH:Str:=⟨#[110]⟩
noncomputable abbrev Dt:Str:=⟨#[110,105,108]⟩
noncomputable abbrev ua:Str:=⟨#[110,111,32,115,117,99,104,32,99,104,105,108,100]⟩
noncomputable abbrev Nc:Str:=⟨#[110,111,32,115,117,99,104,32,111,112]⟩
noncomputable abbrev Sa:Str:=⟨#[110,111,32,115,117,99,104,32,115,108,111,116]⟩
noncomputable abbrev cz:Str:=⟨#[111,100,100]⟩
noncomputable abbrev b6:Str:=⟨#[111,110,101]⟩
noncomputable abbrev qx:Str:=⟨#[111,116,104,101,114]⟩
noncomputable abbrev Lg:Str:=⟨#[111,117,116,115,105,100,101]⟩
noncomputable abbrev UH:Str:=⟨#[112]⟩
noncomputable abbrev UA:Str:=⟨#[112,108,104,116]⟩
noncomputable abbrev X6:Str:=⟨#[112,111,112]⟩
noncomputable abbrev e8:Str:=⟨#[112,117,98,108,105,99]⟩
noncomputable abbrev Q1:Str:=⟨#[112,117,115,104]⟩
noncomputable abbrev VH:Str:=⟨#[114]⟩
noncomputable abbrev Wh:Str:=⟨#[114,97,105,115,101]⟩
noncomputable abbrev rx:Str:=⟨#[114,97,110,103,101]⟩
noncomputable abbrev WH:Str:=⟨#[115]⟩
noncomputable abbrev Et:Str:=⟨#[115,99,108,97,115,115]⟩
noncomputable abbrev Wd:Str:=⟨#[115,99,111,112,101]⟩
noncomputable abbrev VA:Str:=⟨#[115,100,101,102]⟩
noncomputable abbrev Xh:Str:=⟨#[115,101,101,110]⟩
noncomputable abbrev D8:Str:=⟨#[115,101,108,102]⟩
noncomputable abbrev WA:Str:=⟨#[115,101,110,100]⟩
noncomputable abbrev V3:Str:=⟨#[115,101,116,108]⟩
noncomputable abbrev I3:Str:=⟨#[115,112,114,101,97,100,116,111]⟩
noncomputable abbrev ux:Str:=⟨#[115,117,112,101,114]⟩
noncomputable abbrev l7:Str:=⟨#[115,119,97,112]⟩
noncomputable abbrev w9:Str:=⟨#[115,121,109]⟩
noncomputable abbrev AF:Str:=⟨#[116]⟩
noncomputable abbrev Xd:Str:=⟨#[116,97,98,108,101]⟩
noncomputable abbrev A3:Str:=⟨#[116,97,98,108,101,97,116]⟩
noncomputable abbrev N2:Str:=⟨#[116,97,98,108,101,104,97,115]⟩
noncomputable abbrev V1:Str:=⟨#[116,97,98,108,101,111,110,108,121]⟩
noncomputable abbrev XA:Str:=⟨#[116,101,120,116]⟩
noncomputable abbrev Q2:Str:=⟨#[116,104,101,32,115,116,97,99,107,32,105,115,32,108,111,119,101,114,32,116,104,97,110,32,116,104,97,116,32,111,102,32,97,32,99,97,116,99,104]⟩
noncomputable abbrev n6:Str:=⟨#[116,104,101,32,115,116,97,99,107,32,105,115,32,116,111,111,32,108,111,119]⟩
noncomputable abbrev S3:Str:=⟨#[116,104,105,110,103]⟩
noncomputable abbrev E5:Str:=⟨#[116,117,99,107]⟩
noncomputable abbrev d6:Str:=⟨#[116,119,111]⟩
noncomputable abbrev uH:Str:=⟨#[117]⟩
noncomputable abbrev wo:Str:=⟨#[118]⟩
noncomputable abbrev mE:Str:=⟨#[118,118]⟩
noncomputable abbrev xC:Str:=⟨#[119]⟩
noncomputable abbrev dz:Str:=⟨#[119,97,121]⟩
noncomputable abbrev vH:Str:=⟨#[120]⟩
noncomputable abbrev x6:Str:=⟨#[32,97,110,100,32,111,102,32]⟩
noncomputable abbrev Ta:Str:=⟨#[58,32,111,112,101,114,97,110,100,32]⟩
noncomputable abbrev K6:Str:=⟨#[58,32,116,111,111,32,109,97,110,121,32,111,112,101,114,97,110,100,115]⟩
noncomputable abbrev y9:Str:=⟨#[64,97]⟩
noncomputable abbrev Oc:Str:=⟨#[64,98]⟩
noncomputable abbrev wH:Str:=⟨#[121]⟩
noncomputable abbrev Ft:Str:=⟨#[122,115,117,112,101,114]⟩
structure FD where
 ar:Nat
 df:List V
 body:S
 lo:Nat
noncomputable abbrev N0:E := .nil
noncomputable abbrev C1(a:E):E := .cons a .nil
noncomputable abbrev C2(a b:E):E := .cons a (.cons b .nil)
noncomputable abbrev C3(a b c:E):E := .cons a (.cons b (.cons c .nil))
noncomputable abbrev C4(a b c d:E):E := .cons a (.cons b (.cons c (.cons d .nil)))
noncomputable abbrev C5(a b c d e:E):E := .cons a (.cons b (.cons c (.cons d (.cons e .nil))))
noncomputable abbrev C6(a b c d e f:E):E := .cons a (.cons b (.cons c (.cons d (.cons e (.cons f .nil)))))
noncomputable abbrev LO(i:Nat):E := .loc i
noncomputable abbrev KN:E := .k .none
noncomputable abbrev KI(i:Int):E := .k (.int i)
noncomputable abbrev KS(s:Str):E := .k (.str s)
noncomputable abbrev KB(b:Bool):E := .k (.bool b)
noncomputable abbrev SU(a b:E):E := .op .sub (C2 a b)
noncomputable abbrev SJ(a:E)(i:Int):E := .op .sub (C2 a (KI i))
noncomputable abbrev AT(x:Nat)(a:E):E := .op (.attr x) (C1 a)
noncomputable abbrev LN(a:E):E := .op (.bf .len) (C1 a)
noncomputable abbrev II(a b:E):E := .op (.bf .isinst) (C2 a b)
noncomputable abbrev CP(o:Tk)(a b:E):E := .op (.cmp o) (C2 a b)
noncomputable abbrev BI(o:rC)(a b:E):E := .op (.bin o) (C2 a b)
noncomputable abbrev NO(a:E):E := .op .not (C1 a)
noncomputable abbrev CG(f:Nat)(l:E):E := .call (.gl f) l
noncomputable abbrev Q0:S := .nil
noncomputable abbrev QC(a b:S):S := .cons a b
noncomputable abbrev AS(i:Nat)(e:E):S := .asg (.loc i) e
noncomputable def sm:FD:=⟨6,[.none,.none,.none,.int 0],QC (.asg (.attr (LO 0) 0) (LO 1)) (QC (.asg (.attr (LO 0) 1) (LO 2)) (QC (.asg (.attr (LO 0) 2) (LO 3)) (QC (.asg (.attr (LO 0) 3) (LO 4)) (QC (.asg (.attr (LO 0) 4) (LO 5)) Q0)))),0⟩
noncomputable def Kj:FD:=⟨9,[],QC (.asg (.attr (LO 0) 5) (LO 1)) (QC (.asg (.attr (LO 0) 6) (LO 2)) (QC (.asg (.attr (LO 0) 7) (LO 3)) (QC (.asg (.attr (LO 0) 8) (LO 4)) (QC (.asg (.attr (LO 0) 9) (LO 5)) (QC (.asg (.attr (LO 0) 10) (LO 6)) (QC (.asg (.attr (LO 0) 11) (LO 7)) (QC (.asg (.attr (LO 0) 12) (LO 8)) (QC (.asg (.attr (LO 0) 13) KN) Q0)))))))),0⟩
noncomputable def Mf:FD:=⟨1,[],QC (.ret (.op .tup (C2 (BI .add (AT 1 (LO 0)) (KI 1)) (BI .add (AT 1 (LO 0)) (KI 2))))) Q0,0⟩
noncomputable def Lb:FD:=⟨1,[],QC (.ret (.op .tup (C2 (KI 1) (BI .add (BI .add (AT 1 (LO 0)) (.ite (CP .is (AT 2 (LO 0)) KN) (KI 0) (KI 1))) (AT 3 (LO 0)))))) Q0,0⟩
noncomputable def Lj:FD:=⟨1,[],QC (AS 1 (SU (.gc 10) (AT 0 (LO 0)))) (QC (.ret (.ite (II (LO 1) (.bl 10)) (LO 1) (.call (LO 1) (C1 (LO 0))))) Q0),0⟩
noncomputable def tm:FD:=⟨1,[],QC (.ret (.and (II (LO 0) (.bl 8)) (NO (II (LO 0) (.bl 9))))) Q0,0⟩
noncomputable def Yh:FD:=⟨3,[],QC (.ife (CP .isIn (LO 1) (.op .tup (C2 (KS TH) (KS AF)))) (QC (.ret (II (LO 2) (.bl 4))) Q0) Q0) (QC (.ife (CP .isIn (LO 1) (.op .tup (C2 (KS PH) (KS UH)))) (QC (.ret (.and (CG 24 (C1 (LO 2))) (CP .ge (LO 2) (KI 0)))) Q0) Q0) (QC (.ife (CP .eq (LO 1) (KS ra)) (QC (.ret (.and (CG 24 (C1 (LO 2))) (CP .ge (LO 2) (.op .neg (C1 (KI 1)))))) Q0) Q0) (QC (.ife (CP .eq (LO 1) (KS RH)) (QC (.ret (CG 24 (C1 (LO 2)))) Q0) Q0) (QC (.ife (CP .eq (LO 1) (KS QH)) (QC (.ret (II (LO 2) (.bl 9))) Q0) Q0) (QC (.ife (CP .eq (LO 1) (KS VH)) (QC (.ret (.or (CP .is (LO 2) KN) (CP .eq (LO 2) (KI 1)))) Q0) Q0) (QC (.ife (CP .eq (LO 1) (KS SH)) (QC (.ret (II (LO 2) (.op .tup (C2 (.bl 11) (.bl 10))))) Q0) Q0) (QC (.ife (CP .eq (LO 1) (KS OH)) (QC (.ret (CG 25 (C1 (LO 2)))) Q0) Q0) (QC (.ret (.ite (CP .eq (LO 1) (KS WH)) (CG 26 (C2 (LO 0) (LO 2))) (KB true))) Q0)))))))),0⟩
noncomputable def um:FD:=⟨1,[],QC (.ife (CP .eq (AT 0 (LO 0)) (KS Bt)) (QC (.ret (.op .tup (C2 (AT 1 (LO 0)) (KS T9)))) Q0) Q0) (QC (.ife (CP .isIn (AT 0 (LO 0)) (.op .tup (C2 (KS lE) (KS VA)))) (QC (.ret (.op .tup (C2 (AT 2 (LO 0)) (KS J6)))) Q0) Q0) (QC (.ife (CP .isIn (AT 0 (LO 0)) (.op .tup (C2 (KS Vh) (KS Ct)))) (QC (.ret (.op .tup (C2 (AT 2 (LO 0)) (KS Vh)))) Q0) Q0) (QC (.ife (CP .eq (AT 0 (LO 0)) (KS Et)) (QC (.ret (.op .tup (C2 (AT 1 (LO 0)) (KS Vh)))) Q0) Q0) (QC (AS 1 KN) (QC (.ife (CP .eq (AT 0 (LO 0)) (KS WA)) (QC (AS 1 (SJ (AT 3 (LO 0)) 1)) Q0) (QC (.ife (CP .eq (AT 0 (LO 0)) (KS ux)) (QC (AS 1 (AT 2 (LO 0))) Q0) (QC (.ife (CP .eq (AT 0 (LO 0)) (KS Ft)) (QC (AS 1 (AT 1 (LO 0))) Q0) Q0) Q0)) Q0)) (QC (.ret (.ite (II (LO 1) (.bl 10)) (.op .tup (C2 (SJ (LO 1) 1) (KS T9))) KN)) Q0)))))),0⟩
noncomputable def Hd:FD:=⟨3,[],QC (.asg (.attr (LO 0) 14) (LO 1)) (QC (.asg (.attr (LO 0) 15) (.ite (CP .eq (AT 5 (LO 1)) (KS T9)) (.op .lstar (C2 (LO 1) (LO 2))) (.op (.list .fz) (C1 (LO 1))))) (QC (.asg (.attr (LO 0) 16) (.op (.rep .pick) (C2 (.op (.list .fz) (C1 KN)) (LN (AT 9 (LO 1)))))) (QC (.asg (.attr (LO 0) 17) (.op (.list .pick) N0)) Q0))),0⟩
noncomputable def Pc:FD:=⟨4,[],QC (.ife (.or (NO (CG 24 (C1 (LO 1)))) (NO (.cmp2 .le .lt (KI 0) (LO 1) (LN (AT 9 (AT 14 (LO 0))))))) (QC (.expr (.meth 1 (LO 0) (C2 (LO 3) (KS N5)))) Q0) Q0) (QC (AS 4 (SU (AT 16 (LO 0)) (LO 1))) (QC (.ife (CP .is (LO 4) KN) (QC (.asg (.sub (AT 16 (LO 0)) (LO 1)) (LO 2)) (QC (.expr (.cm .append (AT 17 (LO 0)) (C1 (LO 1)))) Q0)) (QC (.ife (CP .ne (LO 4) (LO 2)) (QC (.expr (.meth 1 (LO 0) (C2 (LO 1) (BI .add (BI .add (BI .add (KS j4) (.op (.bf .str) (C1 (LO 4)))) (KS x6)) (.op (.bf .str) (C1 (LO 2))))))) Q0) Q0) Q0)) Q0)),0⟩
noncomputable def z9:FD:=⟨3,[],QC (.ife (.or (NO (II (LO 2) (.gl 0))) (.or (NO (II (AT 0 (LO 2)) (.bl 4))) (CP .nin (AT 0 (LO 2)) (.gc 10)))) (QC (.expr (.meth 1 (LO 0) (C2 (LO 1) (KS Nc)))) Q0) Q0) (QC (.asgs [.loc 3,.loc 4] (.op .tup (C2 (.cm .get2 (.gc 11) (C2 (AT 0 (LO 2)) (KS z_))) (.op .tup (C3 (AT 1 (LO 2)) (AT 2 (LO 2)) (AT 3 (LO 2))))))) (QC (.fr [5,6] true .enum (C1 (LO 3)) (QC (.ife (NO (CG 27 (C3 (LO 2) (LO 6) (SU (LO 4) (LO 5))))) (QC (.expr (.meth 1 (LO 0) (C2 (LO 1) (BI .add (BI .add (AT 0 (LO 2)) (KS Ta)) (.op (.bf .str) (C1 (LO 5))))))) Q0) Q0) Q0)) (QC (.ife (CP .ne (.comp 7 [] [7] false .val .fz (.op (.slLo .fz) (C2 (LO 4) (LN (LO 3)))) (LO 7) (CP .isn (LO 7) KN)) (.op (.list .fz) N0)) (QC (.expr (.meth 1 (LO 0) (C2 (LO 1) (BI .add (AT 0 (LO 2)) (KS K6))))) Q0) Q0) (QC (.ife (.and (CP .isIn (AT 0 (LO 2)) (.gc 1)) (CP .ge (AT 1 (LO 2)) (LN (AT 9 (AT 14 (LO 0)))))) (QC (.expr (.meth 1 (LO 0) (C2 (LO 1) (KS I6)))) Q0) Q0) Q0)))),4⟩
noncomputable def S8:FD:=⟨3,[],QC (.ife (.or (CP .ge (AT 1 (LO 2)) (LN (AT 15 (LO 0)))) (CP .ge (AT 2 (LO 2)) (LN (AT 8 (SU (AT 15 (LO 0)) (AT 1 (LO 2))))))) (QC (.expr (.meth 1 (LO 0) (C2 (LO 1) (KS Sa)))) Q0) Q0) Q0,0⟩
noncomputable def T8:FD:=⟨3,[],QC (AS 3 (CG 28 (C1 (LO 2)))) (QC (.ife (CP .isn (LO 3) KN) (QC (.asgs [.loc 4,.loc 5] (LO 3)) (QC (.ife (.or (NO (.cmp2 .le .lt (KI 0) (LO 4) (LN (AT 11 (AT 14 (LO 0)))))) (CP .ne (AT 5 (SU (AT 11 (AT 14 (LO 0))) (LO 4))) (LO 5))) (QC (.expr (.meth 1 (LO 0) (C2 (LO 1) (KS ua)))) Q0) Q0) Q0)) Q0) Q0),0⟩
noncomputable def M8:FD:=⟨2,[],QC (.asgs [.loc 2,.loc 3] (.op .tup (C2 (SU (AT 9 (AT 14 (LO 0))) (LO 1)) (SU (AT 16 (LO 0)) (LO 1))))) (QC (.asgs [.loc 4,.loc 5] (CG 23 (C1 (LO 2)))) (QC (.ife (CP .lt (LO 3) (LO 4)) (QC (.expr (.meth 1 (LO 0) (C2 (LO 1) (KS n6)))) Q0) Q0) (QC (.ife (CP .isIn (AT 0 (LO 2)) (.gc 1)) (QC (.expr (.meth 2 (LO 0) (C3 (AT 1 (LO 2)) (BI .add (BI .sub (LO 3) (LO 4)) (LO 5)) (LO 1)))) Q0) Q0) (QC (.ife (CP .nin (AT 0 (LO 2)) (.gc 2)) (QC (.expr (.meth 2 (LO 0) (C3 (BI .add (LO 1) (KI 1)) (BI .add (BI .sub (LO 3) (LO 4)) (LO 5)) (LO 1)))) Q0) Q0) (QC (.fr [6] false .val (AT 10 (AT 14 (LO 0))) (QC (.ife .dead (QC (.ife (CP .lt (LO 3) .dead) (QC (.expr (.meth 1 (LO 0) (C2 (LO 1) (KS Q2)))) Q0) Q0) (QC (.expr (.meth 2 (LO 0) (C3 .dead (BI .add .dead (KI 1)) (LO 1)))) Q0)) Q0) Q0)) Q0))))),0⟩
noncomputable def g8:FD:=⟨1,[],QC (.fr [1] false .val (AT 10 (AT 14 (LO 0))) (QC (AS 2 (LN (AT 9 (AT 14 (LO 0))))) (QC (AS 3 (.ite (II (LO 1) .dead) (.op (.list .fz) (C4 .dead .dead .dead .dead)) (.op (.list .fz) (C1 KN)))) (QC (.ife (.or (CP .isIn (KB false) (.comp 4 [] [4] false .val .fz (LO 3) (CG 24 (C1 (LO 4))) (KB true))) (.or (CP .nin (AT 26 (LO 1)) (.gc 7)) (NO .dead))) (QC .dead Q0) Q0) (QC (.ife (.or (NO (.cmp2 .le .lt (KI 0) .dead (LO 2))) (CP .lt .dead (KI 0))) (QC .dead Q0) Q0) Q0))))) Q0,0⟩
noncomputable def J3:FD:=⟨1,[],QC (.ife (.or (CP .nin (AT 5 (AT 14 (LO 0))) (.gc 0)) (CP .eq (LN (AT 12 (AT 14 (LO 0)))) (KI 0))) (QC .dead Q0) Q0) (QC (.fr [1,2] true .enum (C1 (AT 9 (AT 14 (LO 0)))) (QC (.expr (.meth 3 (LO 0) (C2 (LO 1) (LO 2)))) (QC (.ife (CP .isIn (AT 0 (LO 2)) (.op .tup (C2 (KS d5) (KS V3)))) (QC (.expr (.meth 4 (LO 0) (C2 (LO 1) (LO 2)))) Q0) Q0) (QC (.expr (.meth 5 (LO 0) (C2 (LO 1) (LO 2)))) Q0)))) (QC (.expr (.meth 7 (LO 0) N0)) (QC (.fr [3] false .val (AT 12 (AT 14 (LO 0))) (QC (.expr (.meth 2 (LO 0) (C3 (LO 3) (KI 0) (LO 3)))) Q0)) (QC (.whl (CP .gt (LN (AT 17 (LO 0))) (KI 0)) (QC (.expr (.meth 6 (LO 0) (C1 (.cm .pop0 (AT 17 (LO 0)) N0)))) Q0)) Q0)))),3⟩
noncomputable def Zh:FD:=⟨2,[.a .tup []],QC (AS 2 (CG 2 (C2 (LO 0) (LO 1)))) (QC (.ife (CP .ne (.comp 4 [] [4] false .val .fz (AT 11 (LO 0)) (LO 4) (NO (II (LO 4) (.gl 1)))) (.op (.list .fz) N0)) (QC .dead Q0) Q0) (QC (.expr (.meth 8 (LO 2) N0)) (QC (.fr [3] false .val (AT 11 (LO 0)) (QC (.expr (CG 29 (C2 (LO 3) (.ite (CP .eq (AT 5 (LO 3)) (KS T9)) (AT 15 (LO 2)) (.op .tup N0))))) Q0)) (QC (.ret (AT 16 (LO 2))) Q0)))),0⟩
noncomputable def ai:FD:=⟨3,[],QC (.asg (.attr (LO 0) 13) (LO 1)) (QC (.asg (.attr (LO 0) 18) (LO 2)) (QC (.asg (.attr (LO 0) 19) (.op (.ds [] .fz) N0)) (QC (.asg (.attr (LO 0) 20) KN) (QC (.asg (.attr (LO 0) 21) (KB false)) (QC (.asg (.attr (LO 0) 22) KN) Q0))))),0⟩
noncomputable def Mj:FD:=⟨4,[.str z_],QC (.expr (.cmeth 3 0 (C3 (LO 0) (LO 1) (LO 2)))) (QC (.asg (.attr (LO 0) 23) (LO 3)) Q0),0⟩
noncomputable def Qc:FD:=⟨4,[.none],QC (.expr (.cmeth 3 0 (C3 (LO 0) (LO 1) (LO 2)))) (QC (.asg (.attr (LO 0) 24) (.ite (CP .is (LO 3) KN) (.op (.list .fz) N0) (LO 3))) Q0),0⟩
noncomputable def Mb:FD:=⟨3,[],QC (.expr (.cmeth 3 0 (C3 (LO 0) (LO 1) (LO 2)))) (QC (.asg (.attr (LO 0) 9) (.op (.dt .pick) N0)) (QC (.asg (.attr (LO 0) 25) KN) Q0)),0⟩
noncomputable def Rc:FD:=⟨3,[],QC (AS 3 (CG 33 (C1 (LO 1)))) (QC (AS 4 (.cm .get1 (AT 9 (LO 0)) (C1 (LO 3)))) (QC (.ife (CP .is (LO 4) KN) (QC (.asg (.sub (AT 9 (LO 0)) (LO 3)) (.op (.list .fz) (C2 (LO 1) (LO 2)))) Q0) (QC (.asg (.sub (LO 4) (KI 1)) (LO 2)) Q0)) Q0)),0⟩
noncomputable def Sc:FD:=⟨2,[],QC (.ret (.cm .get1 (AT 9 (LO 0)) (C1 (CG 33 (C1 (LO 1)))))) Q0,0⟩
noncomputable def Ua:FD:=⟨1,[],QC (.ret (.comp 1 [] [1] false .vals .fz (AT 9 (LO 0)) (.op .tup (C2 (SJ (LO 1) 0) (SJ (LO 1) 1))) (KB true))) Q0,0⟩
noncomputable def wx:FD:=⟨1,[],QC (.ife (II (LO 0) (.bl 9)) (QC (.ret (LO 0)) Q0) Q0) (QC (.ret (CP .isn (LO 0) KN)) Q0),0⟩
noncomputable def lq:FD:=⟨1,[],QC (.ife (CP .is (LO 0) KN) (QC (.ret (KS Dt)) Q0) Q0) (QC (.ife (II (LO 0) (.bl 9)) (QC (.ret (KS TA)) Q0) Q0) (QC (.ife (II (LO 0) (.bl 8)) (QC (.ret (KS At)) Q0) Q0) (QC (.ret (.ite (II (LO 0) (.bl 4)) (KS w9) (KS S3))) Q0))),0⟩
noncomputable def mq:FD:=⟨3,[.int 12,.none],QC (AS 3 (CG 31 (C1 (LO 0)))) (QC (.ife (CP .ne (LO 3) (KS S3)) (QC (.ret (.op .tup (C2 (LO 3) (LO 0)))) Q0) Q0) (QC (.ife (II (LO 0) (.gl 4)) (QC (.ret (.op .tup (C2 (KS XA) (AT 23 (LO 0))))) Q0) Q0) (QC (AS 2 (.ite (CP .is (LO 2) KN) (.op (.list .fz) (C1 (.gc 9))) (LO 2))) (QC (.ife (.and (CP .gt (LO 1) (KI 0)) (.and (II (LO 0) (.gl 5)) (CG 32 (C2 (LO 2) (LN (AT 24 (LO 0))))))) (QC (.ret (.op .tup (C2 (KS qm) (.call (.bl 10) (C1 (.comp 5 [1,2] [5] false .val .fz (AT 24 (LO 0)) (CG 33 (C3 (LO 5) (BI .sub (LO 1) (KI 1)) (LO 2))) (KB true))))))) Q0) Q0) (QC (.ife (.and (CP .gt (LO 1) (KI 0)) (.and (II (LO 0) (.gl 6)) (CG 32 (C2 (LO 2) (BI .mul (KI 2) (LN (AT 9 (LO 0)))))))) (QC (AS 4 (.comp 5 [1,2] [5,6] true .val .fz (.meth 11 (LO 0) N0) (.op .tup (C2 (CG 33 (C3 (LO 5) (BI .sub (LO 1) (KI 1)) (LO 2))) (CG 33 (C3 (LO 6) (BI .sub (LO 1) (KI 1)) (LO 2))))) (KB true))) (QC (.ret (.op .tup (C2 (KS Xd) (.call .dead (C1 (LO 4)))))) Q0)) Q0) (QC (.ife (.and (CP .gt (LO 1) (KI 0)) (.and (II (LO 0) .dead) (CG 32 (C2 (LO 2) (KI 2))))) (QC (.ret (.op .tup (C4 (KS rx) (CG 33 (C3 .dead (BI .sub (LO 1) (KI 1)) (LO 2))) (CG 33 (C3 .dead (BI .sub (LO 1) (KI 1)) (LO 2))) .dead))) Q0) Q0) (QC (.ret (.op .tup (C2 (KS S3) (AT 13 (LO 0))))) Q0))))))),0⟩
noncomputable def vm:FD:=⟨4,[.none],QC (.asg (.attr (LO 0) 26) (LO 1)) (QC (.asg (.attr (LO 0) 27) (LO 2)) (QC (.asg (.attr (LO 0) 28) (LO 3)) Q0)),0⟩
noncomputable def bi:FD:=⟨3,[.none],QC (.asg (.attr (LO 0) 8) (LO 1)) (QC (.asg (.attr (LO 0) 29) (LO 2)) Q0),0⟩
noncomputable def wm:FD:=⟨2,[],QC (AS 2 (LO 0)) (QC (.fr [3] false .range (C1 (LO 1)) (QC (AS 2 (AT 29 (LO 2))) Q0)) (QC (.ret (LO 2)) Q0)),0⟩
noncomputable def Nj:FD:=⟨10,[.bool false],QC (.asg (.attr (LO 0) 30) (LO 1)) (QC (.asg (.attr (LO 0) 31) (LO 2)) (QC (.asg (.attr (LO 0) 32) (LO 3)) (QC (.asg (.attr (LO 0) 33) (LO 4)) (QC (.asg (.attr (LO 0) 13) (LO 5)) (QC (.asg (.attr (LO 0) 34) (LO 6)) (QC (.asg (.attr (LO 0) 35) (LO 7)) (QC (.asg (.attr (LO 0) 26) (LO 8)) (QC (.asg (.attr (LO 0) 36) (LO 9)) (QC (.asg (.attr (LO 0) 37) (KS e8)) (QC (.asg (.attr (LO 0) 38) (.ite (CP .eq (LO 8) (KS J6)) KN (LO 0))) Q0)))))))))),0⟩
noncomputable def ci:FD:=⟨6,[],QC (.asg (.attr (LO 0) 14) (LO 1)) (QC (.asg (.attr (LO 0) 39) (LO 2)) (QC (.asg (.attr (LO 0) 40) (LO 3)) (QC (.asg (.attr (LO 0) 38) (LO 4)) (QC (.asg (.attr (LO 0) 41) (LO 5)) (QC (.asg (.attr (LO 0) 13) KN) (QC (.asg (.attr (LO 0) 42) KN) (QC (.asg (.attr (LO 0) 43) KN) (QC (.asg (.attr (LO 0) 44) KN) (QC (.asg (.attr (LO 0) 45) KN) (QC (.asg (.attr (LO 0) 28) KN) (QC (.asg (.attr (LO 0) 37) (KS e8)) Q0))))))))))),0⟩
noncomputable def nq:FD:=⟨3,[],QC (.expr (.cm .append (AT 40 (LO 1)) (C1 (AT 1 (LO 2))))) Q0,0⟩
noncomputable def Ht:FD:=⟨3,[],QC (.expr (.cm .pop0 (AT 40 (LO 1)) N0)) Q0,0⟩
noncomputable def It:FD:=⟨3,[],QC (.expr (.cm .append (AT 40 (LO 1)) (C1 (SU (AT 40 (LO 1)) (.op .neg (C1 (KI 1))))))) Q0,0⟩
noncomputable def oq:FD:=⟨3,[],QC (.expr (.cm .extend (AT 40 (LO 1)) (C1 (.op (.slLo .fz) (C2 (AT 40 (LO 1)) (.op .neg (C1 (KI 2)))))))) Q0,0⟩
noncomputable def pq:FD:=⟨3,[],QC (.asgs [.loc 3,.loc 4] (.op .tup (C2 (.cm .pop0 (AT 40 (LO 1)) N0) (.cm .pop0 (AT 40 (LO 1)) N0)))) (QC (.expr (.cm .extend (AT 40 (LO 1)) (C1 (.op (.list .fz) (C2 (LO 3) (LO 4)))))) Q0),0⟩
noncomputable def qq:FD:=⟨3,[],QC (.expr (.cm .insert (AT 40 (LO 1)) (C2 (BI .sub (BI .sub (LN (AT 40 (LO 1))) (KI 1)) (AT 1 (LO 2))) (SU (AT 40 (LO 1)) (.op .neg (C1 (KI 1))))))) Q0,0⟩
noncomputable def rq:FD:=⟨3,[],QC (.expr (.cm .append (AT 40 (LO 1)) (C1 (AT 30 (AT 41 (LO 1)))))) Q0,0⟩
noncomputable def sq:FD:=⟨3,[],QC (.expr (.cm .append (AT 40 (LO 1)) (C1 (SU (AT 8 (.meth 12 (AT 38 (LO 1)) (C1 (AT 1 (LO 2))))) (AT 2 (LO 2)))))) Q0,0⟩
noncomputable def tq:FD:=⟨3,[],QC (.asg (.sub (AT 8 (.meth 12 (AT 38 (LO 1)) (C1 (AT 1 (LO 2))))) (AT 2 (LO 2))) (.cm .pop0 (AT 40 (LO 1)) N0)) Q0,0⟩
noncomputable def uq:FD:=⟨3,[],QC (AS 3 (AT 30 (AT 41 (LO 1)))) (QC (.expr (.cm .append (AT 40 (LO 1)) (C1 (.ite (II (LO 3) (.gl 3)) (.cm .get1 (AT 19 (LO 3)) (C1 (AT 1 (LO 2)))) KN)))) Q0),0⟩
noncomputable def vq:FD:=⟨3,[],QC (.asg (.attr (LO 1) 39) (AT 1 (LO 2))) Q0,0⟩
noncomputable def Oj:FD:=⟨3,[],QC (.ife (CG 30 (C1 (.cm .pop0 (AT 40 (LO 1)) N0))) (QC (.asg (.attr (LO 1) 39) (AT 1 (LO 2))) Q0) Q0) Q0,0⟩
noncomputable def Id:FD:=⟨3,[],QC (.ife (NO (CG 30 (C1 (.cm .pop0 (AT 40 (LO 1)) N0)))) (QC (.asg (.attr (LO 1) 39) (AT 1 (LO 2))) Q0) Q0) Q0,0⟩
noncomputable def di:FD:=⟨3,[],QC (.ife (CP .is (SU (AT 40 (LO 1)) (.op .neg (C1 (KI 1)))) KN) (QC (.asg (.attr (LO 1) 39) (AT 1 (LO 2))) Q0) Q0) Q0,0⟩
noncomputable def Pj:FD:=⟨3,[],QC (.expr (.cm .append (AT 40 (LO 1)) (C1 (AT 27 (.cm .pop0 (AT 40 (LO 1)) N0))))) Q0,0⟩
noncomputable def yd:FD:=⟨3,[],QC (.expr (.cm .append (AT 40 (LO 1)) (C1 (II (.cm .pop0 (AT 40 (LO 1)) N0) (.gl 5))))) Q0,0⟩
noncomputable def Nb:FD:=⟨3,[],QC (.expr (.cm .append (AT 40 (LO 1)) (C1 (II (.cm .pop0 (AT 40 (LO 1)) N0) (.gl 6))))) Q0,0⟩
noncomputable def Jt:FD:=⟨4,[],QC (AS 4 (.comp 8 [0] [8] false .range .fz (C1 (LO 1)) (.ite (CP .lt (LO 8) (LN (LO 0))) (SU (LO 0) (LO 8)) KN) (KB true))) (QC (AS 5 (.ite (LO 2) (.op (.slBoth .fz) (C3 (LO 0) (LO 1) (.op (.bf .max2) (C2 (LO 1) (BI .sub (LN (LO 0)) (LO 3)))))) (.op (.list .fz) N0))) (QC (AS 6 (.ite (LO 2) (BI .add (LO 1) (LN (LO 5))) (LO 1))) (QC (AS 7 (.comp 8 [0] [8] false .range2 .fz (C2 (LO 6) (BI .add (LO 6) (LO 3))) (.ite (CP .lt (LO 8) (LN (LO 0))) (SU (LO 0) (LO 8)) KN) (KB true))) (QC (.ret (.op .tup (C3 (LO 4) (LO 5) (LO 7)))) Q0)))),0⟩
noncomputable def Nf:FD:=⟨3,[],QC (AS 3 (CP .isn (AT 2 (LO 2)) KN)) (QC (.asgs [.loc 4,.loc 5,.loc 6] (CG 51 (C4 (AT 24 (.cm .pop0 (AT 40 (LO 1)) N0)) (AT 1 (LO 2)) (LO 3) (AT 3 (LO 2))))) (QC (.expr (.cm .extend (AT 40 (LO 1)) (C1 (.op .rev (C1 (LO 6)))))) (QC (.ife (LO 3) (QC (.expr (.cm .append (AT 40 (LO 1)) (C1 .dead))) Q0) Q0) (QC (.expr (.cm .extend (AT 40 (LO 1)) (C1 (.op .rev (C1 (LO 4)))))) Q0)))),0⟩
noncomputable def Of:FD:=⟨3,[],QC (AS 3 (LN (AT 24 (.cm .pop0 (AT 40 (LO 1)) N0)))) (QC (.expr (.cm .append (AT 40 (LO 1)) (C1 (.ite (AT 2 (LO 2)) (CP .eq (LO 3) (AT 1 (LO 2))) (CP .ge (LO 3) (AT 1 (LO 2))))))) Q0),0⟩
noncomputable def Qj:FD:=⟨3,[],QC (AS 3 (AT 24 (.cm .pop0 (AT 40 (LO 1)) N0))) (QC (AS 4 (.ite (CP .ge (AT 1 (LO 2)) (KI 0)) (AT 1 (LO 2)) (BI .add (AT 1 (LO 2)) (LN (LO 3))))) (QC (.expr (.cm .append (AT 40 (LO 1)) (C1 (.ite (.cmp2 .le .lt (KI 0) (LO 4) (LN (LO 3))) (SU (LO 3) (LO 4)) KN)))) Q0)),0⟩
noncomputable def Pf:FD:=⟨3,[],QC (.expr (.cm .append (AT 40 (LO 1)) (C1 (CP .isn (.meth 10 (.cm .pop0 (AT 40 (LO 1)) N0) (C1 (AT 1 (LO 2)))) KN)))) Q0,0⟩
noncomputable def fi:FD:=⟨3,[],QC (AS 3 (.meth 10 (.cm .pop0 (AT 40 (LO 1)) N0) (C1 (AT 1 (LO 2))))) (QC (.expr (.cm .append (AT 40 (LO 1)) (C1 (.ite (CP .is (LO 3) KN) KN (SJ (LO 3) 1))))) Q0),0⟩
noncomputable def Qf:FD:=⟨2,[],QC (AS 2 (.comp 3 [] [3] false .val .fz (LO 1) (CG 33 (C1 (LO 3))) (KB true))) (QC (.ret (.comp 3 [2] [3,4] true .val .fz (.meth 11 (LO 0) N0) (.op .tup (C2 (LO 3) (LO 4))) (CP .nin (CG 33 (C1 (LO 3))) (LO 2)))) Q0),0⟩
noncomputable def We:FD:=⟨3,[],QC (.expr (.cm .append (AT 40 (LO 1)) (C1 (CP .eq (LN (CG 57 (C2 (.cm .pop0 (AT 40 (LO 1)) N0) (AT 1 (LO 2))))) (KI 0))))) Q0,0⟩
noncomputable def wq:FD:=⟨0,[],QC (.ret (.op (.ds [Q1,X6,t9,C8,l7,E5,D8,d5,V3,U6,A4,J1,G1,U0,Y5,Z5,S4,I3,G3,F3,N2,A3,V1] .fz) (.cons (.gl 34) (.cons (.gl 35) (.cons (.gl 36) (.cons (.gl 37) (.cons (.gl 38) (.cons (.gl 39) (.cons (.gl 40) (.cons (.gl 41) (.cons (.gl 42) (.cons (.gl 43) (.cons (.gl 44) (.cons (.gl 45) (.cons (.gl 47) (.cons (.gl 46) (.cons (.gl 48) (.cons (.gl 49) (.cons (.gl 50) (C6 (.gl 52) (.gl 53) (.gl 54) (.gl 55) (.gl 56) (.gl 58))))))))))))))))))))) Q0,0⟩
noncomputable def Xe:FD:=⟨0,[],QC (.ret (.op (.list .fz) (.cons (KS E5) (.cons (KS t9) (.cons (KS V3) (.cons (KS C8) (.cons (KS I3) (.cons (KS l7) (.cons (KS Z5) (.cons (KS d5) (.cons (KS G3) (.cons (KS A3) (.cons (KS X6) (.cons (KS Q1) (.cons (KS F3) (C6 (KS N2) (KS S4) (KS D8) (KS V1) (KS U6) (KS Y5))))))))))))))))) Q0,0⟩
noncomputable def Rj:FD:=⟨0,[],QC (.ret (.op (.list .fz) (C4 (KS G1) (KS J1) (KS A4) (KS U0)))) Q0,0⟩
noncomputable def Sj:FD:=⟨0,[],QC (.ret (.op (.ds [Q1,X6,t9,C8,l7,D8,d5,V3,U6,A4,J1,U0,G1,Y5,Z5,S4,G3,F3,N2,A3,V1,J0] .fz) (.cons (.op .tup (C2 (KS z_) (KI 1))) (.cons (.op .tup (C2 (KS wo) (KI 0))) (.cons (.op .tup (C2 (KS wo) (KI 2))) (.cons (.op .tup (C2 (KS mE) (KI 4))) (.cons (.op .tup (C2 (KS mE) (KI 2))) (.cons (.op .tup (C2 (KS z_) (KI 1))) (.cons (.op .tup (C2 (KS z_) (KI 1))) (.cons (.op .tup (C2 (KS wo) (KI 0))) (.cons (.op .tup (C2 (KS z_) (KI 1))) (.cons (.op .tup (C2 (KS z_) (KI 0))) (.cons (.op .tup (C2 (KS wo) (KI 0))) (.cons (.op .tup (C2 (KS wo) (KI 0))) (.cons (.op .tup (C2 (KS wo) (KI 1))) (.cons (.op .tup (C2 (KS xC) (KI 1))) (.cons (.op .tup (C2 (KS wo) (KI 1))) (.cons (.op .tup (C2 (KS wo) (KI 1))) (C6 (.op .tup (C2 (KS lx) (KI 1))) (.op .tup (C2 (KS lx) (KI 1))) (.op .tup (C2 (KS jx) (KI 1))) (.op .tup (C2 (KS jx) (KI 1))) (.op .tup (C2 (KS jx) (KI 1))) (.op .tup (C2 (KS wo) (KI 0)))))))))))))))))))))) Q0,0⟩
noncomputable def z6:FD:=⟨1,[],QC (.asgs [.loc 1,.loc 2] (.op .tup (C2 (KI 0) (KI 1)))) (QC (.fr [3] false .val (.op (.slHi .fz) (C2 (LO 0) (KI 24))) (QC (.ife (.and (CP .eq (LO 1) (KI 0)) (CP .ge (LO 3) (BI .pow (KI 10) (KI 18)))) (QC (AS 1 (BI .mod (BI .sub (LO 3) (BI .pow (KI 10) (KI 18))) (BI .pow (KI 10) (KI 90)))) Q0) Q0) (QC (AS 2 (BI .mod (BI .add (BI .add (BI .mul (LO 2) (KI 1009)) (BI .mul (LO 3) (KI 31))) (KI 17)) (KI 10007))) Q0))) (QC (.ret (.op (.list .pick) (C4 (LO 1) (LO 2) (KI 0) (.or (CP .eq (LO 0) (.op (.list .fz) N0)) (.and (CP .eq (LN (LO 0)) (KI 1)) (CP .lt (.op (.bf .abs) (C1 (SJ (LO 0) 0))) (KI 10))))))) Q0)),3⟩
noncomputable def xm:FD:=⟨2,[],QC (.ife (CP .gt (SJ (LO 0) 0) (KI 0)) (QC (AS 2 (BI .mod (SJ (LO 0) 0) (LO 1))) (QC (.asg (.sub (LO 0) (KI 0)) (BI .fdiv (SJ (LO 0) 0) (LO 1))) (QC (.ret (LO 2)) Q0))) Q0) (QC (.asg (.sub (LO 0) (KI 2)) (BI .add (SJ (LO 0) 2) (KI 1))) (QC (.ret (BI .mod (BI .mod (BI .add (BI .mul (SJ (LO 0) 1) (BI .add (BI .add (BI .mul (SJ (LO 0) 2) (SJ (LO 0) 2)) (BI .mul (KI 3) (SJ (LO 0) 2))) (KI 7))) (BI .mul (KI 11) (SJ (LO 0) 2))) (KI 10007)) (LO 1))) Q0)),0⟩
noncomputable def Tj:FD:=⟨1,[],QC (.ret (SU (.op (.list .fz) (.cons (KI 0) (C6 KN (KI 7) (KB true) (KS w9) (KB false) (.op .neg (C1 (KI 3)))))) (CG 64 (C2 (LO 0) (KI 7))))) Q0,0⟩
noncomputable def Mg:FD:=⟨1,[],QC (.ife (CP .eq (SJ (LO 0) 0) (KS E5)) (QC (.ret (.op .tup (C2 (BI .mul (KS wo) (BI .add (SJ (LO 0) 1) (KI 1))) (BI .add (SJ (LO 0) 1) (KI 2))))) Q0) Q0) (QC (.ret (.ite (CP .eq (SJ (LO 0) 0) (KS I3)) (.op .tup (C2 (KS lx) (BI .add (SJ (LO 0) 1) (SJ (LO 0) 3)))) (SU (CG 62 N0) (SJ (LO 0) 0)))) Q0),0⟩
noncomputable def A9:FD:=⟨2,[],QC (.ife (CP .isIn (LO 1) (.op (.list .fz) (C2 (KS d5) (KS V3)))) (QC (.ret (.op (.list .fz) (C4 (LO 1) (CG 64 (C2 (LO 0) (KI 2))) (CG 64 (C2 (LO 0) (KI 2))) KN))) Q0) Q0) (QC (.ife (CP .eq (LO 1) (KS I3)) (QC (.ret (.op (.list .fz) (C4 (LO 1) (CG 64 (C2 (LO 0) (KI 3))) KN (CG 64 (C2 (LO 0) (KI 3)))))) Q0) Q0) (QC (.ife (CP .eq (LO 1) (KS G3)) (QC (.ret (.op (.list .fz) (C4 (LO 1) (CG 64 (C2 (LO 0) (KI 3))) (CP .eq (CG 64 (C2 (LO 0) (KI 2))) (KI 1)) KN))) Q0) Q0) (QC (.ife (CP .eq (LO 1) (KS Q1)) (QC (.ret (.op (.list .fz) (C4 (LO 1) (CG 65 (C1 (LO 0))) KN KN))) Q0) Q0) (QC (AS 2 (.op (.ds [E5,U6,F3,V1,N2,A3] .fz) (C6 (.op (.list .fz) (C3 (KI 1) (KI 2) (KI 0))) (.op (.list .fz) (C2 (KS y9) (KS Oc))) (.op (.list .fz) (C5 (KI 0) (.op .neg (C1 (KI 1))) (KI 1) (.op .neg (C1 (KI 2))) (KI 2))) (.op (.list .fz) (C3 (.op (.list .fz) (C1 (KS ra))) (.op (.list .fz) N0) (.op (.list .fz) (C2 (KI 1) (KS ra))))) (.op (.list .fz) (C3 (KI 1) (KS ra) KN)) (.op (.list .fz) (C3 (KI 1) (KS ra) KN))))) (QC (AS 3 (.cm .get2 (LO 2) (C2 (LO 1) (.ite (CP .isIn (LO 1) (CG 61 N0)) (.op (.list .fz) (C3 (KI 5) (KI 7) (KI 9))) (.op (.list .fz) (C1 KN)))))) (QC (.ret (.op (.list .fz) (C4 (LO 1) (SU (LO 3) (CG 64 (C2 (LO 0) (LN (LO 3))))) KN KN))) Q0)))))),0⟩
noncomputable def Va:FD:=⟨3,[],QC (.asg (.sub (LO 1) (KS V6)) (BI .add (SU (LO 1) (KS V6)) (KI 1))) (QC (.ife (CP .eq (LO 2) (KS wo)) (QC (AS 2 (SU (KS UA) (CG 64 (C2 (LO 0) (KI 4))))) Q0) Q0) (QC (.ife (CP .eq (LO 2) (KS lx)) (QC (.ret (CG 5 (C3 (SU (LO 1) (KS V6)) KN (.comp 5 [0] [5] false .range .fz (C1 (CG 64 (C2 (LO 0) (KI 4)))) (CG 65 (C1 (LO 0))) (KB true))))) Q0) Q0) (QC (.ife (CP .eq (LO 2) (KS jx)) (QC (AS 3 (CG 6 (C2 (SU (LO 1) (KS V6)) KN))) (QC (.fr [4] false .val (.op (.slHi .fz) (C2 (.op (.list .fz) (C3 (KI 1) (KS ra) KN)) (CG 64 (C2 (LO 0) (KI 4))))) (QC (.expr (.meth 9 (LO 3) (C2 (LO 4) (CG 65 (C1 (LO 0)))))) Q0)) (QC (.ret (LO 3)) Q0))) Q0) (QC (.ife (CP .eq (LO 2) (KS xC)) (QC (.ret (CG 7 (C2 (KS Wh) (CG 65 (C1 (LO 0)))))) Q0) Q0) (QC (.ret (.ite (CP .eq (LO 2) (KS AF)) (CG 4 (C3 (SU (LO 1) (KS V6)) KN (KS AF))) (CG 65 (C1 (LO 0))))) Q0))))),0⟩
noncomputable def zd:FD:=⟨4,[],QC (.asg (.sub (LO 0) (KS V6)) (BI .add (SU (LO 0) (KS V6)) (KI 1))) (QC (.ife (.or (.and (CP .eq (LO 1) (KS G1)) (CP .isn (LO 3) KN)) (.and (CP .isIn (LO 1) (.op (.list .fz) (C2 (KS J1) (KS U0)))) (CG 70 (C2 (KS J1) (.op (.list .fz) (C1 (LO 3))))))) (QC (.ret KN) Q0) Q0) (QC (.ife (CP .eq (LO 2) (KS lx)) (QC (.ret (CG 5 (C3 (SU (LO 0) (KS V6)) KN (.op (.list .fz) (C1 (.op .neg (C1 (KI 50)))))))) Q0) Q0) (QC (.ife (CP .eq (LO 2) (KS jx)) (QC (AS 4 (CG 6 (C2 (SU (LO 0) (KS V6)) KN))) (QC (.expr (.meth 9 (LO 4) (C2 (KS ra) (.op .neg (C1 (KI 50)))))) (QC (.ret (LO 4)) Q0))) Q0) (QC (.ret (.ite (CP .eq (LO 2) (KS xC)) (CG 7 (C2 (KS Wh) (.op .neg (C1 (KI 50))))) (CG 4 (C3 (SU (LO 0) (KS V6)) KN (KS qx))))) Q0)))),0⟩
noncomputable def ym:FD:=⟨2,[],QC (AS 2 (.and (CP .ne (LO 1) (.op (.list .fz) N0)) (CP .is (SJ (LO 1) 0) KN))) (QC (AS 3 (.and (CP .ne (LO 1) (.op (.list .fz) N0)) (.and (II (SJ (LO 1) 0) (.bl 9)) (NO (SJ (LO 1) 0))))) (QC (.ret (.cm .get2 (.op (.ds [A4,G1,J1,U0] .fz) (C4 (KB true) (LO 2) (.and (NO (LO 2)) (NO (LO 3))) (.or (LO 2) (LO 3)))) (C2 (LO 0) (KB false)))) Q0)),0⟩
noncomputable def zm:FD:=⟨1,[],QC (.ife (II (LO 0) (.gl 5)) (QC (.ret (.op (.list .fz) (C3 (KS qm) (AT 13 (LO 0)) (.comp 1 [] [1] false .val .fz (AT 24 (LO 0)) (.op (.bf .repr) (C1 (LO 1))) (KB true))))) Q0) Q0) (QC (.ife (II (LO 0) (.gl 6)) (QC (.ret (.op (.list .fz) (C3 (KS Xd) (AT 13 (LO 0)) (.comp 1 [] [1,2] true .val .fz (.meth 11 (LO 0) N0) (.op (.list .fz) (C2 (.op (.bf .repr) (C1 (LO 1))) (.op (.bf .repr) (C1 (LO 2))))) (KB true))))) Q0) Q0) (QC (.ife (II (LO 0) (.gl 7)) (QC (.ret (.op (.list .fz) (C2 (KS dz) (.op (.bf .repr) (C1 (AT 27 (LO 0))))))) Q0) Q0) (QC (.ret (.ite (II (LO 0) (.gl 3)) (.op (.list .fz) (C2 (KS S3) (AT 13 (LO 0)))) (.op (.list .fz) (C1 (.op (.bf .repr) (C1 (LO 0))))))) Q0))),0⟩
noncomputable def N8:FD:=⟨3,[],QC (.asgs [.loc 3,.loc 4] (CG 66 (C1 (LO 2)))) (QC (.asgs [.loc 5,.loc 6,.loc 7] (.op .tup (C3 (.comp 13 [0,1] [13] false .val .fz (LO 3) (CG 68 (C3 (LO 0) (LO 1) (LO 13))) (KB true)) (CG 0 (C4 (SJ (LO 2) 0) (SJ (LO 2) 1) (SJ (LO 2) 2) (SJ (LO 2) 3))) (.op (.list .pick) N0)))) (QC (.ife (CP .ne (CG 23 (C1 (LO 6))) (.op .tup (C2 (LN (LO 5)) (LO 4)))) (QC (.ret (KB false)) Q0) Q0) (QC (.fr [8] false .val (.ite (CP .ne (LO 5) (.op (.list .fz) N0)) (.op (.list .fz) (C2 (LO 5) (.op (.cat .fz) (C2 (.op (.list .fz) (C1 (CG 69 (C4 (LO 1) (SJ (LO 2) 0) (SJ (LO 3) 0) (SJ (LO 5) 0))))) (.op (.slLo .fz) (C2 (LO 5) (KI 1))))))) (.op (.list .fz) (C1 (LO 5)))) (QC (.asgs [.loc 9,.loc 10] (.op .tup (C2 (.comp 13 [] [13] false .val .fz (.op (.slHi .fz) (C2 (LO 8) (KI 1))) (CG 71 (C1 (LO 13))) (KB true)) (LN (SU (LO 1) (KS U9)))))) (QC (AS 11 (CG 10 (C5 KN (KI 1000) (.op (.cat .pick) (C2 (SU (LO 1) (KS U9)) (LO 8))) (SU (LO 1) (KS Wd)) (SU (LO 1) (KS Uh))))) (QC (.expr (.call (SU (CG 59 N0) (SJ (LO 2) 0)) (C3 KN (LO 11) (LO 6)))) (QC (AS 12 (.comp 13 [] [13] false .val .fz (.op (.slLo .fz) (C2 (AT 40 (LO 11)) (LO 10))) (CG 71 (C1 (LO 13))) (KB true))) (QC (.ife (.or (CP .ne (.comp 13 [] [13] false .val .fz (.op (.slHi .fz) (C2 (AT 40 (LO 11)) (LO 10))) (CG 71 (C1 (LO 13))) (KB true)) (SU (LO 1) (KS Xh))) (CP .ne (LN (LO 12)) (LO 4))) (QC (.ret (KB false)) Q0) Q0) (QC (.ife (CP .ne (AT 39 (LO 11)) (.ite (CG 70 (C2 (SJ (LO 2) 0) (.op (.slLo .fz) (C2 (LO 8) (.op .neg (C1 (KI 1))))))) (SJ (LO 2) 1) (KI 1000))) (QC (.ret (KB false)) Q0) Q0) (QC (.expr (.cm .append (LO 7) (C1 (.op (.list .fz) (C3 (CP .eq (.op (.slHi .fz) (C2 (LO 12) (KI 1))) (LO 9)) (.op (.slLo .fz) (C2 (LO 12) (KI 1))) (AT 39 (LO 11))))))) Q0)))))))) (QC (.ret (.or (CP .eq (LO 5) (.op (.list .fz) N0)) (NO (.and (SJ (SJ (LO 7) 0) 0) (.and (SJ (SJ (LO 7) 1) 0) (CP .eq (.op (.slLo .fz) (C2 (SJ (LO 7) 0) (KI 1))) (.op (.slLo .fz) (C2 (SJ (LO 7) 1) (KI 1))))))))) Q0)))),0⟩
noncomputable def xq:FD:=⟨2,[],QC (.asgs [.loc 2,.loc 3] (CG 66 (C1 (LO 1)))) (QC (.expr (.cm .append (SJ (LO 0) 0) (C1 (LO 1)))) (QC (.asg (.sub (LO 0) (KI 1)) (BI .add (BI .sub (SJ (LO 0) 1) (LN (LO 2))) (LO 3))) (QC (.ret (LO 1)) Q0))),0⟩
noncomputable def Kt:FD:=⟨2,[],QC (AS 2 (CG 67 (C2 (LO 0) (SU (CG 60 N0) (CG 64 (C2 (LO 0) (KI 19))))))) (QC (.whl (CP .lt (SJ (LO 1) 1) (LN (SJ (CG 66 (C1 (LO 2))) 0))) (QC (.expr (CG 73 (C2 (LO 1) (.op (.list .fz) (C4 (KS Q1) (CG 65 (C1 (LO 0))) KN KN))))) Q0)) (QC (.expr (CG 73 (C2 (LO 1) (LO 2)))) Q0)),1⟩
noncomputable def Uj:FD:=⟨2,[],QC (.whl (CP .ne (SJ (LO 0) 1) (LO 1)) (QC (.expr (CG 73 (C2 (LO 0) (.op (.list .fz) (C4 (.ite (CP .gt (SJ (LO 0) 1) (LO 1)) (KS X6) (KS Q1)) KN KN KN))))) Q0)) Q0,0⟩
noncomputable def I7:FD:=⟨3,[],QC (.asg (.sub (LO 1) (KI 2)) (BI .sub (SJ (LO 1) 2) (KI 1))) (QC (.asgs [.loc 3,.loc 4] (.op .tup (C2 (SJ (LO 1) 0) (CG 64 (C2 (LO 0) (.ite (.and (CP .gt (LO 2) (KI 0)) (CP .gt (SJ (LO 1) 2) (KI 0))) (KI 8) (KI 4))))))) (QC (.ife (CP .lt (LO 4) (KI 4)) (QC (.expr (CG 74 (C2 (LO 0) (LO 1)))) (QC (.ret KN) Q0)) Q0) (QC (AS 5 (LN (LO 3))) (QC (.expr (CG 73 (C2 (LO 1) (.op (.list .fz) (C4 (KS Q1) (CG 65 (C1 (LO 0))) KN KN))))) (QC (AS 6 (CG 73 (C2 (LO 1) (.op (.list .pick) (C4 (.ite (CP .ne (LO 4) (KI 6)) (SU (.op (.list .fz) (C2 (KS J1) (KS U0))) (CG 64 (C2 (LO 0) (KI 2)))) (KS G1)) (KI 0) KN KN))))) (QC (AS 7 (SJ (LO 1) 1)) (QC (.ife (CP .eq (LO 4) (KI 7)) (QC (.expr (CG 73 (C2 (LO 1) (.op (.list .fz) (C4 (KS Q1) (KI 8) KN KN))))) (QC (.expr (CG 73 (C2 (LO 1) (.op (.list .fz) (C4 (KS J0) KN KN KN))))) Q0)) (QC (.ife (CP .eq (LO 4) (KI 6)) (QC (.expr (CG 73 (C2 (LO 1) (.op (.list .fz) (C4 (KS X6) KN KN KN))))) Q0) Q0) (QC (.expr (CG 76 (C3 (LO 0) (LO 1) (BI .sub (LO 2) (KI 1))))) Q0))) (QC (.ife (CP .eq (LO 4) (KI 4)) (QC (.asgs [.loc 8,.loc 9] (.op .tup (C2 (CG 73 (C2 (LO 1) (.op (.list .pick) (C4 (KS A4) (KI 0) KN KN)))) (SJ (LO 1) 1)))) (QC (.asgs [.sub (LO 6) (KI 1),.sub (LO 1) (KI 1)] (.op .tup (C2 (LN (LO 3)) (LO 7)))) (QC (.expr (CG 76 (C3 (LO 0) (LO 1) (BI .sub (LO 2) (KI 1))))) (QC (.expr (CG 75 (C2 (LO 1) (LO 9)))) (QC (.asg (.sub (LO 8) (KI 1)) (LN (LO 3))) Q0))))) (QC (.ife (CP .eq (LO 4) (KI 7)) (QC (.asgs [.sub (LO 6) (KI 1),.sub (LO 1) (KI 1)] (.op .tup (C2 (LN (LO 3)) (LO 7)))) Q0) (QC (.expr (CG 75 (C2 (LO 1) (LO 7)))) (QC (.ife (CP .eq (LO 4) (KI 5)) (QC (.expr (CG 73 (C2 (LO 1) (.op (.list .pick) (C4 (KS A4) (LO 5) KN KN))))) Q0) Q0) (QC (.asg (.sub (LO 6) (KI 1)) (LN (LO 3))) Q0)))) Q0)) Q0)))))))),0⟩
noncomputable def F5:FD:=⟨1,[],QC (.asgs [.loc 1,.loc 2] (.op .tup (C2 (.op (.list .pick) (C3 (.op (.list .pick) N0) (KI 0) (.ite (SJ (LO 0) 3) (KI 2) (KI 6)))) (.op (.list .pick) (C1 (KI 0)))))) (QC (.fr [3] false .range (C1 (CG 64 (C2 (LO 0) (KI 3)))) (QC (.expr (CG 73 (C2 (LO 1) (.op (.list .fz) (C4 (KS Q1) (CG 65 (C1 (LO 0))) KN KN))))) (QC (.expr (CG 73 (C2 (LO 1) (.op (.list .fz) (C4 (KS V3) (KI 0) (CG 64 (C2 (LO 0) (KI 2))) KN))))) (QC (.expr (.cm .append (LO 2) (C1 (LN (SJ (LO 1) 0))))) Q0)))) (QC (.fr [3] false .range (C1 (.ite (SJ (LO 0) 3) (KI 2) (BI .add (KI 2) (CG 64 (C2 (LO 0) (KI 2)))))) (QC (.expr (CG 76 (C3 (LO 0) (LO 1) (.ite (SJ (LO 0) 3) (KI 1) (KI 2))))) Q0)) (QC (.expr (CG 75 (C2 (LO 1) (.op (.bf .max2) (C2 (KI 1) (SJ (LO 1) 1)))))) (QC (.expr (CG 73 (C2 (LO 1) (.op (.list .fz) (C4 (KS J0) KN KN KN))))) (QC (.ret (.op .tup (C2 (SJ (LO 1) 0) (LO 2)))) Q0))))),3⟩
noncomputable def Wa:FD:=⟨3,[],QC (.asgs [.loc 3,.loc 4] (.op .tup (C2 (CG 64 (C2 (LO 0) (KI 8))) (CG 64 (C2 (LO 0) (LN (LO 1))))))) (QC (AS 6 (.comp 8 [] [8] false .val .fz (LO 1) (LO 8) (CP .isIn (SJ (LO 8) 0) (CG 61 N0)))) (QC (.ife (CP .eq (LO 3) (KI 0)) (QC (.expr (.cm .pop1 (LO 1) (C1 (LO 4)))) Q0) (QC (.ife (CP .eq (LO 3) (KI 1)) (QC (.expr (.cm .insert (LO 1) (C2 (LO 4) (CG 67 (C2 (LO 0) (SU (.op (.list .fz) (C6 (KS X6) (KS t9) (KS l7) (KS E5) (KS Q1) (KS V3))) (CG 64 (C2 (LO 0) (KI 6))))))))) Q0) (QC (.ife (CP .eq (LO 3) (KI 2)) (QC (.asgs [.sub (LO 1) (BI .sub (LO 4) (KI 1)),.sub (LO 1) (LO 4)] (.op .tup (C2 (SU (LO 1) (LO 4)) (SU (LO 1) (BI .sub (LO 4) (KI 1)))))) Q0) (QC (.ife (CP .eq (LO 3) (KI 3)) (QC (.expr (.cm .append (LO 2) (C1 (LO 4)))) Q0) (QC (.ife (CP .eq (LO 3) (KI 4)) (QC (.asg (.sub (LO 1) (LO 4)) (CG 67 (C2 (LO 0) (SU (CG 60 N0) (CG 64 (C2 (LO 0) (KI 19))))))) Q0) (QC (.ife (.or (CP .eq (LO 3) (KI 5)) (CP .eq (LO 6) (.op (.list .fz) N0))) (QC (.expr (.cm .pop0 (LO 1) N0)) Q0) (QC (AS 7 (SU (LO 6) (CG 64 (C2 (LO 0) (LN (LO 6)))))) (QC (.ife (CP .eq (LO 3) (KI 6)) (QC (.asg (.sub (LO 7) (KI 1)) (BI .add (SJ (LO 7) 1) (SU (.op (.list .fz) (C3 (KI 1) (.op .neg (C1 (KI 1))) (KI 2))) (CG 64 (C2 (LO 0) (KI 3)))))) Q0) (QC (.asg (.sub (LO 7) (KI 0)) (SU (CG 61 N0) (CG 64 (C2 (LO 0) (KI 4))))) Q0)) Q0))) Q0)) Q0)) Q0)) Q0)) Q0)) (QC (.fr [5] false .val (LO 1) (QC (.ife (CP .isIn (SJ (LO 5) 0) (CG 61 N0)) (QC (.asg (.sub (LO 5) (KI 1)) (BI .mod (SJ (LO 5) 1) (LN (LO 1)))) Q0) Q0) Q0)) Q0))),5⟩
noncomputable def Am:FD:=⟨4,[],QC (AS 4 (SJ (CG 66 (C1 (LO 1))) 0)) (QC (.ife (CP .isIn (LO 4) (.op (.list .fz) (C3 (KS lx) (KS jx) (KS xC)))) (QC (.ret (.op (.list .fz) (C1 (.op (.cat .fz) (C2 (.op (.slHi .fz) (C2 (LO 2) (.op .neg (C1 (KI 1))))) (.op (.list .fz) (C1 (CG 68 (C3 (LO 0) (LO 3) (LO 4)))))))))) Q0) Q0) (QC (.ife (CP .nin (SJ (LO 1) 0) (.op (.list .fz) (C3 (KS J1) (KS U0) (KS G1)))) (QC (.ret (.op (.list .fz) (C1 (LO 2)))) Q0) Q0) (QC (AS 5 (.op (.list .fz) (C2 (SU (.op (.list .fz) (C2 KN (KB false))) (CG 64 (C2 (LO 0) (KI 2)))) (SU (.op (.list .fz) (C2 (KB true) (KI 0))) (CG 64 (C2 (LO 0) (KI 2))))))) (QC (.ife (CP .eq (SJ (LO 1) 0) (KS G1)) (QC (AS 5 (.op (.list .fz) (C2 KN (SU (.op (.list .fz) (C2 (KB false) (KI 0))) (CG 64 (C2 (LO 0) (KI 2))))))) Q0) Q0) (QC (.ret (.comp 6 [2] [6] false .val .fz (LO 5) (.op (.cat .fz) (C2 (.op (.slHi .fz) (C2 (LO 2) (.op .neg (C1 (KI 1))))) (.op (.list .fz) (C1 (LO 6))))) (KB true))) Q0))))),0⟩
noncomputable def Bm:FD:=⟨4,[],QC (.asgs [.loc 4,.loc 5] (CG 66 (C1 (LO 1)))) (QC (AS 6 (LN (SU (LO 0) (KS U9)))) (QC (AS 7 (CG 10 (C5 KN (BI .add (LO 2) (KI 1)) (.op (.cat .pick) (C2 (SU (LO 0) (KS U9)) (LO 3))) (SU (LO 0) (KS Wd)) (SU (LO 0) (KS Uh))))) (QC (.expr (.call (SU (CG 59 N0) (SJ (LO 1) 0)) (C3 KN (LO 7) (CG 0 (C4 (SJ (LO 1) 0) (SJ (LO 1) 1) (SJ (LO 1) 2) (SJ (LO 1) 3)))))) (QC (AS 8 (.op (.slLo .fz) (C2 (AT 40 (LO 7)) (LO 6)))) (QC (.ife (.or (CP .ne (.comp 9 [] [9] false .val .fz (.op (.slHi .fz) (C2 (AT 40 (LO 7)) (LO 6))) (CG 71 (C1 (LO 9))) (KB true)) (SU (LO 0) (KS Xh))) (CP .ne (LN (LO 8)) (BI .add (BI .sub (LN (LO 3)) (LN (LO 4))) (LO 5)))) (QC (.ret KN) Q0) Q0) (QC (.ife (CP .ne (.comp 9 [6] [9] false .val .fz (LO 8) (LO 9) (.and (II (LO 9) (.gl 4)) (CP .le (AT 13 (LO 9)) (LO 6)))) (.op (.list .fz) N0)) (QC (.ret KN) Q0) Q0) (QC (.ret (.ite (CP .eq (AT 39 (LO 7)) (.ite (CG 70 (C2 (SJ (LO 1) 0) (.op (.slLo .fz) (C2 (LO 3) (.op .neg (C1 (KI 1))))))) (SJ (LO 1) 1) (BI .add (LO 2) (KI 1)))) (.op .tup (C2 (AT 39 (LO 7)) (LO 8))) KN)) Q0))))))),0⟩
noncomputable def Ye:FD:=⟨4,[],QC (.asgs [.loc 4,.loc 5] (.op .tup (C2 (.op (.rep .pick) (C2 (.op (.list .fz) (C1 KN)) (LN (LO 2)))) (.comp 11 [] [11] false .val .pick (LO 3) (.op .tup (C2 (LO 11) (.op (.list .fz) N0))) (KB true))))) (QC (.whl (CP .ne (LO 5) (.op (.list .fz) N0)) (QC (.asgs [.loc 6,.loc 7] (.cm .pop0 (LO 5) N0)) (QC (.ife (.or (CP .ge (LO 6) (LN (LO 2))) (.and (CP .isn (SU (LO 4) (LO 6)) KN) (CP .ne (SU (LO 4) (LO 6)) (LN (LO 7))))) (QC (.ret KN) Q0) Q0) (QC (.ife (CP .is (SU (LO 4) (LO 6)) KN) (QC (.asg (.sub (LO 4) (LO 6)) (LN (LO 7))) (QC (AS 8 (CP .eq (SJ (SU (LO 2) (LO 6)) 0) (KS J0))) (QC (.ife (CP .lt (LN (LO 7)) (LN (SJ (CG 66 (C1 (SU (LO 2) (LO 6)))) 0))) (QC (.ret (.ite (.or (LO 8) (CG 72 (C3 (LO 0) (LO 1) (SU (LO 2) (LO 6))))) KN (KS cz))) Q0) Q0) (QC (.fr [9] false .val (.ite (LO 8) (.op (.list .fz) N0) (CG 79 (C4 (LO 0) (SU (LO 2) (LO 6)) (LO 7) (LO 1)))) (QC (AS 10 (CG 80 (C4 (LO 1) (SU (LO 2) (LO 6)) (LO 6) (LO 9)))) (QC (.ife (CP .is (LO 10) KN) (QC (.ret (KS cz)) Q0) Q0) (QC (.expr (.cm .append (LO 5) (C1 (LO 10)))) Q0)))) Q0)))) Q0) Q0)))) (QC (.ret (LO 4)) Q0)),7⟩
noncomputable def Cm:FD:=⟨2,[],QC (AS 2 (CG 1 (.cons (KS J6) (.cons (KS Lg) (C6 KN (.op (.list .fz) (C2 (KS uH) (KS wo))) (.op (.list .fz) N0) (.op (.list .fz) N0) (.op (.list .fz) N0) (.op (.list .fz) (C1 (KI 0)))))))) (QC (AS 3 (.comp 4 [] [4] false .val .fz (LO 0) (CG 0 (C4 (SJ (LO 4) 0) (SJ (LO 4) 1) (SJ (LO 4) 2) (SJ (LO 4) 3))) (KB true))) (QC (.tryret (CG 29 (C2 (CG 1 (.cons (KS T9) (.cons (KS Kb) (C6 KN (.op (.list .fz) (C2 (KS vH) (KS wH))) (LO 3) (.op (.list .fz) N0) (.op (.list .fz) N0) (LO 1))))) (.op .tup (C1 (LO 2)))))) Q0)),0⟩
noncomputable def j3:FD:=⟨5,[],QC (.asgs [.loc 5,.loc 6] (.op .tup (C2 (SU (LO 3) (CG 64 (C2 (LO 0) (LN (LO 3))))) (.op (.list .fz) N0)))) (QC (.fr [7] false .range (C1 (KI 16)) (QC (.ife (CP .ne (LN (LO 6)) (SU (LO 4) (LO 5))) (QC (.ret (KB false)) Q0) Q0) (QC (.ife (CP .eq (SJ (SU (LO 2) (LO 5)) 0) (KS J0)) (QC (.ret (KB true)) Q0) Q0) (QC (AS 8 (CG 79 (C4 (LO 0) (SU (LO 2) (LO 5)) (LO 6) (LO 1)))) (QC (AS 9 (CG 80 (C4 (LO 1) (SU (LO 2) (LO 5)) (LO 5) (SU (LO 8) (CG 64 (C2 (LO 0) (LN (LO 8)))))))) (QC (.ife (CP .is (LO 9) KN) (QC (.ret (KB false)) Q0) Q0) (QC (.asgs [.loc 5,.loc 6] (LO 9)) Q0))))))) (QC (.ret (KB true)) Q0)),5⟩
noncomputable def xo:FD:=⟨1,[],QC (.asgs [.loc 1,.loc 2] (.op .tup (C2 (CG 63 (C1 (LO 0))) (CG 3 (C2 (KI 3) KN))))) (QC (.asg (.sub (AT 19 (LO 2)) (KS y9)) (KI 4)) (QC (AS 3 (.op (.ds [V6,U9,Xh] .pick) (C3 (KI 3) (.op (.list .fz) (C2 (CG 4 (C3 (KI 1) KN (KS b6))) (CG 4 (C3 (KI 2) KN (KS d6))))) (.op (.list .fz) (C2 (.op (.list .fz) (C2 (KS S3) (KI 1))) (.op (.list .fz) (C2 (KS S3) (KI 2)))))))) (QC (.asgs [.loc 4,.loc 5,.loc 6] (.op .tup (C3 (.op (.cat .fz) (C2 (CG 60 N0) (CG 61 N0))) (CG 64 (C2 (LO 1) (KI 23))) (BI .add (KI 1) (CG 64 (C2 (LO 1) (KI 22))))))) (QC (.asg (.sub (LO 3) (KS Wd)) (CG 8 (C2 (.op (.list .pick) (C2 (KI 5) (KI 6))) (CG 8 (C1 (.op (.list .pick) (C2 (KI 8) (KI 9)))))))) (QC (.asg (.sub (LO 3) (KS Uh)) (CG 9 (.cons (SU (.op (.list .fz) (C2 (LO 2) (KI 7))) (CG 64 (C2 (LO 1) (KI 2)))) (.cons KN (C6 (.op (.list .fz) N0) KN (KI 1) (.op (.list .fz) N0) KN (KS J6)))))) (QC (.fr [7] false .range (C1 (.ite (SJ (LO 1) 3) (KI 3) (KI 14))) (QC (.ife (NO (CG 72 (C3 (LO 1) (LO 3) (CG 67 (C2 (LO 1) (SU (LO 4) (BI .mod (BI .add (LO 5) (BI .mul (LO 7) (LO 6))) (KI 23)))))))) (QC (.ret (KB false)) Q0) Q0) Q0)) (QC (.asgs [.loc 8,.loc 9] (CG 77 (C1 (LO 1)))) (QC (AS 10 (CG 81 (C4 (LO 1) (LO 3) (LO 8) (LO 9)))) (QC (.ife (.or (NO (II (LO 10) (.bl 11))) (CP .ne (CG 82 (C2 (LO 8) (LO 9))) (LO 10))) (QC (.ret (KB false)) Q0) Q0) (QC (.ife (NO (CG 83 (C5 (LO 1) (LO 3) (LO 8) (LO 9) (LO 10)))) (QC (.ret (KB false)) Q0) Q0) (QC (.expr (CG 78 (C3 (LO 1) (LO 8) (LO 9)))) (QC (AS 10 (CG 81 (C4 (LO 1) (LO 3) (LO 8) (LO 9)))) (QC (.ife (CP .ne (CG 82 (C2 (LO 8) (LO 9))) (LO 10)) (QC (.ret (KB false)) Q0) Q0) (QC (.ret (.or (CP .is (LO 10) KN) (CG 83 (C5 (LO 1) (LO 3) (LO 8) (LO 9) (LO 10))))) Q0)))))))))))))),10⟩
noncomputable def O4:FD:=⟨3,[],QC (.asg (.attr (LO 0) 13) (LO 1)) (QC (.asg (.attr (LO 0) 18) (LO 2)) (QC (.asg (.attr (LO 0) 19) (.op (.ds [] .pick) N0)) (QC (.asg (.attr (LO 0) 20) KN) (QC (.asg (.attr (LO 0) 21) (KB false)) (QC (.asg (.attr (LO 0) 22) KN) Q0))))),0⟩
noncomputable def Fn(C:Cx)(f:V)(fd:FD):Prop:=∃ names b body,n9 C f names fd.df b body∧names.length=fd.ar∧(VD fd.body).2 b body=true
noncomputable abbrev FT:=V→Option FD
noncomputable abbrev NT:=V→List V→Option V
noncomputable def YA(C:Cx)(T:FT):Prop:=∀ f fd,T f=some fd→Fn C f fd
noncomputable def CF(C:Cx)(k:Nat)(N:NT):Prop:=∀ f l v,N f l=some v→∀ τ Q X,Q v (none::τ)→B0 C k f l (none::τ) Q X
noncomputable def nE(σ:y0)(K:Prop):Prop:=match σ with|[]=>False|x::_=>(match x with|none=>K|some _=>False)
noncomputable def Vj(fd:FD)(l:List V):y0:=lm fd.lo (l++fd.df.drop (fd.df.length - (fd.ar - l.length)))
noncomputable def ZA(fd:FD)(n:Nat):Bool:=Nat.ble n fd.ar&&Nat.ble fd.ar (n+fd.df.length)
noncomputable def inl(T:FT)(N:NT)(L:F7):Nat→F7
 | 0=>L
 | j+1=>fun X f l σ Q=>match T f with
  | some fd=>K8 (ZA fd l.length) (I4 (inl T N L j) X fd.body (Vj fd l) σ (fun Z σ'=>Q .none σ') Q)
  | none=>match N f l with
   | some v=>nE σ (Q v σ)
   | none=>L X f l σ Q
theorem B0.le{C:Cx}{m n:Nat}(h:m≤n){f:V}{l:List V}{σ:y0}{Q:X0}{X:y0→Prop}(w:B0 C m f l σ Q X):B0 C n f l σ Q X :=
 ⟨fun r vals A fr t s a b c d e am=>w.run r vals A fr t s a b c d e ⟨am.hand,Nat.lt_of_le_of_lt (Nat.add_le_add_right (Nat.add_le_add_left (Nat.mul_le_mul_left 2 h) _) _) am.deep,am.fr,Nat.lt_of_le_of_lt (Nat.add_le_add_right (Nat.add_le_add_left (Nat.mul_le_mul_left 10 h) _) _) am.units⟩⟩
section
variable{C:Cx}{n k:Nat}{T:FT}{N:NT}{f:V}{fd:FD}{l:List V}{σ:y0}{Q:X0}{X:y0→Prop}
theorem ii(ok:C.Ok)(L:Lv C n)(F:Fn C f fd)(q:K8 (ZA fd l.length) (I4 L.f X fd.body (Vj fd l) σ (fun Z σ'=>Q .none σ') Q)):B0 C (n+1) f l σ Q X:=by
 refine q8 F ?_;(repeat clear F);intro names b body F e ck
 obtain ⟨g,q⟩:=V4 q
 obtain ⟨g1,g2⟩:=b2 g
 exact jE (L:=L) (np:=fd.lo) ok F ck (e▸Nat.le_of_ble_eq_true g1) (e▸Nat.le_of_ble_eq_true g2) (e▸q)
theorem Dm(ok:C.Ok)(hT:YA C T)(hN:CF C k N)(L:Lv C n):∀ j X f l σ Q,inl T N L.f j X f l σ Q→B0 C (n+k+j) f l σ Q X
 | 0,X,f,l,σ,Q,q=>(L.ok X f l σ Q q).le (Nat.le_add_right n k)
 | j+1,X,f,l,σ,Q,q=>by
  unfold inl at q
  cases e:T f with
  | some fd=>rw [e] at q;exact ii ok ⟨inl T N L.f j,Dm ok hT hN L j⟩ (hT f fd e) q
  | none =>
   rw [e] at q
   cases e2:N f l with
   | some v =>
    rw [e2] at q
    induction σ using List.casesOn with
    | nil=>exact q.elim
    | cons x τ=>induction x using Option.casesOn with
     | none=>exact (hN f l v e2 τ Q X q).le (Nat.le_trans (Nat.le_add_left k n) (Nat.le_add_right _ _))
     | some u=>exact q.elim
   | none=>rw [e2] at q;exact (L.ok X f l σ Q q).le (Nat.le_trans (Nat.le_add_right n k) (Nat.le_add_right _ _))
noncomputable def XH(ok:C.Ok)(hT:YA C T)(hN:CF C k N)(L:Lv C n)(j:Nat):Lv C (n+k+j):=⟨inl T N L.f j,Dm ok hT hN L j⟩
end
noncomputable def Em:List (Nat×FD)→Nat→Option FD
 | [],_=>none
 | p::r,x=>match Nat.beq p.1 x with|true=>some p.2|false=>Em r x
noncomputable def yq:List (Nat×FD):=[(13,Mf),(22,Lb),(24,tm),(27,Yh),(28,um),(31,lq),(34,nq),(35,Ht),(36,It),(37,oq),(38,pq),(39,qq),(40,rq),(41,sq),(42,tq),(43,uq),(44,vq),(45,Oj),(46,Id),(47,di),(48,Pj),(49,yd),(50,Nb),(52,Nf),(53,Of),(54,Qj),(55,Pf),(56,fi),(58,We),(60,Xe),(61,Rj),(62,Sj),(67,A9),(73,xq),(84,xo)]
noncomputable def yx:List (Nat×FD):=[(23,Lj),(29,Zh),(30,wx),(33,mq),(51,Jt),(57,Qf),(59,wq),(63,z6),(64,xm),(65,Tj),(66,Mg),(68,Va),(69,zd),(70,ym),(71,zm),(72,N8),(74,Kt),(75,Uj),(76,I7),(77,F5),(78,Wa),(79,Am),(80,Bm),(81,Ye),(82,Cm),(83,j3)]
noncomputable def zq:List (Nat×FD):=[(0,sm),(16,Kj),(32,Hd),(48,ai),(64,Mj),(80,Qc),(96,Mb),(105,Rc),(107,Ua),(112,vm),(128,bi),(140,wm),(144,Nj),(160,ci)]
noncomputable def zx:List (Nat×FD):=[(34,Pc),(35,z9),(36,S8),(37,T8),(38,M8),(39,g8),(40,J3),(106,Sc)]
noncomputable def aB:FT
 | .g x=>Em yq x
 | .m c x=>Em zq (16*c+x)
 | _=>none
noncomputable def Aq:FT
 | .g x=>(Em yq x).or (Em yx x)
 | .m c x=>(Em zq (16*c+x)).or (Em zx (16*c+x))
 | _=>none
noncomputable def oE(l:List V):Option V:=gO (Nat.beq l.length 4) (.a (.obj 0 [0,1,2,3,4]) (l++[.int 0]))
noncomputable def bB(l:List V):Option V:=gO (Nat.beq l.length 8) (.a (.obj 1 [5,6,7,8,9,10,11,12,13]) (l++[.none]))
noncomputable def cB(l:List V):Option V:=gO (Nat.beq l.length 3) (.a (.obj 4 [13,18,19,20,21,22,23]) (l.take 2++([.a (.ds []) [],.none,.bool false,.none]++l.drop 2)))
noncomputable def gz:V→Bool
 | .a A _=>(match A with | .lst=>true|_=>false)
 | _=>false
noncomputable def dB(l:List V):Option V:=gO (Nat.beq l.length 3&&K4 gz (l.drop 2)) (.a (.obj 5 [13,18,19,20,21,22,24]) (l.take 2++([.a (.ds []) [],.none,.bool false,.none]++l.drop 2)))
noncomputable def pE(l:List V):Option V:=gO (Nat.beq l.length 2) (.a (.obj 7 [26,27,28]) (l++[.none]))
noncomputable def Ax(l:List V):Option V:=match Nat.beq l.length 1 with|true=>some (.a (.obj 8 [8,29]) (l++[.none]))|false=>gO (Nat.beq l.length 2) (.a (.obj 8 [8,29]) l)
noncomputable def Mt:V→Bool
 | .str s=>j6 s J6
 | _=>false
noncomputable def eB(l:List V):Option V:=gO (Nat.beq l.length 8&&K4 Mt (l.drop 7)) (.a (.obj 9 [30,31,32,33,13,34,35,26,36,37,38]) (l++[.bool false,.str e8,.none]))
noncomputable def qE:List (Nat×(List V→Option V)):=[(0,oE),(1,bB),(4,cB),(5,dB),(7,pE),(8,Ax),(9,eB)]
noncomputable def DF:List (Nat×(List V→Option V))→Nat→List V→Option V
 | [],_=>fun Z=>none
 | p::r,x=>match Nat.beq p.1 x with|true=>p.2|false=>DF r x
noncomputable def fB:V→List V→Option V
 | .g c=>DF qE c
 | _=>fun Z=>none
noncomputable abbrev MG:NT:=fun Z Z=>none
theorem gB{C:Cx}:CF C 0 MG:=fun Z Z Z e=>nn e.symm.symm
theorem NR.mono{k:Nat}{P P':V→Prop}(h:∀ v,P v→P' v){v:V}(x:NR k P v):NR k P' v:=by
 induction x with
 | old p=>exact .old (h _ p)
 | a _ ih=>exact .a ih
 | ref n=>exact .ref n
 | none=>exact .none
 | bool=>exact .bool
 | int=>exact .int
 | str=>exact .str
 | g=>exact .g
 | b=>exact .b
 | m=>exact .m
 | raw=>exact .raw
section
variable{C:Cx}{σ:y0}{Q:X0}{X:y0→Prop}{c:Nat}{l:List V}{u:V}
theorem Dx{τ:y0}(ok:C.Ok)(hT:YA C aB)(hc:c<11)(hu:NR 0 (·∈l) u)
  (hi:∀ Q',Q' V.none (some u::τ)→inl aB MG (cO C 0) 2 X (.m c 0) (.ref 0::l) (some (.a (.obj c []) [])::τ) Q') (q:Q u (none::τ)):B0 C 3 (.g c) l (none::τ) Q X:=by
 refine .frz (k:=0) rfl (Mc (n:=2) ok hc rfl (Dm ok hT gB (Lv.self C 0) 2 _ _ _ _ _ (hi _ ⟨rfl,fun j v e=>?_,q⟩)))
 cases j with
 | zero=>exact (Option.some.inj (show some u=some v from e))▸hu.mono fun Z h => .inl h
 | succ j=>exact .old (.inr ⟨j+1,e⟩)
noncomputable def jB:Nat→(List V→Prop)→Prop
 | 0,P=>P []
 | n+1,P=>∀ a,jB n fun l=>P (a::l)
theorem G4:∀ {n:Nat} {P:List V→Prop},jB n P→∀ {l},Nat.beq l.length n=true→P l
 | 0,_,h,[],_=>h
 | n+1,_,h,a::_,e=>G4 (n:=n) (h a) e
noncomputable def Fx(c:Nat)(l:List V)(u:V):Prop:=∀ C X τ Q',Q' V.none (some u::τ)→inl aB MG (cO C 0) 2 X (.m c 0) (.ref 0::l) (some (.a (.obj c []) [])::τ) Q'
mutual
theorem rE{k:Nat}{P:V→Prop}:∀ (v:V),Fa k v→NR k P v
 | .ref j,h => .ref h
 | .a K xs,h => .a (B9 xs h)
 | .none,_ => .none
 | .bool _,_ => .bool
 | .int _,_ => .int
 | .str _,_ => .str
 | .g _,_ => .g
 | .b _,_ => .b
 | .m _ _,_ => .m
 | .raw _,h => .raw
theorem B9{k:Nat}{P:V→Prop}:∀ (xs:List V),D4 k xs→∀ x∈xs,NR k P x
 | [],_,_,m=>(List.not_mem_nil m).elim
 | x::xs,h,y,m=>(List.mem_cons.mp m).elim (fun q=>q▸rE x h.1) (B9 xs h.2 y)
end
theorem Xa{P:V→Prop}{l m:List V}(h1:∀ x∈l,NR 0 P x)(h2:∀ x∈m,NR 0 P x):∀ x∈l++m,NR 0 P x:=fun x hx=>(List.mem_append.mp hx).elim (h1 x) (h2 x)
theorem Gx:∀ p∈qE,∀ l v,p.2 l=some v→p.1<11∧Fx p.1 l v∧NR 0 (·∈l) v:=by
 have hl:∀ {l:List V},∀ x∈l,NR 0 (·∈l) x:=fun Z h => .old h
 have thg:∀ {l:List V},∀ x∈l.take 2++([V.a (.ds []) [],V.none,V.bool false,V.none]++l.drop 2),NR 0 (·∈l) x:=fun {l}=>Xa (fun x hx => .old (List.mem_of_mem_take hx)) (Xa (B9 _ ⟨trivial,trivial,trivial,trivial,trivial⟩) fun x hx => .old (List.mem_of_mem_drop (i:=2) hx))
 refine List.forall_mem_cons.mpr ⟨fun l v e=>?_,List.forall_mem_cons.mpr ⟨fun l v e=>?_,List.forall_mem_cons.mpr ⟨fun l v e=>?_,List.forall_mem_cons.mpr ⟨fun l v e=>?_,List.forall_mem_cons.mpr ⟨fun l v e=>?_,List.forall_mem_cons.mpr ⟨fun l v e=>?_,List.forall_mem_cons.mpr ⟨fun l v e=>?_,(fun Z h=>(List.not_mem_nil h).elim)⟩⟩⟩⟩⟩⟩⟩
 ·obtain ⟨h,rfl⟩:=Dc e
  exact V0 (by decide) (G4 (n:=4) (P:=fun l=>Fx 0 l (V.a (.obj 0 [0,1,2,3,4]) (l++[V.int 0]))) (fun Z Z Z Z Z Z Z Z q=>q) h) (.a (Xa hl (B9 _ ⟨trivial,trivial⟩)))
 ·obtain ⟨h,rfl⟩:=Dc e
  exact V0 (by decide) (G4 (n:=8) (P:=fun l=>Fx 1 l (V.a (.obj 1 [5,6,7,8,9,10,11,12,13]) (l++[V.none]))) (fun Z Z Z Z Z Z Z Z Z Z Z Z q=>q) h) (.a (Xa hl (B9 _ ⟨trivial,trivial⟩)))
 ·obtain ⟨h,rfl⟩:=Dc e
  exact V0 (by decide) (G4 (n:=3) (P:=fun l=>Fx 4 l (V.a (.obj 4 [13,18,19,20,21,22,23]) (l.take 2++([V.a (.ds []) [],V.none,V.bool false,V.none]++l.drop 2)))) (fun Z Z Z Z Z Z Z q=>q) h) (.a thg)
 ·obtain ⟨h,rfl⟩:=Dc e
  obtain ⟨h,hz⟩:=b2 h
  refine V0 (by decide) (G4 (n:=3) (P:=fun l=>K4 gz (l.drop 2)=true→Fx 5 l (V.a (.obj 5 [13,18,19,20,21,22,24]) (l.take 2++([V.a (.ds []) [],V.none,V.bool false,V.none]++l.drop 2)))) (fun Z Z c hz=>?_) h hz) (.a thg)
  induction c using V.casesOn with
  | a A xs=>induction A using Ag.casesOn with
   | lst=>exact fun Z Z Z Z q=>q
   | _=>exact Bool.noConfusion hz
  | _=>exact Bool.noConfusion hz
 ·obtain ⟨h,rfl⟩:=Dc e
  exact V0 (by decide) (G4 (n:=2) (P:=fun l=>Fx 7 l (V.a (.obj 7 [26,27,28]) (l++[V.none]))) (fun Z Z Z Z Z Z q=>q) h) (.a (Xa hl (B9 _ ⟨trivial,trivial⟩)))
 ·have e:(match Nat.beq l.length 1 with|true=>some (V.a (.obj 8 [8,29]) (l++[V.none]))|false=>gO (Nat.beq l.length 2) (V.a (.obj 8 [8,29]) l))=some v:=e
  cases z:Nat.beq l.length 1 with
  | true =>
   rw [z] at e
   exact Option.some.inj e▸(V0 (by decide) (G4 (n:=1) (P:=fun l=>Fx 8 l (V.a (.obj 8 [8,29]) (l++[V.none]))) (fun Z Z Z Z Z q=>q) z) (.a (Xa hl (B9 _ ⟨trivial,trivial⟩))))
  | false =>
   rw [z] at e
   obtain ⟨h,rfl⟩:=Dc e
   exact V0 (by decide) (G4 (n:=2) (P:=fun l=>Fx 8 l (V.a (.obj 8 [8,29]) l)) (fun Z Z Z Z Z Z q=>q) h) (.a hl)
 ·obtain ⟨h,rfl⟩:=Dc e
  obtain ⟨h,hz⟩:=b2 h
  refine V0 (by decide) (G4 (n:=8) (P:=fun l=>K4 Mt (l.drop 7)=true→Fx 9 l (V.a (.obj 9 [30,31,32,33,13,34,35,26,36,37,38]) (l++[V.bool false,V.str e8,V.none]))) (fun Z Z Z Z Z Z Z i hz=>?_) h hz) (.a (Xa hl (B9 _ ⟨trivial,trivial,trivial,trivial⟩)))
  induction i using V.casesOn with
  | str s =>
   obtain rfl:=k7.mp (show j6 s J6=true from (b2 hz).1)
   exact fun Z Z Z Z q=>q
  | _=>exact Bool.noConfusion hz
theorem yo:∀ {r:List (Nat×(List V→Option V))} {c:Nat} {l:List V} {v:V},DF r c l=some v→∃ p∈r,p.1=c∧p.2 l=some v
 | [],_,_,_,e=>nn e.symm.symm
 | p::r,c,l,v,e=>by
  have e:(match Nat.beq p.1 c with|true=>p.2|false=>DF r c) l=some v:=e
  cases z:Nat.beq p.1 c with
  | true=>rw [z] at e;exact A2 p (.head _) (Nat.eq_of_beq_eq_true z) e
  | false=>rw [z] at e;exact (yo e).imp fun Z h=>⟨.tail _ h.1,h.2⟩
theorem ji(ok:C.Ok)(hT:YA C aB):CF C 3 fB:=fun f l v e τ Q X q=>by
 induction f using V.casesOn with
 | g c =>
  refine F1 (yo e) ?_;intro p hp rI e';obtain rfl:=rI
  refine i4 (Gx p hp l v e') fun h1 h2 h3=>?_
  exact Dx ok hT h1 h3 (h2 C X τ) q
 | _=>exact nn e
end
open PySem.Calls
mutual
noncomputable def Rf(k:Nat)(w:V):V→V
 | .ref j=>match Nat.beq j k with|true=>w|false => .ref j
 | .a K xs => .a K (Wj k w xs)
 | v=>v
noncomputable def Wj(k:Nat)(w:V):List V→List V
 | []=>[]
 | x::xs=>Rf k w x::Wj k w xs
end
noncomputable def Cv(k:Nat):Option V→Prop
 | none=>True
 | some v=>Fa k v
noncomputable def Sf(k:Nat):y0→y0→Prop
 | _,[]=>True
 | [],x::r=>Cv k x∧Sf k [] r
 | y::s,x::r=>(x=y∨Cv k x)∧Sf k s r
theorem Sf.refl{k:Nat}:∀ σ,Sf k σ σ
 | []=>trivial
 | _::s=>⟨.inl rfl,Sf.refl s⟩
theorem Sf.get{k:Nat}:∀ {σ σ':y0},Sf k σ σ'→∀ {j v},A1 σ' j=some v→Fa k v∨∃ i,A1 σ i=some v
 | [],_::_,h,0,v,e=>by obtain rfl:=(show _=some v from e);exact .inl h.1
 | [],_::_,h,j+1,v,e=>(Sf.get h.2 (show A1 _ j=_ from e)).imp id fun z=>z.elim fun Z q=>nn q.symm.symm
 | y::_,_::_,h,0,v,e=>by obtain rfl:=(show _=some v from e);exact h.1.elim (fun q => .inr ⟨0,q.symm⟩) .inl
 | y::_,_::_,h,j+1,v,e=>(Sf.get h.2 (show A1 _ j=_ from e)).imp id fun z=>z.elim fun i q=>⟨i+1,q⟩
section
variable{C:Cx}{k:Nat}{t:St}{h:Heap}{w:V}
mutual
theorem G0.sub(R:Y0 C t h)(e:A1 t.σ k=some w)(n:Fa k w):∀ (v:V) {r:Value},G0 C t h v r→G0 C (t.drop k) h (Rf k w v) r
 | .ref j,r,x=>by
  show G0 C _ h (match Nat.beq j k with|true=>w|false => .ref j) r
  cases q:Nat.beq j k with
  | true =>
   obtain rfl:=Nat.eq_of_beq_eq_true q
   obtain rfl:=x.2
   exact R.frz e n
  | false=>exact G0.drop (.ref j) (fun z=>Nat.ne_of_beq_eq_false q z) x
 | .a K xs,_,e'=>e'.imp fun a x=>x.imp fun d x=>x.imp fun rs z=>Yq z.1 (fun f=>z.2.1 (d8 f)) (fun f=>z.2.2.1 (d8 f)) z.2.2.2.1 (E0.sub R e n xs z.2.2.2.2)
 | .none,_,e=>e
 | .bool _,_,e=>e
 | .int _,_,e=>e
 | .str _,_,e=>e
 | .g _,_,e=>e
 | .b _,_,e=>e
 | .m _ _,_,e=>e
 | .raw _,_,e=>e
theorem E0.sub(R:Y0 C t h)(e:A1 t.σ k=some w)(n:Fa k w):∀ (v:List V) {r:List Value},E0 C t h v r→E0 C (t.drop k) h (Wj k w v) r
 | [],_,e=>e
 | x::xs,_,e'=>e'.imp fun Z x'=>x'.imp fun Z z=>V0 z.1 (G0.sub R e n x z.2.1) (E0.sub R e n xs z.2.2)
end
noncomputable def GC(k:Nat)(σ:y0)(Q:X0):X0:=fun v σ'=>Q v σ'∨∃ u,A1 σ' k=some u∧Fa k u∧Sf k σ (R2 σ' k none)∧Q (Rf k u v) (R2 σ' k none)
theorem B0.gc{n:Nat}{fv:V}{args:List V}{σ:y0}{Q:X0}{X:y0→Prop}(k:Nat)(dead:A1 σ k=none)
  (w:B0 C n fv args σ (GC k σ Q) X):B0 C n fv args σ Q X :=
 ⟨fun r vals A l t s hσ vf va R O am fr=>codeAny_mono (w.run r vals A l t s hσ vf va R O am fr) fun res s' p=>by
  induction res using Except.casesOn with
  | error e=>exact p
  | ok f=>induction f using Flow.casesOn with
   | ret v =>
    refine Z0 p ?_;(repeat clear p);intro t' v' x vr q
    rcases q with q|⟨u,eu,nu,cl,q⟩
    ·exact L1 t' v' x vr q
    have d:¬t.live k:=fun l=>l.elim fun v e=>Q5 (hσ▸dead) e
    have cl':∀ j v,A1 t'.σ j=some v→Fa k v:=fun j v e=>by
     by_cases z:j=k
     ·subst z;obtain rfl:=Option.some.inj (eu.symm.trans e);exact nu
     ·refine (cl.get ((T1 t'.σ none z).trans e)).elim id fun w=>w.elim fun i ei=>?_
      refine R5 (R.cell i v (hσ▸ei)) ?_;intro K xs rs rI _ _ vr;obtain rfl:=rI
      exact Vd d xs vr
    exact L1 (t'.drop k) _ ⟨x.tr.drop d cl',x.gens,x.os⟩ (G0.sub x.tr.rel eu nu v' vr) q
   | _=>exact p⟩
end
structure V2(C:Cx):Prop where
 ok:C.Ok
 F:YA C Aq
theorem sE:∀ f fd,aB f=some fd→Aq f=some fd:=fun f fd e=>by
 induction f using V.casesOn with
 | g x=>exact (congrArg (Option.or · _) (show Em yq x=some fd from e)).trans rfl
 | m c x=>exact (congrArg (Option.or · _) (show Em zq (16*c+x)=some fd from e)).trans rfl
 | _=>exact nn e
theorem V2.T{C:Cx}(H:V2 C):YA C aB:=fun f fd e=>H.F f fd (sE f fd e)
noncomputable abbrev Li(C:Cx)(n j:Nat):F7:=inl aB fB (cO C n) j
section
variable{C:Cx}{n j N:Nat}{f:V}{fd:FD}{l:List V}{σ:y0}{Q:X0}{X:y0→Prop}
theorem K0{b:Bool}{K:Prop}(h:b=true)(k:K):K8 b K:=by refine f0 (h ..) ?_;exact k
theorem F0(H:V2 C)(n j:Nat)(e:Aq f=some fd)(ha:ZA fd l.length=true)(hN:n+3+j+1≤N)(q:I4 (Li C n j) X fd.body (Vj fd l) σ (fun Z σ'=>Q .none σ') Q):B0 C N f l σ Q X :=
 (ii H.ok (XH H.ok H.T (ji H.ok H.T) (Lv.self C n) j) (H.F f fd e) (K0 ha q)).le hN
theorem Y2{b:Bool}{A B:Prop}(h1:b=true→A)(h2:b=false→B):Bf b A B:=by induction b using Bool.casesOn with|true=>exact h1 rfl|false=>exact h2 rfl
theorem Ng{b:Bool}{A B:Prop}(h:b=true)(h1:A):Bf b A B:=by refine f0 (h ..) ?_;exact h1
theorem L6{b:Bool}{A B:Prop}(h:b=false)(h1:B):Bf b A B:=by refine f0 (h ..) ?_;exact h1
theorem tE{p:Prop}{i:Decidable p}{K:Prop}(h:p)(k:K):Dp p K:=K0 (decide_eq_true h) k
theorem M0{α:Type}{o:Option α}{K:α→Prop}{a:α}(h:o=some a)(k:K a):oP o K:=by refine f0 (h ..) ?_;exact k
noncomputable def Og:Nat→(Nat→Prop)→Prop
 | 0,_=>True
 | n+1,P=>Og n P∧P n
theorem ki:∀ {n:Nat} {P:Nat→Prop},Og n P→∀ {d},d<n→P d
 | 0,_,_,_,h=>absurd h (Nat.not_lt_zero _)
 | n+1,P,a,d,h=>(Nat.eq_or_lt_of_le (Nat.le_of_lt_succ h)).elim (fun e=>e▸a.2) (ki a.1)
end
structure Bx where
 g:Nat
 s:Nat
 c:Nat
noncomputable def Ix(b:Bx)(z:Bool):Option V:=some (.a .lst [.int (Int.ofNat b.g),.int (Int.ofNat b.s),.int (Int.ofNat b.c),.bool z])
noncomputable def gas:Nat:=2 ^ 34
noncomputable def Bx.lt(b:Bx)(k:Nat):Prop:=b.c+k<gas∧b.s<10007
section
variable{C:Cx}{n j N:Nat}{σ:y0}{Q:X0}{X:y0→Prop}{b:Bx}{z:Bool}{x:Option V}{τ:y0}{k m:Nat}
theorem Bx.less(h:b.lt (k+1)):b.c+k<gas:=Nat.lt_of_succ_lt (show b.c+k+1<gas from h.1)
theorem Bx.more(h:b.lt (k+1)):b.c+1+k<gas:=(Nat.succ_add b.c k).symm▸(show b.c+k+1<gas from h.1)
theorem mi{a b:Nat}{c:Bool}(h:a<b):(Nat.blt a b||c)=true:=(congrArg (·||c) (Nat.ble_eq_true_of_le (show a+1≤b from h))).trans (Bool.true_or c)
theorem Ob(a:Int)(h:0<m):∃ d,d<m∧a % Int.ofNat m=Int.ofNat d:=by
 have h2:(0:Int)<m:=Int.ofNat_lt.mpr h
 have e:=Int.toNat_of_nonneg (Int.emod_nonneg a (Int.ne_of_gt h2))
 exact C0 _ (Int.ofNat_lt.mp (e▸Int.emod_lt_of_pos a h2)) e.symm
theorem J7(H:V2 C)(hb:b.lt (k+1))(h0:0<m)(hm:m<1073741824)(hq:∀ d b',d<m→b'.lt k→Q (.int (Int.ofNat d)) (x::Ix b' z::τ)):B0 C 5 (.g 64) [.ref 1,.int (Int.ofNat m)] (x::Ix b z::τ) Q X:=by
 have h1:decide ((0:Int)<Int.ofNat m)=true:=decide_eq_true (Int.ofNat_lt.mpr h0)
 refine F0 H 0 0 rfl rfl (by decide) (Y2 (fun h=>?_) fun h=>?_)
 ·show K8 _ (K8 _ (K8 _ (Q _ _)))
  exact K0 h1 (K0 h1 (K0 (Nat.ble_eq_true_of_le hm) (hq (b.g % m) ⟨b.g / m,b.s,b.c⟩ (Nat.mod_lt _ h0) ⟨Bx.less hb,hb.2⟩)))
 ·show K8 _ (K8 _ (K8 _ (Q (.int (_ % _)) _)))
  obtain ⟨d,hd,e⟩:=Ob (m:=m) _ h0
  exact K0 (mi (Nat.lt_trans (Nat.lt_of_le_of_lt (Nat.le_add_right (b.c+1) k) (Bx.more hb)) (by decide))) (K0 (mi (Nat.lt_trans hb.2 (by decide))) (K0 h1 (e▸hq d ⟨b.g,b.s,b.c+1⟩ hd ⟨Bx.more hb,hb.2⟩)))
end
noncomputable def Pl:V→Prop
 | .none=>True
 | .bool _=>True
 | .int i=>Nat.blt i.natAbs 1000=true
 | .str s=>s=w9
 | _=>False
noncomputable def Tc:List V:=[.int 0,.none,.int 7,.bool true,.str w9,.bool false,.int (-3)]
theorem ni{P:V→Prop}:∀ {l:List V},(∀ x∈l,P x)→∀ {i},i<l.length→∃ x,nth l i=some x∧P x
 | x::_,h,0,_=>C0 x rfl (h x (.head _))
 | _::_,h,_+1,hi=>ni (fun y hy=>h y (.tail _ hy)) (Nat.lt_of_succ_lt_succ hi)
theorem Bq:∀ x∈Tc,Pl x:=by
 have:∀ l:List V,jB 0 (fun Z=>True):=fun Z=>trivial
 exact List.forall_mem_cons.mpr ⟨rfl,List.forall_mem_cons.mpr ⟨trivial,List.forall_mem_cons.mpr ⟨rfl,List.forall_mem_cons.mpr ⟨trivial,List.forall_mem_cons.mpr ⟨rfl,List.forall_mem_cons.mpr ⟨trivial,List.forall_mem_cons.mpr ⟨rfl,(fun Z h=>(List.not_mem_nil h).elim)⟩⟩⟩⟩⟩⟩⟩
section
variable{C:Cx}{n j N:Nat}{σ:y0}{Q:X0}{X:y0→Prop}{b:Bx}{z:Bool}{x:Option V}{τ:y0}{k m:Nat}
theorem Xj(H:V2 C)(hb:b.lt (k+1))(hq:∀ i p b',i<7→nth Tc i=some p→b'.lt k→Q p (x::Ix b' z::τ)):B0 C 9 (.g 65) [.ref 1] (x::Ix b z::τ) Q X:=by
 refine F0 H 5 0 rfl rfl (by decide) (J7 (m:=7) H hb (by decide) (by decide) fun d b' hd hb'=>?_)
 refine A0 (ni (l:=Tc) Bq hd) fun p e hp=>?_
 exact M0 e (hq d p b' hd e hb')
end
noncomputable def Ze{α:Type}(P:α→Prop):List α→Prop
 | []=>True
 | x::r=>P x∧Ze P r
theorem P1{α:Type}{P:α→Prop}:∀ {l:List α},Ze P l→∀ {i x},nth l i=some x→P x
 | _::_,h,0,_,e=>Option.some.inj e▸h.1
 | _::_,h,_+1,_,e=>P1 h.2 e
theorem K7{α:Type}{P:α→Prop}:∀ {l:List α},Ze P l→∀ {i},i<l.length→∃ x,nth l i=some x∧P x
 | x::_,h,0,_=>C0 x rfl h.1
 | _::_,h,_+1,hi=>K7 h.2 (Nat.lt_of_succ_lt_succ hi)
structure Rw where
 op:Str
 a:V
 b:V
 c:V
noncomputable abbrev Rw.v(r:Rw):V := .a .lst [.str r.op,r.a,r.b,r.c]
noncomputable abbrev Rw.o(r:Rw):V := .a (.obj 0 [0,1,2,3,4]) [.str r.op,r.a,r.b,r.c,.int 0]
noncomputable def ri(op:Str)(i:Int):Rw:=⟨op,.int i,.none,.none⟩
noncomputable def rn(op:Str):Rw:=⟨op,.none,.none,.none⟩
noncomputable def rs(op:Str)(i j:Int):Rw:=⟨op,.int i,.int j,.none⟩
noncomputable def Cq(i j:Int):Rw:=⟨I3,.int i,.none,.int j⟩
noncomputable def rf(i:Int)(b:Bool):Rw:=⟨G3,.int i,.bool b,.none⟩
noncomputable def rk(op:Str)(x:V):Rw:=⟨op,x,.none,.none⟩
noncomputable def oi:List Rw:=[ri E5 1,ri E5 2,ri E5 0,rn t9,rs V3 0 0,rs V3 0 1,rs V3 1 0,rs V3 1 1,rn C8,Cq 0 0,Cq 0 1,Cq 0 2,Cq 1 0,Cq 1 1,Cq 1 2,Cq 2 0,Cq 2 1,Cq 2 2,
 rn l7,rn Z5,rs d5 0 0,rs d5 0 1,rs d5 1 0,rs d5 1 1,rf 0 false,rf 0 true,rf 1 false,rf 1 true,rf 2 false,rf 2 true,ri A3 1,rk A3 (.str ra),rn A3,rn X6,
 ri Q1 0,rn Q1,ri Q1 7,rk Q1 (.bool true),rk Q1 (.str w9),rk Q1 (.bool false),ri Q1 (-3),ri F3 0,ri F3 (-1),ri F3 1,ri F3 (-2),ri F3 2,ri N2 1,rk N2 (.str ra),rn N2,
 rn S4,rn D8,rk V1 (.a .lst [.str ra]),rk V1 (.a .lst []),rk V1 (.a .lst [.int 1,.str ra]),rk U6 (.str y9),rk U6 (.str Oc),rn Y5,ri Q1 8,rn J0]
noncomputable def K1:List Str:=[G1,J1,A4,U0]
noncomputable def D3:List Str:=[E5,t9,V3,C8,I3,l7,Z5,d5,G3,A3,X6,Q1,F3,N2,S4,D8,V1,U6,Y5]
inductive RK:Rw→Prop
 | c (i:Nat) {r:Rw}:nth oi i=some r→RK r
 | j (i:Nat) {op:Str}:nth K1 i=some op→(t:Nat)→t<1000→RK (ri op (Int.ofNat t))
noncomputable def W3(op:Str):Prop:=∀ (C:Cx) (_:V2 C) (b:Bx) (z:Bool) (k:Nat) (x:Option V) (τ:y0) (Q:X0) (X:y0→Prop),b.lt (k+2)→(∀ r b',RK r→r.op=op→b'.lt k→Q r.v (x::Ix b' z::τ))→B0 C 15 (.g 67) [.ref 1,.str op] (x::Ix b z::τ) Q X
noncomputable def iz(C:Cx)(X:y0→Prop)(op:Str)(σ:y0)(Q:X0):Prop:=I4 (Li C 9 2) X A9.body (Vj A9 [.ref 1,.str op]) σ (fun Z σ'=>Q .none σ') Q
noncomputable def jz(op:Str)(l:List V):Prop:=∀ (C:Cx) X σ Q,B0 C 9 (.g 64) [.ref 1,.int (Int.ofNat l.length)] σ (fun d σ'=>iP d fun i=>oP (ga l i) fun v=>Q (.a .lst [.str op,v,.none,.none]) σ') X→iz C X op σ Q
theorem Bx.weak{b:Bx}{k:Nat}(h:b.lt (k+1)):b.lt k:=⟨Bx.less h,h.2⟩
theorem m7{op:Str}{l:List V}(w:jz op l)(hr:Ze (fun v=>RK (rk op v)) l)(h0:0<l.length)(h1:l.length<1073741824):W3 op:=fun C H b z k x τ Q X hb hq =>
 F0 H 9 2 rfl rfl (by decide) (w C X _ Q ((J7 H hb h0 h1 fun d b' hd hb'=>by
  refine A0 (K7 hr hd) fun v e hv=>?_
  exact M0 e (hq _ b' hv rfl (Bx.weak hb'))).le (by decide)))
theorem zo{i:Nat}{op:Str}(e:nth K1 i=some op):Ze (fun v=>RK (rk op v)) [.int 5,.int 7,.int 9]:=⟨.j i e 5 (by decide),.j i e 7 (by decide),.j i e 9 (by decide),trivial⟩
theorem Dq:W3 G1:=m7 (l:=[.int 5,.int 7,.int 9]) (fun Z Z Z Z q=>q) (zo (i:=0) rfl) (by decide) (by decide)
theorem Nt:W3 J1:=m7 (l:=[.int 5,.int 7,.int 9]) (fun Z Z Z Z q=>q) (zo (i:=1) rfl) (by decide) (by decide)
theorem kB:W3 A4:=m7 (l:=[.int 5,.int 7,.int 9]) (fun Z Z Z Z q=>q) (zo (i:=2) rfl) (by decide) (by decide)
theorem qi:W3 U0:=m7 (l:=[.int 5,.int 7,.int 9]) (fun Z Z Z Z q=>q) (zo (i:=3) rfl) (by decide) (by decide)
theorem Ad{op:Str}(w:jz op [.none])(i:Nat)(e:nth oi i=some (rn op)):W3 op:=m7 w ⟨.c i e,trivial⟩ (by decide) (by decide)
theorem lB:W3 E5:=m7 (l:=[.int 1,.int 2,.int 0]) (fun Z Z Z Z q=>q) ⟨.c 0 rfl,.c 1 rfl,.c 2 rfl,trivial⟩ (by decide) (by decide)
theorem Fq:W3 A3:=m7 (l:=[.int 1,.str ra,.none]) (fun Z Z Z Z q=>q) ⟨.c 30 rfl,.c 31 rfl,.c 32 rfl,trivial⟩ (by decide) (by decide)
theorem Fm:W3 N2:=m7 (l:=[.int 1,.str ra,.none]) (fun Z Z Z Z q=>q) ⟨.c 46 rfl,.c 47 rfl,.c 48 rfl,trivial⟩ (by decide) (by decide)
theorem Ot:W3 F3:=m7 (l:=[.int 0,.int (-1),.int 1,.int (-2),.int 2]) (fun Z Z Z Z q=>q) ⟨.c 41 rfl,.c 42 rfl,.c 43 rfl,.c 44 rfl,.c 45 rfl,trivial⟩ (by decide) (by decide)
theorem Yj:W3 V1:=m7 (l:=[.a .lst [.str ra],.a .lst [],.a .lst [.int 1,.str ra]]) (fun Z Z Z Z q=>q) ⟨.c 51 rfl,.c 52 rfl,.c 53 rfl,trivial⟩ (by decide) (by decide)
theorem mB:W3 U6:=m7 (l:=[.str y9,.str Oc]) (fun Z Z Z Z q=>q) ⟨.c 54 rfl,.c 55 rfl,trivial⟩ (by decide) (by decide)
theorem two{n m:Nat}{P:Nat→Nat→Prop}(h:Og n fun i=>Og m (P i)){i j:Nat}(hi:i<n)(hj:j<m):P i j:=ki (ki h hi) hj
noncomputable def mz(op:Str)(n m:Nat)(f:y0→V→V→(V→Prop)→Prop):Prop:=∀ (C:Cx) X σ Q,B0 C 9 (.g 64) [.ref 1,.int (Int.ofNat n)] σ (fun d σ'=>B0 C 9 (.g 64) [.ref 1,.int (Int.ofNat m)] σ' (fun e σ'=>f σ' d e fun v=>Q v σ') X) X→iz C X op σ Q
theorem Gm{op:Str}{n m:Nat}{f:y0→V→V→(V→Prop)→Prop}(g:Nat→Nat→Rw)(hn:0<n)(hn2:n<1073741824)(hm:0<m)(hm2:m<1073741824)(ho:∀ i j,(g i j).op=op)(hr:Og n fun i=>Og m fun j=>RK (g i j))
  (w:mz op n m f) (hf:∀ σ i j P,P (g i j).v→f σ (.int (Int.ofNat i)) (.int (Int.ofNat j)) P):W3 op:=fun C H b z k x τ Q X hb hq =>
 F0 H 9 2 rfl rfl (by decide) (w C X _ Q ((J7 H hb hn hn2 fun d b' hd hb'=>(J7 H hb' hm hm2 fun e b2 he hb2=>hf _ _ _ _ (hq _ b2 (two (P:=fun i j=>RK (g i j)) hr hd he) (ho d e) hb2)).le (by decide)).le (by decide)))
theorem Pt{op:Str}(i:Nat)(w:mz op 2 2 fun Z d e P=>P (.a .lst [.str op,d,e,.none]))
  (h0:nth oi i=some (rs op 0 0)) (h1:nth oi (i+1)=some (rs op 0 1)) (h2:nth oi (i+2)=some (rs op 1 0)) (h3:nth oi (i+3)=some (rs op 1 1)):W3 op :=
 Gm (n:=2) (m:=2) (fun i j=>rs op (Int.ofNat i) (Int.ofNat j)) (by decide) (by decide) (by decide) (by decide) (fun Z Z=>rfl) ⟨⟨trivial,⟨trivial,.c i h0⟩,.c (i+1) h1⟩,⟨trivial,.c (i+2) h2⟩,.c (i+3) h3⟩ w fun Z Z Z Z h=>h
theorem nB:W3 d5:=Pt 20 (fun Z Z Z Z q=>q) rfl rfl rfl rfl
theorem oB:W3 V3:=Pt 4 (fun Z Z Z Z q=>q) rfl rfl rfl rfl
theorem Hm:W3 I3 :=
 Gm (f:=fun Z d e P=>P (.a .lst [.str I3,d,.none,e])) (fun i j=>Cq (Int.ofNat i) (Int.ofNat j)) (n:=3) (m:=3) (by decide) (by decide) (by decide) (by decide) (fun Z Z=>rfl)
  ⟨⟨⟨trivial,⟨⟨trivial,.c 9 rfl⟩,.c 10 rfl⟩,.c 11 rfl⟩,⟨⟨trivial,.c 12 rfl⟩,.c 13 rfl⟩,.c 14 rfl⟩,⟨⟨trivial,.c 15 rfl⟩,.c 16 rfl⟩,.c 17 rfl⟩ (fun Z Z Z Z q=>q) fun Z Z Z Z h=>h
theorem Im:W3 G3 :=
 Gm (f:=fun σ d e P=>oP (cg (der σ e) (.int 1)) fun b=>P (.a .lst [.str G3,d,.bool b,.none])) (fun i j=>rf (Int.ofNat i) (Int.ofNat j==1)) (n:=3) (m:=2) (by decide) (by decide) (by decide) (by decide) (fun Z Z=>rfl)
  ⟨⟨⟨trivial,⟨trivial,.c 24 rfl⟩,.c 25 rfl⟩,⟨trivial,.c 26 rfl⟩,.c 27 rfl⟩,⟨trivial,.c 28 rfl⟩,.c 29 rfl⟩ (fun Z Z Z Z q=>q) fun Z Z Z Z h=>h
theorem Qt:∀ {i p},nth Tc i=some p→RK (rk Q1 p):=by
 have h:Ze (fun p=>RK (rk Q1 p)) Tc:=⟨.c 34 rfl,.c 35 rfl,.c 36 rfl,.c 37 rfl,.c 38 rfl,.c 39 rfl,.c 40 rfl,trivial⟩
 exact fun {_ _} e=>P1 h e
theorem pB:W3 Q1:=fun C H b z k x τ Q X hb hq =>
 F0 H 9 2 rfl rfl (by decide) (Xj H hb fun i p b' hi e hb'=>hq _ b' (Qt e) rfl (Bx.weak hb'))
theorem Zj{i:Nat}{op:Str}(e:nth (D3++K1) i=some op):W3 op:=by
 have h:Ze W3 (D3++K1):=⟨lB,Ad (fun Z Z Z Z q=>q) 3 rfl,oB,Ad (fun Z Z Z Z q=>q) 8 rfl,Hm,Ad (fun Z Z Z Z q=>q) 18 rfl,Ad (fun Z Z Z Z q=>q) 19 rfl,nB,Im,Fq,Ad (fun Z Z Z Z q=>q) 33 rfl,pB,Ot,Fm,
  Ad (fun Z Z Z Z q=>q) 49 rfl,Ad (fun Z Z Z Z q=>q) 50 rfl,Yj,mB,Ad (fun Z Z Z Z q=>q) 56 rfl,Dq,Nt,kB,qi,trivial⟩
 exact P1 h e
noncomputable def rp(v:V):Str:=(En v).getD z_
theorem Pl.rp{v:V}(h:Pl v):En v=some (rp v):=by
 induction v using V.casesOn with
 | none=>rfl
 | bool b=>rfl
 | int i=>have e:En (.int i)=some (Str.ofString (toString i)):=(congrArg (gO · _) (show Nat.blt i.natAbs 1000=true from h));exact e.trans (congrArg (fun z=>some (z.getD z_)) e).symm
 | str s=>obtain rfl:=(show s=w9 from h);rfl
 | _=>exact False.elim h
noncomputable abbrev L7(n:Nat)(xs:List V):V := .a (.obj 5 [13,18,19,20,21,22,24]) [.int (Int.ofNat n),.none,.a (.ds []) [],.none,.bool false,.none,.a .lst xs]
noncomputable abbrev K2(n:Nat)(s:Str):V := .a (.obj 4 [13,18,19,20,21,22,23]) [.int (Int.ofNat n),.none,.a (.ds []) [],.none,.bool false,.none,.str s]
noncomputable abbrev Jx(p:V):V := .a (.obj 7 [26,27,28]) [.str Wh,p,.none]
noncomputable abbrev bk:V := .a (.obj 3 [13,18,19,20,21,22]) [.int 3,.none,.ref 5,.none,.bool false,.none]
noncomputable def Ao:V→List MK
 | .none=>[.str Dt,.none]
 | .int i=>[.str At,.int i]
 | .str s=>[.str w9,.str s]
 | _=>[]
noncomputable def M7:List V→List V→List V
 | k::ks,x::xs => .a .lst [k,x]::M7 ks xs
 | _,_=>[]
noncomputable def Bo:List V→List V→List V
 | k::ks,x::xs => .a .lst [.str (rp k),.str (rp x)]::Bo ks xs
 | _,_=>[]
noncomputable def C9(n:Nat)(ks xs:List V):V := .a (.obj 6 [13,18,19,20,21,22,9,25]) [.int (Int.ofNat n),.none,.a (.ds []) [],.none,.bool false,.none,.a (.dt (ks.map Ao)) (M7 ks xs),.none]
noncomputable def D9:List (List V):=[[],[.int 1],[.int 1,.str ra],[.int 1,.str ra,.none],[.str ra]]
inductive VS(M:Nat):V→V→Prop
 | p {v}:Pl v→VS M v (.a .lst [.str (rp v)])
 | l {n xs}:n≤M→(∀ x∈xs,Pl x)→xs.length≤3→VS M (L7 n xs) (.a .lst [.str qm,.int (Int.ofNat n),.a .lst (xs.map fun x => .str (rp x))])
 | h {n ks xs} (i:Nat):n≤M→nth D9 i=some ks→Nat.beq xs.length ks.length=true→(∀ x∈xs,Pl x)→VS M (C9 n ks xs) (.a .lst [.str Xd,.int (Int.ofNat n),.a .lst (Bo ks xs)])
 | w {p}:Pl p→VS M (Jx p) (.a .lst [.str dz,.str (rp p)])
 | t {n s}:n≤M→2<n→VS M (K2 n s) (.a .lst [.str S3,.int (Int.ofNat n)])
 | o:3≤M→VS M bk (.a .lst [.str S3,.int 3])
theorem cf{f:y0→y0→(Option V→y0→Prop)→Prop}{ρ σ:y0}{i:Nat}{G:y0→Prop→Prop}{Q:List V→y0→Prop}(h:V→V)(hG:∀ K:Prop,K→G σ K) :
  ∀ {xs acc:List V},(∀ x∈xs,∀ K:Option V→y0→Prop,K (some (h x)) σ→f (R2 ρ i (some x)) σ K)→Q (acc++xs.map h) σ→Z4 f ρ [i] false G xs σ acc Q
 | [],acc,_,q=>hG _ ((List.append_nil acc)▸q)
 | x::xs,acc,hf,q=>hG _ (hf x (.head _) _ (cf h hG (fun y hy=>hf y (.tail _ hy)) (by refine f0 (List.append_assoc ..) ?_;exact q)))
section
variable{C:Cx}{n j N M:Nat}{σ:y0}{Q:X0}{X:y0→Prop}{v s:V}
theorem Kx{P:List V→List V→Prop}(h0:P [] [])(h1:∀ a,Pl a→P [.int 1] [a]∧P [.str ra] [a])(h2:∀ a b,Pl a→Pl b→P [.int 1,.str ra] [a,b])(h3:∀ a b c,Pl a→Pl b→Pl c→P [.int 1,.str ra,.none] [a,b,c])
  {i:Nat} {ks xs:List V} (hk:nth D9 i=some ks) (hl:Nat.beq xs.length ks.length=true) (hx:∀ x∈xs,Pl x):P ks xs:=by
 have h:Ze (fun ks=>∀ xs,Nat.beq xs.length ks.length=true→(∀ x∈xs,Pl x)→P ks xs) D9 :=
  ⟨fun xs e hx=>G4 (n:=0) (P:=fun xs=>(∀ x∈xs,Pl x)→P [] xs) (fun Z=>h0) e hx,
   fun xs e hx=>G4 (n:=1) (P:=fun xs=>(∀ x∈xs,Pl x)→P [.int 1] xs) (fun a h=>(h1 a (h a (.head _))).1) e hx,
   fun xs e hx=>G4 (n:=2) (P:=fun xs=>(∀ x∈xs,Pl x)→P [.int 1,.str ra] xs) (fun a b h=>h2 a b (h a (.head _)) (h b (.tail _ (.head _)))) e hx,
   fun xs e hx=>G4 (n:=3) (P:=fun xs=>(∀ x∈xs,Pl x)→P [.int 1,.str ra,.none] xs) (fun a b c h=>h3 a b c (h a (.head _)) (h b (.tail _ (.head _))) (h c (.tail _ (.tail _ (.head _))))) e hx,
   fun xs e hx=>G4 (n:=1) (P:=fun xs=>(∀ x∈xs,Pl x)→P [.str ra] xs) (fun a h=>(h1 a (h a (.head _))).2) e hx,trivial⟩
 exact P1 h hk xs hl hx
theorem Co(H:V2 C)(h:VS M v s)(hq:Q s σ):B0 C 9 (.g 71) [v] σ Q X:=by
 cases h with
 | p hp=>induction v using V.casesOn with
  | none=>exact F0 H 0 2 rfl rfl (by decide) hq
  | bool b=>exact F0 H 0 2 rfl rfl (by decide) hq
  | int i=>exact F0 H 0 2 rfl rfl (by decide) (M0 hp.rp hq)
  | str s=>obtain rfl:=(show s=w9 from hp);exact F0 H 0 2 rfl rfl (by decide) hq
  | _=>exact False.elim hp
 | l _ hx _=>exact F0 H 0 2 rfl rfl (by decide) (cf (fun x => .str (rp x)) (fun Z k=>k) (fun x hm K k=>M0 (hx x hm).rp k) hq)
 | w hp=>exact F0 H 0 2 rfl rfl (by decide) (M0 hp.rp hq)
 | t _ _=>exact F0 H 0 2 rfl rfl (by decide) hq
 | o=>exact F0 H 0 2 rfl rfl (by decide) hq
 | @h n ks xs i _ hk hl hx =>
  refine Kx (P:=fun ks xs=>Q (.a .lst [.str Xd,.int (Int.ofNat n),.a .lst (Bo ks xs)]) σ→B0 C 9 (.g 71) [C9 n ks xs] σ Q X) (fun q=>?_) (fun a ha=>⟨fun q=>?_,fun q=>?_⟩) (fun a b ha hb q=>?_) (fun a b c ha hb hc q=>?_) hk hl hx hq
  ·exact F0 H 0 2 rfl rfl (by decide) q
  ·exact F0 H 0 2 rfl rfl (by decide) (M0 ha.rp q)
  ·exact F0 H 0 2 rfl rfl (by decide) (M0 ha.rp q)
  ·exact F0 H 0 2 rfl rfl (by decide) (M0 ha.rp (M0 hb.rp q))
  ·exact F0 H 0 2 rfl rfl (by decide) (M0 ha.rp (M0 hb.rp (M0 hc.rp q)))
end
noncomputable def uE:Bool→V
 | true=>bk
 | false => .int 7
noncomputable abbrev qB:V := .a .lst [K2 1 b6,K2 2 d6]
noncomputable abbrev YH:V := .a .lst [.a .lst [.str S3,.int 1],.a .lst [.str S3,.int 2]]
noncomputable abbrev Jm:V := .a (.obj 8 [8,29]) [.ref 3,.a (.obj 8 [8,29]) [.ref 4,.none]]
noncomputable abbrev Rt(h:Bool):V := .a (.obj 9 [30,31,32,33,13,34,35,26,36,37,38]) [uE h,.none,.a .lst [],.none,.int 1,.a .lst [],.none,.str J6,.bool false,.str e8,.none]
noncomputable abbrev nz(m:Nat)(h:Bool):V := .a (.ds [V6,U9,Xh,Wd,Uh]) [.int (Int.ofNat m),qB,YH,Jm,Rt h]
structure Wk where
 z:Bool
 h:Bool
 τ:y0
structure Sl where
 a:V
 b:V
 c:V
 d:V
noncomputable def Wt(w:Wk)(b:Bx)(m:Nat)(s:Sl)(r6 r7 r8 r9 r10 r11:Option V):y0 :=
 none::Ix b w.z::some (nz m w.h)::some (.a .lst [s.a,s.b])::some (.a .lst [s.c,s.d])::some (.a (.ds [y9]) [.int 4])::r6::r7::r8::r9::r10::r11::w.τ
noncomputable abbrev Wr(w:Wk)(b:Bx)(m:Nat)(s:Sl):y0:=Wt w b m s none none none none none none
section
variable{C:Cx}{n j N M:Nat}{σ:y0}{Q:X0}{X:y0→Prop}{v:V}{w:Wk}{b:Bx}{m k:Nat}{s:Sl}{r6 r7 r8 r9 r10 r11:Option V}
theorem Y3(H:V2 C)(hb:b.lt (k+1)){j:Nat}(h0:0<j)(hm:j<1073741824)(hq:∀ d b',d<j→b'.lt k→Q (.int (Int.ofNat d)) (Wt w b' m s r6 r7 r8 r9 r10 r11)):B0 C 5 (.g 64) [.ref 1,.int (Int.ofNat j)] (Wt w b m s r6 r7 r8 r9 r10 r11) Q X:=J7 H hb h0 hm hq
theorem n5(H:V2 C)(hb:b.lt (k+1))(hq:∀ p b',Pl p→b'.lt k→Q p (Wt w b' m s r6 r7 r8 r9 r10 r11)):B0 C 9 (.g 65) [.ref 1] (Wt w b m s r6 r7 r8 r9 r10 r11) Q X:=Xj H hb fun i p b' Z e hb'=>hq p b' (P1 (P:=Pl) (l:=Tc) ⟨rfl,trivial,rfl,trivial,rfl,trivial,rfl,trivial⟩ e) hb'
theorem Pl.nor{k:Nat}{v:V}(h:Pl v):Fa k v:=by
 induction v using V.casesOn with
 | ref=>exact False.elim h
 | a=>exact False.elim h
 | _=>trivial
theorem Tt(h:Bool):Fa (k+6) (uE h):=by induction h using Bool.casesOn with
 | true=>exact ⟨trivial,trivial,nofun,trivial,trivial,trivial,trivial⟩
 | false=>trivial
theorem i8(m:Nat)(h:Bool):Fa (k+6) (nz m h):=⟨trivial,⟨⟨trivial,trivial,trivial,trivial,trivial,trivial,trivial,trivial⟩,⟨trivial,trivial,trivial,trivial,trivial,trivial,trivial,trivial⟩,trivial⟩,⟨⟨trivial,trivial,trivial⟩,⟨trivial,trivial,trivial⟩,trivial⟩,⟨nofun,⟨nofun,trivial,trivial⟩,trivial⟩,⟨Tt h,trivial,trivial,trivial,trivial,trivial,trivial,trivial,trivial,trivial,trivial,trivial⟩,trivial⟩
theorem Km(b:Bx)(z:Bool):Cv k (Ix b z):=⟨trivial,trivial,trivial,trivial,trivial⟩
noncomputable def Ut:List V:=[.int 1,.str ra,.none]
noncomputable def Qg:V→V
 | .none => .a .tup [.str Dt,.none]
 | .int i => .a .tup [.str At,.int i]
 | .str s => .a .tup [.str w9,.str s]
 | v=>v
theorem Pb(H:V2 C){i:Nat}{v:V}(e:nth Ut i=some v)(hq:Q (Qg v) σ):B0 C 6 (.g 33) [v] σ Q X :=
 P1 (P:=fun v=>Q (Qg v) σ→B0 C 6 (.g 33) [v] σ Q X) (l:=Ut) ⟨fun q=>F0 H 0 2 rfl rfl (by decide) q,fun q=>F0 H 0 2 rfl rfl (by decide) q,fun q=>F0 H 0 2 rfl rfl (by decide) q,trivial⟩ e hq
theorem Do(H:V2 C){n:Nat}(hq:Q (.a (.obj 6 [13,18,19,20,21,22,9,25]) [.int (Int.ofNat n),.none,.a (.ds []) [],.none,.bool false,.none,.ref 6,.none]) (Wt w b m s (some (.a (.dt []) [])) r7 r8 r9 r10 r11)):B0 C 6 (.g 6) [.int (Int.ofNat n),.none] (Wt w b m s none r7 r8 r9 r10 r11) Q X:=by
 refine B0.gc 0 rfl (Mc (n:=5) H.ok (k:=0) (by decide) rfl (F0 H 0 1 rfl rfl (by decide) (C0 6 rfl (.inr (i5 _ rfl ?_ ?_ hq)))))
 ·exact ⟨trivial,trivial,trivial,trivial,trivial,trivial,nofun,trivial,trivial⟩
 ·exact ⟨.inl rfl,.inl rfl,.inl rfl,.inl rfl,.inl rfl,.inl rfl,.inr trivial,.inl rfl,.inl rfl,.inl rfl,.inl rfl,.inl rfl,Sf.refl _⟩
end
noncomputable def S.tl:S→S
 | .cons _ r=>r
 | s=>s
noncomputable def S.hd:S→S
 | .cons s _=>s
 | s=>s
noncomputable def S.th:S→S
 | .ife _ a _=>a
 | s=>s
theorem Bx.le{b:Bx}{k k':Nat}(h:b.lt k)(e:k'≤k):b.lt k':=⟨Nat.lt_of_le_of_lt (Nat.add_le_add_left e _) h.1,h.2⟩
inductive Lt|v|l|h|w
noncomputable def Lt.s:Lt→Str
 | .v=>wo | .l=>lx | .h=>jx | .w=>xC
noncomputable def VL(M:Nat)(x s:V):Lt→Prop
 | .v=>VS M x s
 | .l=>VS M x s∧Ny x=some (.inr 5)
 | .h=>VS M x s∧Ny x=some (.inr 6)
 | .w=>VS M x s∧Ny x=some (.inr 7)
theorem VL.vs{M:Nat}{x s:V}{L:Lt}(h:VL M x s L):VS M x s:=by induction L using Lt.casesOn with
 | v=>exact h
 | _=>exact h.1
section
variable{C:Cx}{n j N M:Nat}{σ:y0}{Q R:X0}{X:y0→Prop}{v:V}{w:Wk}{b:Bx}{m k:Nat}{s:Sl}{r6 r7 r8 r9 r10 r11:Option V}{NN:y0→y0→Prop}
theorem Eo{f:y0→y0→(Option V→y0→Prop)→Prop}{ρ:y0}{i:Nat}{Q:List V→y0→Prop}
  (hf:∀ x b k K,b.lt (k+1)→(∀ p b',Pl p→b'.lt k→K (some p) (Wr w b' m s))→f (R2 ρ i (some x)) (Wr w b m s) K) :
  ∀ {zs xs acc:List V} {b:Bx},b.lt (k+xs.length)→(∀ ys b',(∀ y∈ys,Pl y)→ys.length=xs.length→b'.lt k→Q (acc++ys) (Wr w b' m s))→Z4 f ρ [i] false (R8 none zs) xs (Wr w b m s) acc Q
 | zs,[],acc,b,hb,q=>(List.append_nil acc).symm▸q [] b (fun Z h=>(List.not_mem_nil h).elim) rfl hb
 | zs,x::xs,acc,b,hb,q=>hf x b (k+xs.length) _ hb fun p b' hp hb'=>Eo hf hb' fun ys b2 hy hl h2 =>
   (show acc++(some p).toList++ys=acc++p::ys from List.append_assoc ..)▸q (p::ys) b2 (List.forall_mem_cons.mpr ⟨hp,hy⟩) (congrArg (·+1) hl) h2
theorem Vt(H:V2 C)(hb:b.lt (k+4))(hq:∀ x s' b',VL (m+1) x s' .l→b'.lt k→R x (Wr w b' (m+1) s)):I4 (Li C 9 3) X Va.body.tl.tl.hd.th [some (.ref 1),some (.ref 2),some (.str lx)] (Wr w b (m+1) s) NN R:=by
 refine (Y3 H hb (by decide) (by decide) fun d b' hd hb'=>?_).le (by decide)
 refine K0 (Nat.ble_eq_true_of_le (Nat.le_trans (Nat.le_of_lt_succ hd) (by decide))) (K0 (Nat.ble_eq_true_of_le (Nat.le_trans (Nat.le_of_lt_succ hd) (by decide))) ?_)
 have e:(L4 0 (Int.ofNat d)).length=d:=(Q9 ..).trans (congrArg Int.toNat (Int.sub_zero _))
 refine Eo (fun x b k K hb hK=>n5 H hb hK) (b:=b') (k:=k) (Bx.le hb' (e.symm▸Nat.add_le_add_left (Nat.le_of_lt_succ hd) k)) fun ys b2 hy hl h2=>?_
 exact hq (L7 (m+1) ys) _ b2 ⟨.l (Nat.le_refl _) hy (hl▸e.symm▸Nat.le_of_lt_succ hd),rfl⟩ h2
noncomputable abbrev vE(n:Nat):V := .a (.obj 6 [13,18,19,20,21,22,9,25]) [.int (Int.ofNat n),.none,.a (.ds []) [],.none,.bool false,.none,.ref 6,.none]
noncomputable abbrev xH(ks xs:List V):Option V:=some (.a (.dt (ks.map Ao)) (M7 ks xs))
theorem oz(H:V2 C)(hb:b.lt (k+1))(q0:∀ b',b'.lt k→Q (.int 0) (Wt w b' m s r6 r7 r8 r9 r10 r11))(q1:∀ b',b'.lt k→Q (.int 1) (Wt w b' m s r6 r7 r8 r9 r10 r11))(q2:∀ b',b'.lt k→Q (.int 2) (Wt w b' m s r6 r7 r8 r9 r10 r11))(q3:∀ b',b'.lt k→Q (.int 3) (Wt w b' m s r6 r7 r8 r9 r10 r11)) :
  B0 C 5 (.g 64) [.ref 1,.int 4] (Wt w b m s r6 r7 r8 r9 r10 r11) Q X :=
 Y3 H hb (by decide) (by decide) fun d b' hd hb'=>ki (n:=4) (P:=fun d=>Q (.int (Int.ofNat d)) (Wt w b' m s r6 r7 r8 r9 r10 r11)) ⟨⟨⟨⟨trivial,q0 b' hb'⟩,q1 b' hb'⟩,q2 b' hb'⟩,q3 b' hb'⟩ hd
theorem Yt(H:V2 C)(hb:b.lt (k+4))(hq:∀ i ks xs b',nth D9 i=some ks→Nat.beq xs.length ks.length=true→(∀ x∈xs,Pl x)→b'.lt k→R (vE (m+1)) (Wt w b' (m+1) s (xH ks xs) none none none none none)) :
  I4 (Li C 9 3) X Va.body.tl.tl.tl.hd.th [some (.ref 1),some (.ref 2),some (.str jx)] (Wr w b (m+1) s) NN R:=by
 have c0:∀ {σ Q},Q (Qg (.int 1)) σ→B0 C 9 (.g 33) [.int 1] σ Q X:=fun q=>(Pb H (i:=0) rfl q).le (by decide)
 have c1:∀ {σ Q},Q (Qg (.str ra)) σ→B0 C 9 (.g 33) [.str ra] σ Q X:=fun q=>(Pb H (i:=1) rfl q).le (by decide)
 have c2:∀ {σ Q},Q (Qg .none) σ→B0 C 9 (.g 33) [.none] σ Q X:=fun q=>(Pb H (i:=2) rfl q).le (by decide)
 refine (Do H ?_).le (by decide)
 refine (oz H hb (fun b' hb'=>?_) (fun b' hb'=>?_) (fun b' hb'=>?_) fun b' hb'=>?_).le (by decide)
 ·exact hq 0 [] [] b' rfl rfl (fun Z h=>(List.not_mem_nil h).elim) (Bx.le hb' (Nat.le_add_right k 3))
 ·exact n5 H (Bx.le hb' (Nat.le_refl _)) fun a b1 ha h1=>c0 (hq 1 [.int 1] [a] b1 rfl rfl (List.forall_mem_cons.mpr ⟨ha,(fun Z h=>(List.not_mem_nil h).elim)⟩) (Bx.le h1 (Nat.le_add_right k 2)))
 ·exact n5 H (Bx.le hb' (Nat.le_refl _)) fun a b1 ha h1=>c0 (n5 H h1 fun c b2 hc h2=>c1 (hq 2 [.int 1,.str ra] [a,c] b2 rfl rfl (List.forall_mem_cons.mpr ⟨ha,List.forall_mem_cons.mpr ⟨hc,(fun Z h=>(List.not_mem_nil h).elim)⟩⟩) (Bx.le h2 (Nat.le_add_right k 1))))
 ·exact n5 H hb' fun a b1 ha h1=>c0 (n5 H h1 fun c b2 hc h2=>c1 (n5 H h2 fun d b3 hd h3=>c2 (hq 3 [.int 1,.str ra,.none] [a,c,d] b3 rfl rfl (List.forall_mem_cons.mpr ⟨ha,List.forall_mem_cons.mpr ⟨hc,List.forall_mem_cons.mpr ⟨hd,(fun Z h=>(List.not_mem_nil h).elim)⟩⟩⟩) h3)))
theorem ff{k:Nat}{ks:List V}(hk:D4 k ks):∀ {ks xs:List V},D4 k ks→(∀ x∈xs,Pl x)→D4 k (M7 ks xs)
 | [],_,_,_=>trivial
 | _::_,[],_,_=>trivial
 | _::_,x::_,h,hx=>⟨⟨h.1,(hx x (.head _)).nor,trivial⟩,ff hk h.2 fun y hy=>hx y (.tail _ hy)⟩
theorem V9{k i:Nat}{ks:List V}(h:nth D9 i=some ks):D4 k ks:=P1 (P:=D4 k) (l:=D9) ⟨trivial,⟨trivial,trivial⟩,⟨trivial,trivial,trivial⟩,⟨trivial,trivial,trivial,trivial⟩,⟨trivial,trivial⟩,trivial⟩ h
theorem Fo(H:V2 C)(L:Lt)(hm:2≤m)(hb:b.lt (k+5))(hq:∀ x s' b',VL (m+1) x s' L→b'.lt k→Q x (Wr w b' (m+1) s)):B0 C 16 (.g 68) [.ref 1,.ref 2,.str L.s] (Wr w b m s) Q X:=by
 refine B0.gc 6 rfl (F0 H 9 3 rfl rfl (by decide) ?_)
 have tb:∀ i ks xs b',nth D9 i=some ks→Nat.beq xs.length ks.length=true→(∀ x∈xs,Pl x)→(∀ s',VS (m+1) (C9 (m+1) ks xs) s'→Q (C9 (m+1) ks xs) (Wr w b' (m+1) s)) →
   GC 6 (Wr w b m s) Q (vE (m+1)) (Wt w b' (m+1) s (xH ks xs) none none none none none) :=
  fun i ks xs b' hk hl hx q => .inr (i5 _ rfl (ff (V9 hk) (V9 hk) hx) ⟨.inl rfl,.inr (Km b' w.z),.inr (i8 (k:=0) _ w.h),Sf.refl _⟩ (q _ (.h i (Nat.le_refl _) hk hl hx)))
 induction L using Lt.casesOn with
 | v =>
  refine (oz H hb (fun b' hb'=>?_) (fun b' hb'=>?_) (fun b' hb'=>?_) fun b' hb'=>?_).le (by decide)
  ·exact n5 H (Bx.le hb' (Nat.le_add_right (k+1) 3)) fun p b1 hp h1 => .inl (hq p _ b1 (.p hp) h1)
  ·exact Vt (NN:=fun Z Z=>False) H hb' fun x s' b1 hx h1 => .inl (hq x s' b1 hx.1 h1)
  ·exact Yt (NN:=fun Z Z=>False) H hb' fun i ks xs b1 hk hl hx h1=>tb i ks xs b1 hk hl hx fun s' h=>hq _ s' b1 h h1
  ·exact .inl (hq (K2 (m+1) AF) _ b' (.t (Nat.le_refl _) (Nat.lt_succ_of_le hm)) (Bx.le hb' (Nat.le_add_right k 4)))
 | l=>exact Vt (NN:=fun Z Z=>False) H (Bx.weak hb) fun x s' b1 hx h1 => .inl (hq x s' b1 hx h1)
 | h=>exact Yt (NN:=fun Z Z=>False) H (Bx.weak hb) fun i ks xs b1 hk hl hx h1=>tb i ks xs b1 hk hl hx fun s' h=>hq _ s' b1 ⟨h,rfl⟩ h1
 | w=>exact n5 H (Bx.le hb (Nat.le_add_right (k+1) 4)) fun p b1 hp h1 => .inl (hq _ _ b1 ⟨.w hp,rfl⟩ h1)
end
noncomputable def W9{α:Type}(n:Nat)(xs:List α):Prop:=xs.length+n≤1000000
theorem W9.app{α:Type}{n:Nat}{xs:List α}{x:α}(h:W9 (n+1) xs):W9 n (xs++[x]):=by
 show (xs++[x]).length+n≤1000000
 refine f0 (List.length_append ..) ?_
 exact (Nat.add_right_comm xs.length 1 n).symm▸h
theorem W9.le{α:Type}{n m:Nat}{xs:List α}(h:W9 n xs)(e:m≤n):W9 m xs:=Nat.le_trans (Nat.add_le_add_left e _) h
section
variable{xs ys ts zs:List V}{x y v:V}
theorem dk:∀ {xs:List V} {x:V},nth (xs++[x]) xs.length=some x
 | [],_=>rfl
 | _::xs,_=>dk (xs:=xs)
theorem Qb:ga (xs++[x]) (Int.negSucc 0)=some x:=by
 show (if 0<(xs++[x]).length then nth (xs++[x]) ((xs++[x]).length - 1 - 0) else none)=_
 refine f0 (List.length_append ..) ?_
 exact (if_pos (Nat.succ_pos _)).trans dk
theorem n7(e:ys=xs)(h:W9 1 xs):Nat.ble (ys.length+1) 1000000=true:=e▸Nat.ble_eq_true_of_le h
theorem wE(e:ys=xs)(h:W9 zs.length xs):Nat.ble (ys++zs).length 1000000=true:=e▸Nat.ble_eq_true_of_le (List.length_append▸h)
theorem Rg{k n:Nat}(h:k≤n):(max (0:Int) (min (k:Int) (n:Int))).toNat=k:=by
 exact f0 (Int.min_eq_left (Int.ofNat_le.mpr h) ..) (f0 (Int.max_eq_right (Int.natCast_nonneg k) ..) (f0 (Int.toNat_natCast ..) rfl))
theorem Lm{k n:Nat}(h:k≤n):clipAt n (Int.ofNat k)=k:=by
 show (max 0 (min (if (k:Int)<0 then (k:Int)+n else (k:Int)) (n:Int))).toNat=k
 refine f0 (if_neg (Int.not_lt.mpr (Int.natCast_nonneg k)) ..) ?_
 exact Rg h
theorem Mm{n k:Nat}:clipAt (n+(k+1)) (Int.negSucc k)=n:=by
 unfold clipAt
 refine f0 (if_pos (Int.negSucc_lt_zero k) ..) (f0 (show Int.negSucc k+((n+(k+1):Nat):Int)=(n:Int) from (Int.add_comm ..).trans ((congrArg (·+Int.negSucc k) (Int.natCast_add n (k+1))).trans (Int.add_neg_cancel_right (n:Int) ((k+1:Nat):Int)))) ?_)
 exact Rg (Nat.le_add_right ..)
theorem Zt:(xs++[x]++[y]).drop (clipAt (xs++[x]++[y]).length (-2))=[x,y]:=by
 have e:clipAt (xs++[x]++[y]).length (-2)=xs.length:=by
  refine f0 (List.length_append ..) (f0 (List.length_append ..) ?_)
  exact Mm (k:=1)
 refine f0 (e ..) (f0 (List.append_assoc ..) (f0 (List.drop_left ..) ?_))
 rfl
end
noncomputable abbrev Uc(pc:Int)(sk:Nat)(h:Bool):V := .a (.obj 10 [14,39,40,38,41,13,42,43,44,45,28,37]) [.none,.int pc,.ref sk,Jm,Rt h,.none,.none,.none,.none,.none,.none,.str e8]
noncomputable def Wf(fr:Bool)(w:Wk)(b:Bx)(m:Nat)(s:Sl)(p q t:Option V)(pc:Int)(st:List V):y0:=match fr with
 | true=>Wt w b m s none (some (Uc pc 8 w.h)) (some (.a .lst st)) p q t
 | false=>Wt w b m s none p q (some (Uc pc 10 w.h)) (some (.a .lst st)) t
noncomputable def fk:Bool→Nat
 | true=>7
 | false=>9
section
variable{C:Cx}{n j N M:Nat}{Q:X0}{X:y0→Prop}{w:Wk}{b:Bx}{m:Nat}{s:Sl}{p q t:Option V}{pc:Int}{xs:List V}{x y v:V}{fr:Bool}{o1 o2 o3 o4 o5:V}
noncomputable abbrev E9(o a b c:V):V := .a (.obj 0 [0,1,2,3,4]) [o,a,b,c,.int 0]
theorem Lx(H:V2 C)(h:W9 1 xs)(hq:Q .none (Wf fr w b m s p q t pc (xs++[v]))):B0 C 9 (.g 34) [.none,.ref (fk fr),E9 o1 v o2 o3] (Wf fr w b m s p q t pc xs) Q X:=by
 induction fr using Bool.casesOn<;>exact F0 H 0 2 rfl rfl (by decide) (K0 (n7 rfl h) hq)
theorem rB(H:V2 C)(hq:∀ st,st=xs→Q .none (Wf fr w b m s p q t pc st)):B0 C 9 (.g 35) [.none,.ref (fk fr),v] (Wf fr w b m s p q t pc (xs++[x])) Q X:=by
 induction fr using Bool.casesOn<;>exact F0 H 0 2 rfl rfl (by decide) (M0 List.getLast?_concat (hq _ List.dropLast_concat))
theorem sB(H:V2 C)(h:W9 2 xs)(hq:Q .none (Wf fr w b m s p q t pc (xs++[x]++[x]))):B0 C 9 (.g 36) [.none,.ref (fk fr),v] (Wf fr w b m s p q t pc (xs++[x])) Q X:=by
 induction fr using Bool.casesOn<;>exact F0 H 0 2 rfl rfl (by decide) (M0 Qb (K0 (n7 rfl h.app) hq))
theorem xE{raw ys:List V}(e:raw=ys)(h:W9 0 ys):Nat.ble raw.length 1000000=true:=e▸Nat.ble_eq_true_of_le h
theorem Mx(H:V2 C)(h:W9 4 xs)(hq:∀ st,st=xs++[x]++[y]++[x,y]→Q .none (Wf fr w b m s p q t pc st)):B0 C 9 (.g 37) [.none,.ref (fk fr),v] (Wf fr w b m s p q t pc (xs++[x]++[y])) Q X:=by
 have e:=congrArg (xs++[x]++[y]++·) (Zt (xs:=xs) (x:=x) (y:=y))
 have g:W9 0 (xs++[x]++[y]++[x,y]):=by
  have e2:xs++[x]++[y]++[x,y]=xs++[x]++[y]++[x]++[y]:=(List.append_assoc (xs++[x]++[y]) [x] [y]).symm
  exact e2▸h.app.app.app.app
 induction fr using Bool.casesOn<;>exact F0 H 0 2 rfl rfl (by decide) (K0 (xE e g) (hq _ e))
theorem Nx(H:V2 C)(h:W9 2 xs)(hq:∀ st,st=xs++[y,x]→Q .none (Wf fr w b m s p q t pc st)):B0 C 9 (.g 38) [.none,.ref (fk fr),v] (Wf fr w b m s p q t pc (xs++[x]++[y])) Q X:=by
 have e1:(xs++[x]++[y]).dropLast=xs++[x]:=List.dropLast_concat
 have e2:(xs++[x]++[y]).dropLast.getLast?=some x:=(congrArg List.getLast? e1).trans List.getLast?_concat
 have e3:(xs++[x]++[y]).dropLast.dropLast=xs:=(congrArg List.dropLast e1).trans List.dropLast_concat
 induction fr using Bool.casesOn<;>exact F0 H 0 2 rfl rfl (by decide) (M0 List.getLast?_concat (M0 e2 (K0 (wE (zs:=[y,x]) e3 h) (hq _ (congrArg (·++[y,x]) e3)))))
theorem Ox(H:V2 C)(h:W9 1 xs)(hq:Q .none (Wf fr w b m s p q t pc (xs++[uE w.h]))):B0 C 9 (.g 40) [.none,.ref (fk fr),v] (Wf fr w b m s p q t pc xs) Q X:=by
 induction fr using Bool.casesOn<;>exact F0 H 0 2 rfl rfl (by decide) (K0 (n7 rfl h) hq)
theorem Gq(H:V2 C)(h:W9 1 xs)(hq:∀ st,st=xs++[x]→Q .none (Wf fr w b m s p q t pc st)):B0 C 9 (.g 48) [.none,.ref (fk fr),v] (Wf fr w b m s p q t pc (xs++[Jx x])) Q X:=by
 induction fr using Bool.casesOn<;>exact F0 H 0 2 rfl rfl (by decide) (M0 List.getLast?_concat (K0 (n7 List.dropLast_concat h) (hq _ (congrArg (·++[x]) List.dropLast_concat))))
theorem Px(H:V2 C){i:Int}(hq:Q .none (Wf fr w b m s p q t i xs)):B0 C 9 (.g 44) [.none,.ref (fk fr),E9 o1 (.int i) o2 o3] (Wf fr w b m s p q t pc xs) Q X:=by
 induction fr using Bool.casesOn<;>exact F0 H 0 2 rfl rfl (by decide) hq
end
noncomputable def Tf:V→Bool
 | .none=>false
 | .bool b=>b
 | _=>true
noncomputable def U8:V→Bool
 | .none=>true
 | _=>false
theorem VS.ty{M:Nat}{x s:V}(h:VS M x s):∃ t,∀ σ,Ny (der σ x)=some t:=by
 cases h with
 | p hp=>induction x using V.casesOn with
  | none=>exact ⟨_,fun Z=>rfl⟩
  | bool=>exact ⟨_,fun Z=>rfl⟩
  | int=>exact ⟨_,fun Z=>rfl⟩
  | str=>exact ⟨_,fun Z=>rfl⟩
  | _=>exact False.elim hp
 | l=>exact ⟨_,fun Z=>rfl⟩
 | h=>exact ⟨_,fun Z=>rfl⟩
 | w=>exact ⟨_,fun Z=>rfl⟩
 | t=>exact ⟨_,fun Z=>rfl⟩
 | o=>exact ⟨_,fun Z=>rfl⟩
theorem VS.nil{M:Nat}{x s:V}(h:VS M x s)(σ:y0):isNone (der σ x)=some (U8 x):=by
 cases h with
 | p hp=>induction x using V.casesOn with
  | none=>rfl
  | bool=>rfl
  | int=>rfl
  | str=>rfl
  | _=>exact False.elim hp
 | l=>rfl
 | h=>rfl
 | w=>rfl
 | t=>rfl
 | o=>rfl
theorem Sg{b:Bool}{A B:Prop}(P:Bool→Prop)(h:P b)(h1:P true→A)(h2:P false→B):Bf b A B:=by induction b using Bool.casesOn with|true=>exact h1 h|false=>exact h2 h
section
variable{C:Cx}{n j N M:Nat}{σ:y0}{Q:X0}{X:y0→Prop}{w:Wk}{b:Bx}{m:Nat}{s:Sl}{p q t:Option V}{pc:Int}{xs ys:List V}{x y v sx:V}{fr:Bool}{o1 o2 o3 o4 o5:V}
theorem Rb(H:V2 C)(h:VS M x sx)(hq:Q (.bool (Tf x)) σ):B0 C 5 (.g 30) [x] σ Q X:=by
 cases h with
 | p hp=>induction x using V.casesOn with
  | none=>exact F0 H 0 1 rfl rfl (by decide) hq
  | bool=>exact F0 H 0 1 rfl rfl (by decide) hq
  | int=>exact F0 H 0 1 rfl rfl (by decide) hq
  | str=>exact F0 H 0 1 rfl rfl (by decide) hq
  | _=>exact False.elim hp
 | l=>exact F0 H 0 1 rfl rfl (by decide) hq
 | h=>exact F0 H 0 1 rfl rfl (by decide) hq
 | w=>exact F0 H 0 1 rfl rfl (by decide) hq
 | t=>exact F0 H 0 1 rfl rfl (by decide) hq
 | o=>exact F0 H 0 1 rfl rfl (by decide) hq
theorem Hq(H:V2 C){i:Int}(h:VS M x sx)(hq:∀ st,st=xs→Q .none (Wf fr w b m s p q t (cond (Tf x) i pc) st)):B0 C 11 (.g 45) [.none,.ref (fk fr),E9 o1 (.int i) o2 o3] (Wf fr w b m s p q t pc (xs++[x])) Q X:=by
 induction fr using Bool.casesOn with
 | true=>exact F0 H 5 1 rfl rfl (by decide) (M0 List.getLast?_concat (Rb H h (Sg (fun b=>∀ st,st=xs→Q .none (Wf true _ _ _ _ _ _ _ (cond b i pc) st)) hq (fun h=>h _ List.dropLast_concat) fun h=>h _ List.dropLast_concat)))
 | false=>exact F0 H 5 1 rfl rfl (by decide) (M0 List.getLast?_concat (Rb H h (Sg (fun b=>∀ st,st=xs→Q .none (Wf false _ _ _ _ _ _ _ (cond b i pc) st)) hq (fun h=>h _ List.dropLast_concat) fun h=>h _ List.dropLast_concat)))
theorem Uf(H:V2 C){i:Int}(h:VS M x sx)(hq:∀ st,st=xs→Q .none (Wf fr w b m s p q t (cond (!Tf x) i pc) st)):B0 C 11 (.g 46) [.none,.ref (fk fr),E9 o1 (.int i) o2 o3] (Wf fr w b m s p q t pc (xs++[x])) Q X:=by
 induction fr using Bool.casesOn with
 | true=>exact F0 H 5 1 rfl rfl (by decide) (M0 List.getLast?_concat (Rb H h (Sg (fun b=>∀ st,st=xs→Q .none (Wf true _ _ _ _ _ _ _ (cond b i pc) st)) hq (fun h=>h _ List.dropLast_concat) fun h=>h _ List.dropLast_concat)))
 | false=>exact F0 H 5 1 rfl rfl (by decide) (M0 List.getLast?_concat (Rb H h (Sg (fun b=>∀ st,st=xs→Q .none (Wf false _ _ _ _ _ _ _ (cond b i pc) st)) hq (fun h=>h _ List.dropLast_concat) fun h=>h _ List.dropLast_concat)))
theorem Nm(H:V2 C){i:Int}(h:VS M x sx)(hq:Q .none (Wf fr w b m s p q t (cond (U8 x) i pc) (xs++[x]))):B0 C 9 (.g 47) [.none,.ref (fk fr),E9 o1 (.int i) o2 o3] (Wf fr w b m s p q t pc (xs++[x])) Q X:=by
 induction fr using Bool.casesOn with
 | true=>exact F0 H 5 0 rfl rfl (by decide) (M0 Qb (M0 (h.nil _) (Sg (fun b=>Q .none (Wf true _ _ _ _ _ _ _ (cond b i pc) _)) hq id id)))
 | false=>exact F0 H 5 0 rfl rfl (by decide) (M0 Qb (M0 (h.nil _) (Sg (fun b=>Q .none (Wf false _ _ _ _ _ _ _ (cond b i pc) _)) hq id id)))
theorem au(H:V2 C){g:Nat}(e:Aq (.g g)=some yd∨Aq (.g g)=some Nb)(h:VS M x sx)(hf:W9 1 xs)(hq:∀ r st,st=xs++[.bool r]→Q .none (Wf fr w b m s p q t pc st)):B0 C 9 (.g g) [.none,.ref (fk fr),v] (Wf fr w b m s p q t pc (xs++[x])) Q X:=by
 obtain ⟨ty,et⟩:=h.ty
 rcases e with e|e
 ·induction fr using Bool.casesOn<;>exact F0 H 5 0 e rfl (by decide) (M0 List.getLast?_concat (M0 (et _) (K0 (n7 List.dropLast_concat hf) (hq _ _ (congrArg (·++[V.bool (Vv ty 5)]) List.dropLast_concat)))))
 ·induction fr using Bool.casesOn<;>exact F0 H 5 0 e rfl (by decide) (M0 List.getLast?_concat (M0 (et _) (K0 (n7 List.dropLast_concat hf) (hq _ _ (congrArg (·++[V.bool (Vv ty 6)]) List.dropLast_concat)))))
noncomputable def Sl.get(s:Sl):Bool→Bool→V
 | false,false=>s.a
 | false,true=>s.b
 | true,false=>s.c
 | true,true=>s.d
noncomputable def Sl.set(s:Sl)(x:V):Bool→Bool→Sl
 | false,false=>⟨x,s.b,s.c,s.d⟩
 | false,true=>⟨s.a,x,s.c,s.d⟩
 | true,false=>⟨s.a,s.b,x,s.d⟩
 | true,true=>⟨s.a,s.b,s.c,x⟩
theorem Qx(H:V2 C)(i j:Bool)(h:W9 1 xs)(hq:Q .none (Wf fr w b m s p q t pc (xs++[s.get i j]))):B0 C 9 (.g 41) [.none,.ref (fk fr),E9 o1 (.int (bI i)) (.int (bI j)) o3] (Wf fr w b m s p q t pc xs) Q X:=by
 induction i using Bool.casesOn<;>induction j using Bool.casesOn<;>induction fr using Bool.casesOn<;>exact F0 H 0 2 rfl rfl (by decide) (K0 (n7 rfl h) hq)
theorem Rx(H:V2 C)(i j:Bool)(hq:∀ st,st=xs→Q .none (Wf fr w b m (s.set x i j) p q t pc st)):B0 C 9 (.g 42) [.none,.ref (fk fr),E9 o1 (.int (bI i)) (.int (bI j)) o3] (Wf fr w b m s p q t pc (xs++[x])) Q X:=by
 induction i using Bool.casesOn<;>induction j using Bool.casesOn<;>induction fr using Bool.casesOn<;>exact F0 H 0 2 rfl rfl (by decide) (M0 List.getLast?_concat (hq _ List.dropLast_concat))
theorem Sx(H:V2 C){c:Str}(i:Nat)(e:nth [y9,Oc] i=some c)(h:W9 1 xs)(hq:∀ v,Pl v→Q .none (Wf fr w b m s p q t pc (xs++[v]))):B0 C 9 (.g 43) [.none,.ref (fk fr),E9 o1 (.str c) o2 o3] (Wf fr w b m s p q t pc xs) Q X:=by
 refine P1 (P:=fun c=>B0 C 9 (.g 43) [.none,.ref (fk fr),E9 o1 (.str c) o2 o3] (Wf fr w b m s p q t pc xs) Q X) (l:=[y9,Oc]) ⟨?_,?_,trivial⟩ e
 ·obtain ⟨z,hh,τ⟩:=w
  induction hh using Bool.casesOn with
  | true=>induction fr using Bool.casesOn<;>exact F0 H 0 2 rfl rfl (by decide) (K0 (n7 rfl h) (hq (.int 4) rfl))
  | false=>induction fr using Bool.casesOn<;>exact F0 H 0 2 rfl rfl (by decide) (K0 (n7 rfl h) (hq .none trivial))
 ·obtain ⟨z,hh,τ⟩:=w
  induction hh using Bool.casesOn<;>induction fr using Bool.casesOn<;>exact F0 H 0 2 rfl rfl (by decide) (K0 (n7 rfl h) (hq .none trivial))
end
section
variable{C:Cx}{n j N M:Nat}{σ:y0}{Q:X0}{X:y0→Prop}{w:Wk}{b:Bx}{m:Nat}{s:Sl}{p q t:Option V}{pc:Int}{xs ys:List V}{x y v sx:V}{fr:Bool}{o1 o2 o3 o4 o5:V}
theorem ui(H:V2 C){a:Nat}{ts:List V}(ha:ts.length=a)(h:W9 2 (xs++ts))(hq:∀ st,st=xs++v::(ts++[v])→Q .none (Wf fr w b m s p q t pc st)):B0 C 9 (.g 39) [.none,.ref (fk fr),E9 o1 (.int (Int.ofNat a)) o2 o3] (Wf fr w b m s p q t pc (xs++ts++[v])) Q X:=by
 have e:(((xs++ts++[v]).length:Nat):Int) - 1 - Int.ofNat a=Int.ofNat xs.length:=by
  rw [List.length_append,List.length_append,ha]
  show ((xs.length+a+1:Nat):Int) - 1 - (a:Int)=(xs.length:Int)
  omega
 have e2:(xs++ts++[v]).take (Int.toNat ((((xs++ts++[v]).length:Nat):Int) - 1 - Int.ofNat a))++v::(xs++ts++[v]).drop (Int.toNat ((((xs++ts++[v]).length:Nat):Int) - 1 - Int.ofNat a))=xs++v::(ts++[v]):=by
  rw [e,List.append_assoc]
  show (xs++(ts++[v])).take xs.length++v::(xs++(ts++[v])).drop xs.length=_
  exact f0 (List.take_left ..) (f0 (List.drop_left ..) rfl)
 have g1:decide ((0:Int)≤(((xs++ts++[v]).length:Nat):Int) - 1 - Int.ofNat a)=true:=e▸rfl
 have g2:Nat.ble (Int.toNat ((((xs++ts++[v]).length:Nat):Int) - 1 - Int.ofNat a)) (xs++ts++[v]).length=true:=by
  rw [e,List.append_assoc,List.length_append]
  exact Nat.ble_eq_true_of_le (Nat.le_add_right _ _)
 induction fr using Bool.casesOn<;>exact F0 H 0 2 rfl rfl (by decide) (M0 Qb (K0 g1 (K0 g2 (K0 (Nat.ble_eq_true_of_le h.app) (hq _ e2)))))
theorem gk(H:V2 C){a:Int}{c:Bool}(h:W9 1 xs)(hq:∀ r st,st=xs++[.bool r]→Q .none (Wf fr w b m s p q t pc st)):B0 C 9 (.g 53) [.none,.ref (fk fr),E9 o1 (.int a) (.bool c) o3] (Wf fr w b m s p q t pc (xs++[L7 n ys])) Q X:=by
 have go:∀ r,(xs++[L7 n ys]).dropLast++[V.bool r]=xs++[.bool r]:=fun r=>congrArg (·++[V.bool r]) List.dropLast_concat
 induction c using Bool.casesOn<;>induction fr using Bool.casesOn<;>exact F0 H 0 2 rfl rfl (by decide) (M0 List.getLast?_concat (K0 (n7 List.dropLast_concat h) (hq _ _ (go _))))
theorem bu{i:Int}(hy:∀ y∈ys,Pl y)(h0:decide (0≤i)=true)(h1:decide (i<(ys.length:Nat))=true):∃ v,ga ys i=some v∧Pl v:=by
 obtain ⟨k,rfl⟩:=Int.eq_ofNat_of_zero_le (of_decide_eq_true h0)
 exact ni hy (Int.ofNat_lt.mp (of_decide_eq_true h1))
theorem Go{i:Int}{P:V→Prop}{A B D:Prop}(hy:∀ y∈ys,Pl y)(hP:∀ v,Pl v→P v)(hA:(∃ K:V→Prop,(∀ v,P v→K v)∧(oP (ga ys i) K→A)))(hB:P .none→B)(hD:P .none→D):Bf (decide (0≤i)) (Bf (decide (i<(ys.length:Nat))) A B) D :=
 Y2 (fun h0=>Y2 (fun h1=>hA.elim fun K z=>(bu hy h0 h1).elim fun v e=>z.2 (M0 e.1 (z.1 v (hP v e.2)))) fun Z=>hB (hP _ trivial)) fun Z=>hD (hP _ trivial)
theorem Iq(H:V2 C){a:Int}(hy:∀ y∈ys,Pl y)(h:W9 1 xs)(hq:∀ v st,Pl v→st=xs++[v]→Q .none (Wf fr w b m s p q t pc st)):B0 C 9 (.g 54) [.none,.ref (fk fr),E9 o1 (.int a) o2 o3] (Wf fr w b m s p q t pc (xs++[L7 n ys])) Q X:=by
 have go:∀ v,Pl v→K8 (Nat.ble ((xs++[L7 n ys]).dropLast.length+1) 1000000) (Q .none (Wf fr w b m s p q t pc ((xs++[L7 n ys]).dropLast++[v]))):=fun v hv=>K0 (n7 List.dropLast_concat h) (hq v _ hv (congrArg (·++[v]) List.dropLast_concat))
 induction fr using Bool.casesOn<;>exact F0 H 0 2 rfl rfl (by decide) (M0 List.getLast?_concat (Y2 (fun Z=>Go (i:=a) hy go (C0 _ (fun Z k=>k) id) id id) fun Z=>Go (i:=a+(ys.length:Nat)) hy go (C0 _ (fun Z k=>k) id) id id))
end
section
variable{f:y0→y0→(Option V→y0→Prop)→Prop}{ρ σ:y0}{i:Nat}{ts:List Nat}{pat:Bool}{Q:List V→y0→Prop}{P:V→Prop}
theorem F9:∀ {zs xs acc:List V},(∀ x∈xs,∀ K:Option V→y0→Prop,(∀ v,P v→K (some v) σ)→we ts pat x ρ fun ρ'=>f ρ' σ K)→(∀ ys,(∀ y∈ys,P y)→ys.length=xs.length→Q (acc++ys) σ)→Z4 f ρ ts pat (R8 none zs) xs σ acc Q
 | zs,[],acc,_,q=>(List.append_nil acc).symm▸q [] (fun Z h=>(List.not_mem_nil h).elim) rfl
 | zs,x::xs,acc,hf,q=>hf x (.head _) _ fun v hv=>F9 (fun y hy=>hf y (.tail _ hy)) fun ys hy hl=>(show acc++(some v).toList++ys=acc++v::ys from List.append_assoc ..)▸q (v::ys) (List.forall_mem_cons.mpr ⟨hv,hy⟩) (congrArg (·+1) hl)
theorem jk:∀ {zs xs acc:List V},(∀ x∈xs,∀ K:Option V→y0→Prop,(∀ o,K o σ)→we ts pat x ρ fun ρ'=>f ρ' σ K)→(∀ ys,Q ys σ)→Z4 f ρ ts pat (R8 none zs) xs σ acc Q
 | zs,[],acc,_,q=>q acc
 | zs,x::xs,acc,hf,q=>hf x (.head _) _ fun v=>jk (fun y hy=>hf y (.tail _ hy)) q
end
section
variable{C:Cx}{n j N M:Nat}{σ:y0}{Q:X0}{X:y0→Prop}{w:Wk}{b:Bx}{m:Nat}{s:Sl}{p q t:Option V}{pc:Int}{xs ys ks:List V}{x y v sx:V}{fr:Bool}{o1 o2 o3 o4 o5:V}
noncomputable def gf(v:V):Prop:=∃ i,nth Ut i=some v
theorem jf(H:V2 C)(h:gf v)(hq:∀ t xs,bj xs=some t→n8 20 (.a .tup xs)=true→Q (.a .tup xs) σ):B0 C 6 (.g 33) [v] σ Q X :=
 h.elim fun i e=>Pb H e (P1 (P:=fun v=>Q (Qg v) σ) (l:=Ut) ⟨hq _ _ rfl rfl,hq _ _ rfl rfl,hq _ _ rfl rfl,trivial⟩ e)
theorem Ho{t:List MK}:∀ {kk:List (List MK)} {ks xs:List V},(∀ x∈xs,Pl x)→Qr kk (M7 ks xs) t=none∨∃ k x,Qr kk (M7 ks xs) t=some (.a .lst [k,x])∧Pl x
 | [],_,_,_ => .inl rfl
 | _::_,[],_,_ => .inl rfl
 | _::_,_::_,[],_ => .inl rfl
 | c::kk,k::ks,x::xs,h=>by
  show (match Bv c t with|true=>some (V.a .lst [k,x])|false=>Qr kk (M7 ks xs) t)=none∨∃ k' x',(match Bv c t with|true=>some (V.a .lst [k,x])|false=>Qr kk (M7 ks xs) t)=some (.a .lst [k',x'])∧Pl x'
  cases Bv c t with
  | true=>exact .inr (W4 k x rfl (h x (.head _)))
  | false=>exact Ho fun y hy=>h y (.tail _ hy)
theorem cu(H:V2 C)(hk:gf v)(hx:∀ x∈ys,Pl x)(q0:Q .none σ)(q1:∀ k x,Pl x→Q (.a .lst [k,x]) σ):B0 C 11 (.m 6 10) [C9 n ks ys,v] σ Q X:=by
 refine F0 H 6 1 rfl rfl (by decide) (jf H hk fun t kx e Z=>M0 e ?_)
 show Q ((Qr (ks.map Ao) (M7 ks ys) t).getD .none) σ
 rcases Ho (t:=t) (kk:=ks.map Ao) (ks:=ks) hx with z|⟨k,x,z,hp⟩
 ·refine f0 (z ..) ?_;exact q0
 ·refine f0 (z ..) ?_;exact q1 k x hp
theorem nk(H:V2 C)(hk:gf v)(hx:∀ x∈ys,Pl x)(h:W9 1 xs)(hq:∀ r st,st=xs++[.bool r]→Q .none (Wf fr w b m s p q t pc st)):B0 C 16 (.g 55) [.none,.ref (fk fr),E9 o1 v o2 o3] (Wf fr w b m s p q t pc (xs++[C9 n ks ys])) Q X:=by
 have go:∀ r,K8 (Nat.ble ((xs++[C9 n ks ys]).dropLast.length+1) 1000000) (Q .none (Wf fr w b m s p q t pc ((xs++[C9 n ks ys]).dropLast++[.bool r]))):=fun r=>K0 (n7 List.dropLast_concat h) (hq r _ (congrArg (·++[V.bool r]) List.dropLast_concat))
 induction fr using Bool.casesOn<;>exact F0 H 11 1 rfl rfl (by decide) (M0 List.getLast?_concat (cu H hk hx (go _) fun Z Z Z=>go _))
theorem Om(H:V2 C)(hk:gf v)(hx:∀ x∈ys,Pl x)(h:W9 1 xs)(hq:∀ r st,Pl r→st=xs++[r]→Q .none (Wf fr w b m s p q t pc st)):B0 C 16 (.g 56) [.none,.ref (fk fr),E9 o1 v o2 o3] (Wf fr w b m s p q t pc (xs++[C9 n ks ys])) Q X:=by
 have go:∀ r,Pl r→K8 (Nat.ble ((xs++[C9 n ks ys]).dropLast.length+1) 1000000) (Q .none (Wf fr w b m s p q t pc ((xs++[C9 n ks ys]).dropLast++[r]))):=fun r hr=>K0 (n7 List.dropLast_concat h) (hq r _ hr (congrArg (·++[r]) List.dropLast_concat))
 induction fr using Bool.casesOn<;>exact F0 H 11 1 rfl rfl (by decide) (M0 List.getLast?_concat (cu H hk hx (go .none trivial) fun Z x hp=>go x hp))
theorem Tg:∀ {ks xs:List V} {r:V},r∈M7 ks xs→∃ k x,r = .a .lst [k,x]∧k∈ks
 | [],_,_,h=>(List.not_mem_nil h).elim
 | _::_,[],_,h=>(List.not_mem_nil h).elim
 | k::ks,x::xs,r,h=>(List.mem_cons.mp h).elim (fun e=>W4 k x e (.head _)) fun h=>(Tg h).imp fun Z z=>z.imp fun Z z=>⟨z.1,.tail _ z.2⟩
theorem Jq(H:V2 C){kl:List V}(hl:∀ k∈kl,gf k)(hk:∀ k∈ks,gf k)(hf:db (M7 ks ys).length)(hq:∀ zs,Q (.a .lst zs) σ):B0 C 12 (.g 57) [C9 n ks ys,.a .lst kl] σ Q X:=by
 have d:∀ (cs:List V),(∀ c∈cs,n8 20 c=true)→K4 (n8 20) cs=true:=fun cs=>by
  induction cs with
  | nil=>exact fun Z=>rfl
  | cons c cs ih=>exact fun h=>Bool.and_eq_true_iff.mpr ⟨h c (.head _),ih fun y hy=>h y (.tail _ hy)⟩
 refine F0 H 6 2 rfl rfl (by decide) (F9 (P:=fun c=>n8 20 c=true) (fun k hm K hK=>jf H (hl k hm) fun t kx Z e=>hK _ e) fun cs hc Z=>?_)
 refine K0 (Nat.ble_eq_true_of_le hf) (F9 (P:=fun r=>∃ k x,r = .a .tup [k,x]∧gf k) (fun r hm K hK=>?_) fun ps hp Z=>?_)
 ·refine Y1 (Tg hm) ?_;intro k x tI hkm;obtain rfl:=tI
  exact hK _ (W4 k x rfl (hk k hkm))
 ·refine jk (fun r hm K hK=>?_) fun zs=>hq zs
  refine Y1 (hp r hm) ?_;intro k x rI hkk;obtain rfl:=rI
  exact jf H hkk fun t kx Z e=>M0 (o:=ll (.a .tup kx) (.a .lst cs)) (congrArg (gO · _) (Bool.and_eq_true_iff.mpr ⟨e,d cs hc⟩)) (Y2 (fun Z=>hK _) fun Z=>hK _)
theorem wi(H:V2 C){kl:List V}(hl:∀ k∈kl,gf k)(hk:∀ k∈ks,gf k)(hf:db (M7 ks ys).length)(h:W9 1 xs)(hq:∀ r st,st=xs++[.bool r]→Q .none (Wf fr w b m s p q t pc st)) :
  B0 C 16 (.g 58) [.none,.ref (fk fr),E9 o1 (.a .lst kl) o2 o3] (Wf fr w b m s p q t pc (xs++[C9 n ks ys])) Q X:=by
 have go:∀ r,K8 (Nat.ble ((xs++[C9 n ks ys]).dropLast.length+1) 1000000) (Q .none (Wf fr w b m s p q t pc ((xs++[C9 n ks ys]).dropLast++[.bool r]))):=fun r=>K0 (n7 List.dropLast_concat h) (hq r _ (congrArg (·++[V.bool r]) List.dropLast_concat))
 induction fr using Bool.casesOn<;>exact F0 H 12 0 rfl rfl (by decide) (M0 List.getLast?_concat (Jq H hl hk hf fun Z=>go _))
end
section
variable{C:Cx}{n j N M:Nat}{σ:y0}{Q:X0}{X:y0→Prop}{w:Wk}{b:Bx}{m:Nat}{s:Sl}{p q t:Option V}{pc:Int}{xs ys ks:List V}{x y v sx:V}{fr:Bool}{o1 o2 o3 o4 o5:V}
theorem Ug{a c:Int}{x:V}(h0:0≤a)(h:x∈L4 a c):∃ i:Int,x = .int i∧0≤i:=by
 refine A0 (List.mem_map.mp h) ?_;intro i _ vI;obtain rfl:=vI
 exact C0 _ rfl (Int.add_nonneg h0 (Int.natCast_nonneg i))
theorem Kq(H:V2 C){a c:Nat}(hy:∀ y∈ys,Pl y)(ha:a≤2)(hc:c≤2)(hq:∀ us vs,(∀ u∈us,Pl u)→(∀ u∈vs,Pl u)→us.length=a→vs.length=c→Q (.a .tup [.a .lst us,.a .lst [],.a .lst vs]) σ) :
  B0 C 5 (.g 51) [.a .lst ys,.int (Int.ofNat a),.bool false,.int (Int.ofNat c)] σ Q X:=by
 have la:(L4 0 (Int.ofNat a)).length=a:=(Q9 ..).trans (congrArg Int.toNat (Int.sub_zero _))
 have ac:Int.ofNat a+Int.ofNat c - Int.ofNat a=Int.ofNat c:=(congrArg (· - Int.ofNat a) (Int.add_comm ..)).trans (Int.add_sub_cancel ..)
 have lc:(L4 (Int.ofNat a) (Int.ofNat a+Int.ofNat c)).length=c:=(Q9 ..).trans (congrArg Int.toNat ac)
 have db:∀ {k:Nat},k≤4→Nat.ble k 1000000=true:=fun h=>Nat.ble_eq_true_of_le (Nat.le_trans h (by decide))
 have it:∀ {i:Int} {K:Option V→y0→Prop},0≤i→(∀ v,Pl v→K (some v) σ)→Bf (decide (i<(ys.length:Nat))) (oP (ga ys i) fun v=>K (some v) σ) (K (some .none) σ):=fun h0 hK=>Y2 (fun h1=>(bu hy (decide_eq_true h0) h1).elim fun v e=>M0 e.1 (hK v e.2)) fun Z=>hK _ trivial
 refine F0 H 0 1 rfl rfl (by decide) (K0 (db (Nat.le_trans ha (by decide))) (K0 (db (Nat.le_trans ha (by decide))) (F9 (P:=Pl) (fun x hx K hK=>?_) fun us hu lu=>?_)))
 ·refine A0 (Ug (by decide) hx) ?_;intro i tI h0;obtain rfl:=tI
  exact it h0 hK
 refine K0 (db (Nat.le_trans ha (by decide))) (K0 (db (Nat.add_le_add ha hc)) (K0 ((congrArg (fun k=>Nat.ble k 1000000) (congrArg Int.toNat ac)).trans (db (Nat.le_trans hc (by decide)))) (F9 (P:=Pl) (fun x hx K hK=>?_) fun vs hv lv=>?_)))
 ·refine A0 (Ug (Int.natCast_nonneg a) hx) ?_;intro i rI h0;obtain rfl:=rI
  exact it h0 hK
 exact hq us vs hu hv (lu.trans la) (lv.trans lc)
theorem pk(H:V2 C){a c:Nat}(hy:∀ y∈ys,Pl y)(ha:a≤2)(hc:c≤2)(h:W9 4 xs)(hq:∀ zs st,(∀ z∈zs,Pl z)→zs.length=a+c→st=xs++zs→Q .none (Wf fr w b m s p q t pc st)) :
  B0 C 12 (.g 52) [.none,.ref (fk fr),E9 o1 (.int (Int.ofNat a)) .none (.int (Int.ofNat c))] (Wf fr w b m s p q t pc (xs++[L7 n ys])) Q X:=by
 have e:(xs++[L7 n ys]).dropLast=xs:=List.dropLast_concat
 have K5:∀ us vs:List V,(∀ u∈us,Pl u)→(∀ u∈vs,Pl u)→us.length=a→vs.length=c→K8 (Nat.ble ((xs++[L7 n ys]).dropLast++vs.reverse).length 1000000) (K8 (Nat.ble ((xs++[L7 n ys]).dropLast++vs.reverse++us.reverse).length 1000000) (Q .none (Wf fr w b m s p q t pc ((xs++[L7 n ys]).dropLast++vs.reverse++us.reverse)))):=fun us vs hu hv lu lv=>by
  refine f0 (e ..) ?_
  have l1:(xs++vs.reverse).length=xs.length+c:=by exact f0 (List.length_append ..) (f0 (List.length_reverse ..) (f0 (lv ..) rfl))
  have l2:(xs++vs.reverse++us.reverse).length=xs.length+c+a:=by exact f0 (List.length_append ..) (f0 (l1 ..) (f0 (List.length_reverse ..) (f0 (lu ..) rfl)))
  refine K0 (Nat.ble_eq_true_of_le (l1▸Nat.le_trans (Nat.add_le_add_left (Nat.le_trans hc (by decide)) _) h)) (K0 (Nat.ble_eq_true_of_le (l2▸Nat.le_trans (Nat.add_assoc ..▸Nat.add_le_add_left (Nat.add_le_add hc ha) _) h)) (hq (vs.reverse++us.reverse) _ (fun z hz=>?_) ?_ (List.append_assoc ..)))
  ·exact (List.mem_append.mp hz).elim (fun z=>hv _ (List.mem_reverse.mp z)) fun z=>hu _ (List.mem_reverse.mp z)
  ·exact f0 (List.length_append ..) (f0 (List.length_reverse ..) (f0 (List.length_reverse ..) (f0 (lu ..) (f0 (lv ..) (f0 (Nat.add_comm ..) rfl)))))
 induction fr using Bool.casesOn<;>exact F0 H 5 0 rfl rfl (by decide) (M0 List.getLast?_concat (Kq H hy ha hc K5))
end
inductive U3:Rw→Prop
 | push {x}:Pl x→U3 (rk Q1 x)
 | pop:U3 (rn X6)
 | dup:U3 (rn t9)
 | dup2:U3 (rn C8)
 | swap:U3 (rn l7)
 | self:U3 (rn D8)
 | caught:U3 (rn Y5)
 | islist:U3 (rn Z5)
 | istable:U3 (rn S4)
 | getl (i j:Bool):U3 (rs d5 (bI i) (bI j))
 | setl (i j:Bool):U3 (rs V3 (bI i) (bI j))
 | spread {a c:Nat}:a≤2→c≤2→U3 (Cq (Int.ofNat a) (Int.ofNat c))
 | fits (a:Int) (b:Bool):0≤a→U3 (rf a b)
 | tuck {a:Nat}:a≤2→U3 (ri E5 (Int.ofNat a))
 | geti (i:Nat) {c}:nth [y9,Oc] i=some c→U3 (rk U6 (.str c))
 | lat (a:Int):U3 (ri F3 a)
 | only {kl}:(∀ k∈kl,gf k)→U3 (rk V1 (.a .lst kl))
 | has {k}:gf k→U3 (rk N2 k)
 | tat {k}:gf k→U3 (rk A3 k)
 | jump (t:Nat):U3 (ri A4 (Int.ofNat t))
 | jumpif (t:Nat):U3 (ri J1 (Int.ofNat t))
 | jumpunless (t:Nat):U3 (ri U0 (Int.ofNat t))
 | jumpnil (t:Nat):U3 (ri G1 (Int.ofNat t))
theorem yE{r:Rw}(h:RK r):U3 r∨r=rn J0:=by
 have k1:gf (.int 1):=⟨0,rfl⟩
 have ka:gf (.str ra):=⟨1,rfl⟩
 have kn:gf .none:=⟨2,rfl⟩
 induction h using RK.casesOn with
 | c i e =>
  refine P1 (P:=fun r=>U3 r∨r=rn J0) (l:=oi) ?_ e
  exact ⟨.inl (.tuck (a:=1) (by decide)),.inl (.tuck (a:=2) (by decide)),.inl (.tuck (a:=0) (by decide)),.inl .dup,.inl (.setl false false),.inl (.setl false true),.inl (.setl true false),.inl (.setl true true),.inl .dup2,
   .inl (.spread (a:=0) (c:=0) (by decide) (by decide)),.inl (.spread (a:=0) (c:=1) (by decide) (by decide)),.inl (.spread (a:=0) (c:=2) (by decide) (by decide)),.inl (.spread (a:=1) (c:=0) (by decide) (by decide)),.inl (.spread (a:=1) (c:=1) (by decide) (by decide)),.inl (.spread (a:=1) (c:=2) (by decide) (by decide)),
   .inl (.spread (a:=2) (c:=0) (by decide) (by decide)),.inl (.spread (a:=2) (c:=1) (by decide) (by decide)),.inl (.spread (a:=2) (c:=2) (by decide) (by decide)),
   .inl .swap,.inl .islist,.inl (.getl false false),.inl (.getl false true),.inl (.getl true false),.inl (.getl true true),.inl (.fits 0 false (by decide)),.inl (.fits 0 true (by decide)),.inl (.fits 1 false (by decide)),.inl (.fits 1 true (by decide)),.inl (.fits 2 false (by decide)),.inl (.fits 2 true (by decide)),
   .inl (.tat k1),.inl (.tat ka),.inl (.tat kn),.inl .pop,.inl (.push (x := .int 0) rfl),.inl (.push (x := .none) trivial),.inl (.push (x := .int 7) rfl),.inl (.push (x := .bool true) trivial),.inl (.push (x := .str w9) rfl),.inl (.push (x := .bool false) trivial),.inl (.push (x := .int (-3)) rfl),
   .inl (.lat 0),.inl (.lat (-1)),.inl (.lat 1),.inl (.lat (-2)),.inl (.lat 2),.inl (.has k1),.inl (.has ka),.inl (.has kn),.inl .istable,.inl .self,.inl (.only (List.forall_mem_cons.mpr ⟨ka,(fun Z h=>(List.not_mem_nil h).elim)⟩)),.inl (.only (fun Z h=>(List.not_mem_nil h).elim)),.inl (.only (List.forall_mem_cons.mpr ⟨k1,List.forall_mem_cons.mpr ⟨ka,(fun Z h=>(List.not_mem_nil h).elim)⟩⟩)),
   .inl (.geti 0 rfl),.inl (.geti 1 rfl),.inl .caught,.inl (.push (x := .int 8) rfl),.inr rfl,trivial⟩
 | j i e t ht=>exact .inl (P1 (P:=fun op=>U3 (ri op (Int.ofNat t))) (l:=K1) ⟨.jumpnil t,.jumpif t,.jump t,.jumpunless t,trivial⟩ e)
noncomputable def Lt.c:Lt→Nat
 | .v=>118 | .l=>108 | .h=>104 | .w=>119
noncomputable def lS(ls:List Lt):Str:=⟨⟨ls.map Lt.c⟩⟩
noncomputable def NG:List (Str×List Lt×Nat×Nat):=[(Q1,[],1,34),(X6,[.v],0,35),(t9,[.v],2,36),(C8,[.v,.v],4,37),(l7,[.v,.v],2,38),(D8,[],1,40),(d5,[],1,41),(V3,[.v],0,42),(U6,[],1,43),(A4,[],0,44),(J1,[.v],0,45),(U0,[.v],0,46),(G1,[.v],1,47),
 (Y5,[.w],1,48),(Z5,[.v],1,49),(S4,[.v],1,50),(G3,[.l],1,53),(F3,[.l],1,54),(N2,[.h],1,55),(A3,[.h],1,56),(V1,[.h],1,58),(J0,[.v],0,0)]
noncomputable def yH:List (Str×List Lt×Nat×Nat)→Str→List Lt×Nat×Nat
 | [],_=>([],0,0)
 | p::r,x=>match j6 p.1 x with|true=>p.2|false=>yH r x
noncomputable def Cd:V→Nat
 | .int (.ofNat n)=>n
 | _=>0
noncomputable def OG(r:Rw):List Lt×Nat×Nat:=match j6 E5 r.op with
 | true=>(List.replicate (Cd r.a+1) .v,Cd r.a+2,39)
 | false=>match j6 I3 r.op with
  | true=>([.l],Cd r.a+Cd r.c,52)
  | false=>yH NG r.op
noncomputable abbrev S2(r:Rw):List Lt:=(OG r).1
noncomputable abbrev j8(r:Rw):Nat:=(OG r).2.1
noncomputable abbrev PG(r:Rw):Nat:=(OG r).2.2
noncomputable abbrev tB(r:Rw):V := .a .tup [.str (lS (S2 r)),.int (Int.ofNat (j8 r))]
inductive N7(τ:y0):V→Rw→Prop
 | fz {r}:U3 r→N7 τ r.v r
 | lv:N7 τ (rn J0).v (rn J0)
 | rg (i k t:Nat) {op}:nth K1 i=some op→A1 τ k=some (ri op (Int.ofNat t)).v→N7 τ (.ref (k+12)) (ri op (Int.ofNat t))
theorem W6{a:Nat}(h:a≤2):a=0∨a=1∨a=2:=(Nat.eq_or_lt_of_le h).elim (fun e => .inr (.inr e)) fun h=>(Nat.eq_or_lt_of_le (Nat.le_of_lt_succ h)).elim (fun e => .inr (.inl e)) fun h => .inl (Nat.lt_one_iff.mp h)
noncomputable def QG(r:Rw):Prop:=∀ (C:Cx) X σ Q,Q (tB r) σ→I4 (Li C 0 2) X Mg.body [some r.v] σ (fun Z σ'=>Q .none σ') Q
section
variable{C:Cx}{n j N M:Nat}{σ:y0}{Q:X0}{X:y0→Prop}{w:Wk}{b:Bx}{m:Nat}{s:Sl}{r6 r7 r8 r9 r10 r11:Option V}{x:V}{r:Rw}
theorem Z3{u a:V}{xs:List V}{i:Int}(e:u = .a .lst xs)(ha:ga xs i=some a)(k:Q a σ):Xz u (.int i) σ Q:=by
 refine f0 (e ..) ?_
 exact M0 ha k
theorem N7.der(h:N7 w.τ x r):der (Wt w b m s r6 r7 r8 r9 r10 r11) x=r.v:=by
 induction h using N7.casesOn with
 | fz=>rfl
 | lv=>rfl
 | rg i k t e1 e2 =>
  show (A1 w.τ k).getD .none=_
  refine f0 (e2 ..) ?_;rfl
theorem zE(h:U3 r):QG r:=by
 induction h using U3.casesOn with
 | tuck ha=>rcases W6 ha with rfl|rfl|rfl<;>exact fun Z Z Z Z q=>q
 | _=>exact fun Z Z Z Z q=>q
theorem Vc(H:V2 C)(h:N7 w.τ x r)(hq:Q (tB r) (Wt w b m s r6 r7 r8 r9 r10 r11)):B0 C 6 (.g 66) [x] (Wt w b m s r6 r7 r8 r9 r10 r11) Q X:=by
 have hd:=h.der (b:=b) (m:=m) (s:=s) (r6:=r6) (r7:=r7) (r8:=r8) (r9:=r9) (r10:=r10) (r11:=r11)
 induction h using N7.casesOn with
 | fz h=>exact F0 H 0 2 rfl rfl (by decide) (zE h C X _ Q hq)
 | lv=>exact F0 H 0 2 rfl rfl (by decide) hq
 | rg i k t e1 e2 =>
  revert hd hq
  exact P1 (P:=fun op=>Q (tB (ri op (Int.ofNat t))) (Wt w b m s r6 r7 r8 r9 r10 r11)→Mine.der (Wt w b m s r6 r7 r8 r9 r10 r11) (.ref (k+12))=(ri op (Int.ofNat t)).v→B0 C 6 (.g 66) [.ref (k+12)] (Wt w b m s r6 r7 r8 r9 r10 r11) Q X) (l:=K1)
   ⟨fun q e=>F0 H 0 2 rfl rfl (by decide) (Z3 e rfl (Z3 e rfl (Z3 e rfl q))),fun q e=>F0 H 0 2 rfl rfl (by decide) (Z3 e rfl (Z3 e rfl (Z3 e rfl q))),fun q e=>F0 H 0 2 rfl rfl (by decide) (Z3 e rfl (Z3 e rfl (Z3 e rfl q))),fun q e=>F0 H 0 2 rfl rfl (by decide) (Z3 e rfl (Z3 e rfl (Z3 e rfl q))),trivial⟩ e1
theorem fu(H:V2 C)(h:U3 r∨r=rn J0)(hq:Q (.a .tup [.int (Int.ofNat (S2 r).length),.int (Int.ofNat (j8 r))]) σ):B0 C 6 (.g 23) [r.o] σ Q X:=by
 rcases h with h|rfl
 ·induction h using U3.casesOn with
  | tuck ha=>rcases W6 ha with rfl|rfl|rfl<;>exact F0 H 0 2 rfl rfl (by decide) hq
  | _=>exact F0 H 0 2 rfl rfl (by decide) hq
 ·exact F0 H 0 2 rfl rfl (by decide) hq
end
noncomputable def uB:List Str:=[Q1,X6,t9,C8,l7,E5,D8,d5,V3,U6,A4,J1,G1,U0,Y5,Z5,S4,I3,G3,F3,N2,A3,V1]
noncomputable def vB:List V:=[.g 34,.g 35,.g 36,.g 37,.g 38,.g 39,.g 40,.g 41,.g 42,.g 43,.g 44,.g 45,.g 47,.g 46,.g 48,.g 49,.g 50,.g 52,.g 53,.g 54,.g 55,.g 56,.g 58]
noncomputable def O0(op:Str):Nat:=match j6 A4 op with
 | true=>1
 | false=>match j6 G1 op with
  | true=>2
  | false=>match j6 J1 op with
   | true=>3
   | false=>match j6 U0 op with
    | true=>4
    | false=>0
noncomputable def Jd:Nat→Option V→Bool
 | 1,_=>true
 | 2,o=>o.any U8
 | 3,o=>o.all Tf
 | 4,o=>o.any fun x=>!Tf x
 | _,_=>false
theorem VS.cs{M:Nat}{x s:V}(h:VS M x s):x = .none∨(∃ b,x = .bool b)∨(U8 x=false∧Tf x=true∧∃ t,(∀ σ,Ny (der σ x)=some t)∧Wz t "bool"=false):=by
 cases h with
 | p hp=>induction x using V.casesOn with
  | none=>exact .inl rfl
  | bool b=>exact .inr (.inl ⟨b,rfl⟩)
  | int=>exact .inr (.inr (V0 rfl rfl ⟨_,fun Z=>rfl,rfl⟩))
  | str=>exact .inr (.inr (V0 rfl rfl ⟨_,fun Z=>rfl,rfl⟩))
  | _=>exact False.elim hp
 | l=>exact .inr (.inr (V0 rfl rfl ⟨_,fun Z=>rfl,rfl⟩))
 | h=>exact .inr (.inr (V0 rfl rfl ⟨_,fun Z=>rfl,rfl⟩))
 | w=>exact .inr (.inr (V0 rfl rfl ⟨_,fun Z=>rfl,rfl⟩))
 | t=>exact .inr (.inr (V0 rfl rfl ⟨_,fun Z=>rfl,rfl⟩))
 | o=>exact .inr (.inr (V0 rfl rfl ⟨_,fun Z=>rfl,rfl⟩))
section
variable{C:Cx}{n j N M:Nat}{σ:y0}{Q:X0}{X:y0→Prop}{w:Wk}{b:Bx}{m:Nat}{s:Sl}{r6 r7 r8 r9 r10 r11:Option V}{x sx:V}{r:Rw}{op:Str}
theorem Pm(H:V2 C)(hq:Q (.a (.ds uB) vB) σ):B0 C 6 (.g 59) [] σ Q X:=F0 H 0 2 rfl rfl (by decide) hq
noncomputable def RG(r:Rw):Prop:=Vq uB vB r.op=some (.g (PG r))
theorem Qm(h:U3 r):Vq uB vB r.op=some (.g (PG r)):=by
 show RG r
 induction h using U3.casesOn<;>exact rfl
theorem mf(a b c d:Bool)(o:Option V)(op:Str)(hb:b=o.any U8)(hc:c=o.all Tf)(hd:d=o.any fun x=>!Tf x)(q:Q (.bool (Jd (O0 op) o)) σ):Q ((Vq [A4,G1,J1,U0] [.bool true,.bool b,.bool c,.bool d] op).getD (.bool false)) σ:=by
 subst hb;subst hc;subst hd
 revert q
 show Q (.bool (Jd (match j6 A4 op with|true=>1|false=>match j6 G1 op with|true=>2|false=>match j6 J1 op with|true=>3|false=>match j6 U0 op with|true=>4|false=>0) o)) σ →
  Q ((match j6 A4 op with|true=>some (V.bool true)|false=>match j6 G1 op with|true=>some (V.bool (o.any U8))|false=>match j6 J1 op with|true=>some (V.bool (o.all Tf))|false=>match j6 U0 op with|true=>some (V.bool (o.any fun x=>!Tf x))|false=>none).getD (.bool false)) σ
 cases j6 A4 op with
 | true=>exact id
 | false=>cases j6 G1 op with
  | true=>exact id
  | false=>cases j6 J1 op with
   | true=>exact id
   | false=>cases j6 U0 op with
    | true=>exact id
    | false=>exact id
theorem Io(H:V2 C)(o:Option V)(h:∀ x,o=some x→∃ s,VS M x s)(hq:Q (.bool (Jd (O0 op) o)) σ):B0 C 6 (.g 70) [.str op,.a .lst o.toList] σ Q X:=by
 induction o using Option.casesOn with
 | none=>exact F0 H 0 2 rfl rfl (by decide) (mf true false true false none op rfl rfl rfl hq)
 | some x =>
  obtain ⟨s,hs⟩:=h x rfl
  rcases hs.cs with rfl|⟨b,rfl⟩|⟨e1,e2,t,e3,e4⟩
  ·exact F0 H 0 2 rfl rfl (by decide) (mf true true false true (some .none) op rfl rfl rfl hq)
  ·induction b using Bool.casesOn with
   | true=>exact F0 H 0 2 rfl rfl (by decide) (mf true false true false (some (.bool true)) op rfl rfl rfl hq)
   | false=>exact F0 H 0 2 rfl rfl (by decide) (mf true false false true (some (.bool false)) op rfl rfl rfl hq)
  ·exact F0 H 0 2 rfl rfl (by decide) (M0 ((hs.nil _).trans (congrArg some e1)) (M0 (e3 _) (L6 e4 (mf true false true false (some x) op e1.symm e2.symm (congrArg (!·) e2).symm hq))))
end
noncomputable def TL(M:Nat):List Lt→List V→List V→Prop
 | [],xs,ss=>xs=[]∧ss=[]
 | L::ls,xs,ss=>∃ x xs' s ss',xs=x::xs'∧ss=s::ss'∧VL M x s L∧TL M ls xs' ss'
noncomputable def AL(M:Nat):List V→List V→Prop
 | [],as=>as=[]
 | x::xs,as=>∃ s as',as=s::as'∧VS M x s∧AL M xs as'
noncomputable def T4(M:Nat)(s:Sl):Prop:=∀ i j,∃ t,VS M (s.get i j) t
noncomputable def ZH:List (Str×Nat):=[(Q1,9),(X6,0),(t9,2),(C8,2),(l7,4),(D8,9),(d5,9),(V3,0),(U6,9),(A4,9),(J1,0),(U0,0),(G1,3),(Y5,1),(Z5,1),(S4,1),(G3,1),(F3,1),(N2,1),(A3,1),(V1,1)]
noncomputable def AE:List (Str×Nat)→Str→Nat
 | [],_=>9
 | p::r,x=>match j6 p.1 x with|true=>p.2|false=>AE r x
noncomputable def kz(a b:Nat):Nat→Nat
 | 0=>a
 | _+1=>b
noncomputable def kd(r:Rw):Nat:=match j6 E5 r.op with
 | true=>kz 2 4 (Cd r.a)
 | false=>match j6 I3 r.op with
  | true=>kz 0 1 (Cd r.a+Cd r.c)
  | false=>AE ZH r.op
noncomputable def gu:Nat→List V→List V→Prop
 | 0,_,as=>as=[]
 | 1,_,as=>∃ q rest,as = .a .lst [.str q]::rest
 | 2,ss,as=>as=ss++ss
 | 3,ss,as=>as=ss
 | 4,ss,as=>∃ s0 l rest st,as=l::rest∧ss=s0::st∧l∈st
 | _,ss,_=>ss=[]
noncomputable def tgt(r:Rw):Int:=match r.a with | .int i=>i|_=>0
theorem VS.mono{M M':Nat}(e:M≤M'){x s:V}(h:VS M x s):VS M' x s:=by
 induction h using VS.casesOn with
 | p h=>exact .p h
 | l h a b=>exact .l (Nat.le_trans h e) a b
 | h i h a b c=>exact .h i (Nat.le_trans h e) a b c
 | w h=>exact .w h
 | t h a=>exact .t (Nat.le_trans h e) a
 | o h=>exact .o (Nat.le_trans h e)
theorem wB{M:Nat}{x s:V}(h:VL M x s .l):∃ n ys,x=L7 n ys∧∀ y∈ys,Pl y:=by
 obtain ⟨h,e⟩:=h
 cases h with
 | p hp=>induction x using V.casesOn with
  | _=>first|exact False.elim hp|exact nomatch e
 | l _ a _=>exact W4 _ _ rfl a
 | _=>exact nomatch e
theorem Vg{i:Nat}{ks:List V}(h:nth D9 i=some ks):(∀ k∈ks,gf k)∧ks.length≤3:=by
 have k1:gf (.int 1):=⟨0,rfl⟩
 have ka:gf (.str ra):=⟨1,rfl⟩
 have kn:gf .none:=⟨2,rfl⟩
 exact P1 (P:=fun ks:List V=>(∀ k∈ks,gf k)∧ks.length≤3) (l:=D9) ⟨⟨(fun Z h=>(List.not_mem_nil h).elim),by decide⟩,⟨List.forall_mem_cons.mpr ⟨k1,(fun Z h=>(List.not_mem_nil h).elim)⟩,by decide⟩,⟨List.forall_mem_cons.mpr ⟨k1,List.forall_mem_cons.mpr ⟨ka,(fun Z h=>(List.not_mem_nil h).elim)⟩⟩,by decide⟩,⟨List.forall_mem_cons.mpr ⟨k1,List.forall_mem_cons.mpr ⟨ka,List.forall_mem_cons.mpr ⟨kn,(fun Z h=>(List.not_mem_nil h).elim)⟩⟩⟩,by decide⟩,⟨List.forall_mem_cons.mpr ⟨ka,(fun Z h=>(List.not_mem_nil h).elim)⟩,by decide⟩,trivial⟩ h
theorem Wg:∀ {ks xs:List V},(M7 ks xs).length≤ks.length
 | [],_=>Nat.le_refl _
 | _::_,[]=>Nat.zero_le _
 | _::_,_::_=>Nat.succ_le_succ Wg
theorem xB{M:Nat}{x s:V}(h:VL M x s .h):∃ n ks ys,x=C9 n ks ys∧(∀ k∈ks,gf k)∧(∀ y∈ys,Pl y)∧db (M7 ks ys).length:=by
 obtain ⟨h,e⟩:=h
 cases h with
 | p hp=>induction x using V.casesOn with
  | _=>first|exact False.elim hp|exact nomatch e
 | h i _ a _ c=>exact X4 _ _ _ rfl ((Vg a).1) c (Nat.le_trans Wg (Nat.le_trans (Vg a).2 (by decide)))
 | _=>exact nomatch e
theorem SG{M:Nat}{x s:V}(h:VL M x s .w):∃ y,x=Jx y∧Pl y:=by
 obtain ⟨h,e⟩:=h
 cases h with
 | p hp=>induction x using V.casesOn with
  | _=>first|exact False.elim hp|exact nomatch e
 | w a=>exact C0 _ rfl a
 | _=>exact nomatch e
theorem pz{M:Nat}:∀ {zs:List V},(∀ z∈zs,Pl z)→AL M zs (zs.map fun z => .a .lst [.str (rp z)])
 | [],_=>rfl
 | z::zs,h=>L1 _ _ rfl (.p (h z (.head _))) (pz fun y hy=>h y (.tail _ hy))
theorem Dd{M:Nat}:∀ {ls:List Lt} {xs ss:List V},TL M ls xs ss→AL M xs ss
 | [],_,_,h=>by obtain ⟨rfl,rfl⟩:=h;rfl
 | _::_,_,_,h=>by
  refine Ia h ?_;(repeat clear h);intro x xs s ss rI tI h t;obtain rfl:=rI;obtain rfl:=tI
  exact L1 _ _ rfl h.vs (Dd t)
theorem T4.set{M:Nat}{s:Sl}{x t:V}(h:T4 M s)(hx:VS M x t)(i j:Bool):T4 M (s.set x i j):=fun k l=>by
 induction i using Bool.casesOn<;>induction j using Bool.casesOn<;>induction k using Bool.casesOn<;>induction l using Bool.casesOn<;>first|exact ⟨t,hx⟩|exact h true true|exact h true false|exact h false true|exact h false false
theorem BE{M:Nat}(h:3≤M)(b:Bool):∃ t,VS M (uE b) t:=by
 induction b using Bool.casesOn with
 | true=>exact ⟨_,.o h⟩
 | false=>exact ⟨_,.p (v := .int 7) rfl⟩
section
variable{C:Cx}{n j N M:Nat}{σ:y0}{Q:X0}{X:y0→Prop}{w:Wk}{b:Bx}{m:Nat}{s:Sl}{p q t:Option V}{pc:Int}{bl tops ss:List V}{x y v sx:V}{fr:Bool}{r:Rw}
theorem qk{L:Lt}{xs ss:List V}(h:TL M [L] xs ss):∃ x s,xs=[x]∧ss=[s]∧VL M x s L:=by
 refine LC h ?_;(repeat clear h);intro x _ s _ sJ uJ h wJ yJ;obtain rfl:=sJ;obtain rfl:=uJ;obtain rfl:=wJ;obtain rfl:=yJ
 exact L1 x s rfl rfl h
theorem EF{L L':Lt}{xs ss:List V}(h:TL M [L,L'] xs ss):∃ x y s u,xs=[x,y]∧ss=[s,u]∧VL M x s L∧VL M y u L':=by
 refine Ia h ?_;(repeat clear h);intro x _ s _ oJ qJ h h';obtain rfl:=oJ;obtain rfl:=qJ
 refine Z0 (qk h') ?_;intro y u kJ mJ h2;obtain rfl:=kJ;obtain rfl:=mJ
 exact Df x y s u rfl rfl h h2
noncomputable def aI(fr:Bool)(M:Nat)(w:Wk)(b:Bx)(m:Nat)(p q t:Option V)(pc:Int)(bl tops ss:List V)(r:Rw)(Q:X0):Prop :=
 ∀ st ab as s',st=bl++ab→ab.length=j8 r→AL M ab as→gu (kd r) ss as→T4 M s'→Q .none (Wf fr w b m s' p q t (cond (Jd (O0 r.op) tops.getLast?) (tgt r) pc) st)
theorem xi(h:VS M x sx):AL M [x] [sx]:=L1 sx [] rfl h rfl
set_option maxHeartbeats 4000000 in
theorem iu(H:V2 C)(h:U3 r)(h3:3≤M)(hs:T4 M s)(hf:W9 9 bl)(ht:TL M (S2 r) tops ss)(hq:aI fr M w b m p q t pc bl tops ss r Q) :
  B0 C 16 (.g (PG r)) [.none,.ref (fk fr),r.o] (Wf fr w b m s p q t pc (bl++tops)) Q X:=by
 have h1:W9 1 bl:=hf.le (by decide)
 induction h using U3.casesOn with
 | push hp =>
  obtain ⟨rfl,rfl⟩:=ht
  refine f0 (List.append_nil ..) ?_
  exact (Lx H h1 (hq _ [_] _ s rfl rfl (xi (.p hp)) rfl hs)).le (by decide)
 | pop =>
  refine Z0 (qk ht) ?_;intro x sx fJ iJ hx;obtain rfl:=fJ;obtain rfl:=iJ
  exact (rB H fun st e=>hq st [] [] s (e.trans (List.append_nil bl).symm) rfl rfl rfl hs).le (by decide)
 | dup =>
  refine Z0 (qk ht) ?_;intro x sx bJ dJ hx;obtain rfl:=bJ;obtain rfl:=dJ
  exact (sB H (hf.le (by decide)) (hq _ [x,x] [sx,sx] s (List.append_assoc ..) rfl (L1 _ _ rfl hx (xi hx)) rfl hs)).le (by decide)
 | dup2 =>
  refine Ia (EF ht) ?_;intro x y sx sy XI ZI hx hy;obtain rfl:=XI;obtain rfl:=ZI
  refine f0 (show bl++[x,y]=bl++[x]++[y] from (List.append_assoc bl [x] [y]).symm) ?_
  exact (Mx H (hf.le (by decide)) fun st e=>hq st [x,y,x,y] [sx,sy,sx,sy] s (e.trans ((congrArg (·++[x,y]) (List.append_assoc bl [x] [y])).trans (List.append_assoc ..))) rfl (L1 _ _ rfl hx ⟨_,_,rfl,hy,_,_,rfl,hx,xi hy⟩) rfl hs).le (by decide)
 | swap =>
  refine Ia (EF ht) ?_;intro x y sx sy TI VI hx hy;obtain rfl:=TI;obtain rfl:=VI
  refine f0 (show bl++[x,y]=bl++[x]++[y] from (List.append_assoc bl [x] [y]).symm) ?_
  exact (Nx H (hf.le (by decide)) fun st e=>hq st [y,x] [sy,sx] s e rfl (L1 _ _ rfl hy (xi hx)) (cr sx sy _ _ rfl rfl (.head _)) hs).le (by decide)
 | self =>
  obtain ⟨rfl,rfl⟩:=ht
  refine f0 (List.append_nil ..) ?_
  obtain ⟨u,hu⟩:=BE h3 w.h
  exact (Ox H h1 (hq _ [_] _ s rfl rfl (xi hu) rfl hs)).le (by decide)
 | caught =>
  refine Z0 (qk ht) ?_;intro x sx OI QI hx;obtain rfl:=OI;obtain rfl:=QI
  refine A0 (SG hx) ?_;intro y MI hy;obtain rfl:=MI
  exact (Gq H h1 fun st e=>hq st [y] _ s e rfl (xi (.p hy)) (V8 _ _ rfl) hs).le (by decide)
 | islist =>
  refine Z0 (qk ht) ?_;intro x sx EI HI hx;obtain rfl:=EI;obtain rfl:=HI
  exact (au H (.inl rfl) hx h1 fun c st e=>hq st [.bool c] _ s e rfl (xi (.p (v := .bool c) trivial)) (V8 _ _ rfl) hs).le (by decide)
 | istable =>
  refine Z0 (qk ht) ?_;intro x sx zI CI hx;obtain rfl:=zI;obtain rfl:=CI
  exact (au H (.inr rfl) hx h1 fun c st e=>hq st [.bool c] _ s e rfl (xi (.p (v := .bool c) trivial)) (V8 _ _ rfl) hs).le (by decide)
 | getl i k =>
  obtain ⟨rfl,rfl⟩:=ht
  refine f0 (List.append_nil ..) ?_
  obtain ⟨u,hu⟩:=hs i k
  exact (Qx H i k h1 (hq _ [_] _ s rfl rfl (xi hu) rfl hs)).le (by decide)
 | setl i k =>
  refine Z0 (qk ht) ?_;intro x sx vI xI hx;obtain rfl:=vI;obtain rfl:=xI
  exact (Rx H i k fun st e=>hq st [] [] _ (e.trans (List.append_nil bl).symm) rfl rfl rfl (hs.set hx i k)).le (by decide)
 | @spread a c ha hc =>
  refine Z0 (qk ht) ?_;intro x sx rI tI hx;obtain rfl:=rI;obtain rfl:=tI
  refine Y1 (wB hx) ?_;intro n ys pI hy;obtain rfl:=pI
  refine (pk H hy ha hc (hf.le (by decide)) fun zs st hz hl e=>hq st zs _ s e hl (pz hz) ?_ hs).le (by decide)
  show gu (kz 0 1 (a+c)) _ _
  refine P5 (hl ..) ?_
  induction zs using List.casesOn with
  | nil=>rfl
  | cons z zs=>exact V8 _ _ rfl
 | fits a c _ =>
  refine Z0 (qk ht) ?_;intro x sx AJ CJ hx;obtain rfl:=AJ;obtain rfl:=CJ
  refine Y1 (wB hx) ?_;intro n ys yJ hy;obtain rfl:=yJ
  exact (gk H h1 fun c st e=>hq st [.bool c] _ s e rfl (xi (.p (v := .bool c) trivial)) (V8 _ _ rfl) hs).le (by decide)
 | lat a =>
  refine Z0 (qk ht) ?_;intro x sx uJ wJ hx;obtain rfl:=uJ;obtain rfl:=wJ
  refine Y1 (wB hx) ?_;intro n ys sJ hy;obtain rfl:=sJ
  exact (Iq H hy h1 fun v st hv e=>hq st [v] _ s e rfl (xi (.p hv)) (V8 _ _ rfl) hs).le (by decide)
 | @tuck a ha =>
  rcases W6 ha with rfl|rfl|rfl
  ·
   refine Z0 (qk ht) ?_;intro x sx oJ qJ hx;obtain rfl:=oJ;obtain rfl:=qJ
   exact (List.append_nil bl▸ui H (ts:=[]) rfl ((List.append_nil bl).symm▸hf.le (by decide)) fun st e=>hq st [x,x] [sx,sx] s e rfl (L1 _ _ rfl hx (xi hx)) rfl hs).le (by decide)
  ·
   refine Ia (EF ht) ?_;intro x y sx sy kJ mJ hx hy;obtain rfl:=kJ;obtain rfl:=mJ
   refine f0 (show bl++[x,y]=bl++[x]++[y] from (List.append_assoc bl [x] [y]).symm) ?_
   exact (ui H (ts:=[x]) rfl ((hf.le (by decide:3≤9)).app) fun st e=>hq st [y,x,y] [sy,sx,sy] s e rfl (L1 _ _ rfl hy ⟨_,_,rfl,hx,xi hy⟩) (cr sx sy _ _ rfl rfl (.head _)) hs).le (by decide)
  ·
   refine Ia ht ?_;(repeat clear ht);intro x _ sx _ fJ iJ hx ht;obtain rfl:=fJ;obtain rfl:=iJ
   refine Ia (EF ht) ?_;intro y z sy sz bJ dJ hy hz;obtain rfl:=bJ;obtain rfl:=dJ
   refine f0 (show bl++[x,y,z]=bl++[x,y]++[z] from (List.append_assoc bl [x,y] [z]).symm) ?_
   have f2:W9 2 (bl++[x,y]):=(List.append_assoc bl [x] [y])▸(hf.le (by decide:4≤9)).app.app
   exact (ui H (ts:=[x,y]) rfl f2 fun st e=>hq st [z,x,y,z] [sz,sx,sy,sz] s e rfl (L1 _ _ rfl hz ⟨_,_,rfl,hx,_,_,rfl,hy,xi hz⟩) (cr sx sz _ _ rfl rfl (.tail _ (.head _))) hs).le (by decide)
 | geti i e =>
  obtain ⟨rfl,rfl⟩:=ht
  refine f0 (List.append_nil ..) ?_
  exact (Sx H i e h1 fun v hv=>hq _ [v] _ s rfl rfl (xi (.p hv)) rfl hs).le (by decide)
 | only hk =>
  refine Z0 (qk ht) ?_;intro x sx XI ZI hx;obtain rfl:=XI;obtain rfl:=ZI
  refine R5 (xB hx) ?_;intro n ks ys VI h5 h6 h7;obtain rfl:=VI
  exact wi H hk h5 h7 h1 fun c st e=>hq st [.bool c] _ s e rfl (xi (.p (v := .bool c) trivial)) (V8 _ _ rfl) hs
 | has hk =>
  refine Z0 (qk ht) ?_;intro x sx QI TI hx;obtain rfl:=QI;obtain rfl:=TI
  refine R5 (xB hx) ?_;intro n ks ys OI h5 h6 h7;obtain rfl:=OI
  exact nk H hk h6 h1 fun c st e=>hq st [.bool c] _ s e rfl (xi (.p (v := .bool c) trivial)) (V8 _ _ rfl) hs
 | tat hk =>
  refine Z0 (qk ht) ?_;intro x sx HI MI hx;obtain rfl:=HI;obtain rfl:=MI
  refine R5 (xB hx) ?_;intro n ks ys EI h5 h6 h7;obtain rfl:=EI
  exact Om H hk h6 h1 fun v st hv e=>hq st [v] _ s e rfl (xi (.p hv)) (V8 _ _ rfl) hs
 | jump i =>
  obtain ⟨rfl,rfl⟩:=ht
  exact (Px H (hq _ [] [] s rfl rfl rfl rfl hs)).le (by decide)
 | jumpif i =>
  refine Z0 (qk ht) ?_;intro x sx zI CI hx;obtain rfl:=zI;obtain rfl:=CI
  exact (Hq H hx fun st e=>hq st [] [] s (e.trans (List.append_nil bl).symm) rfl rfl rfl hs).le (by decide)
 | jumpunless i =>
  refine Z0 (qk ht) ?_;intro x sx vI xI hx;obtain rfl:=vI;obtain rfl:=xI
  exact (Uf H hx fun st e=>hq st [] [] s (e.trans (List.append_nil bl).symm) rfl rfl rfl hs).le (by decide)
 | jumpnil i =>
  refine Z0 (qk ht) ?_;intro x sx rI tI hx;obtain rfl:=rI;obtain rfl:=tI
  exact (Nm H hx (hq _ [x] [sx] s rfl rfl (xi hx) rfl hs)).le (by decide)
end
section
variable{C:Cx}{n j N M:Nat}{σ τ:y0}{Q:X0}{X:y0→Prop}{w:Wk}{b:Bx}{m k:Nat}{s:Sl}{p q t:Option V}{pc:Int}{st bl tops ss:List V}{x y v sx o1 o2 o3 o4:V}{fr:Bool}{r:Rw}{op:Str}
theorem Jo(H:V2 C)(hq:Q (E9 o1 o2 o3 o4) (none::τ)):B0 C 3 (.g 0) [o1,o2,o3,o4] (none::τ) Q X:=ji H.ok H.T (.g 0) [o1,o2,o3,o4] _ rfl τ Q X hq
noncomputable def Ws(fr:Bool)(w:Wk)(b:Bx)(m:Nat)(s:Sl)(p q t:Option V)(st:List V):y0:=match fr with
 | true=>Wt w b m s none none (some (.a .lst st)) p q t
 | false=>Wt w b m s none p q none (some (.a .lst st)) t
theorem Wc(H:V2 C)(hq:Q (.ref (fk fr)) (Wf fr w b m s p q t pc st)):B0 C 5 (.g 10) [.none,.int pc,.ref (fk fr+1),Jm,Rt w.h] (Ws fr w b m s p q t st) Q X:=by
 induction fr using Bool.casesOn with
 | true=>exact Mc (n:=4) H.ok (k:=7) (by decide) rfl (F0 H 0 0 rfl rfl (by decide) hq)
 | false=>exact Mc (n:=4) H.ok (k:=9) (by decide) rfl (F0 H 0 0 rfl rfl (by decide) hq)
noncomputable def zH(k1 k2:Bool)(L:Lt)(m:Nat)(x y u:V):Prop:=((k1&&!U8 x||k2&&Tf x)=true∧y = .none)∨((k1&&!U8 x||k2&&Tf x)=false∧VL (m+1) y u L∧(L = .v→u = .a .lst [.str S3,.int (Int.ofNat (m+1))]))
theorem ju{r7 r8 r9 r10 r11:Option V}(H:V2 C)(L:Lt){k1 k2:Bool}(e1:cg (.str op) (.str G1)=some k1)(e2:ll (.str op) (.a .lst [.str J1,.str U0])=some k2)(hk:k1=true→k2=false)(hm:2≤m)(hx:VS M x sx)
  (hq:∀ y u,VS (m+1) y u→zH k1 k2 L m x y u→Q y (Wt w b (m+1) s none r7 r8 r9 r10 r11)) :
  B0 C 13 (.g 69) [.ref 2,.str op,.str L.s,x] (Wt w b m s none r7 r8 r9 r10 r11) Q X:=by
 refine B0.gc 6 rfl (F0 H 6 3 rfl rfl (by decide) ?_)
 have go:∀ y u,VL (m+1) y u L→(L = .v→u = .a .lst [.str S3,.int (Int.ofNat (m+1))])→(k1&&!U8 x||k2&&Tf x)=false→Q y (Wt w b (m+1) s none r7 r8 r9 r10 r11):=fun y u a c d=>hq y u a.vs (.inr (V0 d a c))
 have q1:(k1&&!U8 x||k2&&Tf x)=true→Q .none (Wt w b (m+1) s none r7 r8 r9 r10 r11):=fun e=>hq .none _ (.p trivial) (.inl ⟨e,rfl⟩)
 have K5:(k1&&!U8 x||k2&&Tf x)=false→I4 (Li C 6 3) X zd.body.tl.tl [some (.ref 2),some (.str op),some (.str L.s),some x] (Wt w b (m+1) s none r7 r8 r9 r10 r11) (fun Z σ'=>GC 6 (Wt w b m s none r7 r8 r9 r10 r11) Q .none σ') (GC 6 (Wt w b m s none r7 r8 r9 r10 r11) Q):=fun e=>by
  induction L using Lt.casesOn with
  | v=>exact .inl (go _ _ (.t (Nat.le_refl _) (Nat.lt_succ_of_le hm)) (fun Z=>rfl) e)
  | l=>exact .inl (go (L7 (m+1) [.int (-50)]) _ ⟨.l (Nat.le_refl _) (List.forall_mem_cons.mpr ⟨rfl,nofun⟩) (by decide),rfl⟩ nofun e)
  | h=>exact Do H ((Pb H (i:=1) rfl (.inr (i5 _ rfl ⟨⟨trivial,trivial,trivial⟩,trivial⟩ ⟨.inl rfl,.inl rfl,.inr (i8 (k:=0) _ w.h),Sf.refl _⟩ (go (C9 (m+1) [.str ra] [.int (-50)]) _ ⟨.h 4 (Nat.le_refl _) rfl rfl (List.forall_mem_cons.mpr ⟨rfl,nofun⟩),rfl⟩ nofun e)))))
  | w=>exact .inl (go (Jx (.int (-50))) _ ⟨.w rfl,rfl⟩ nofun e)
 have hv:∀ y,some x=some y→∃ u,VS M y u:=fun y e=>⟨sx,Option.some.inj e▸hx⟩
 induction k1 using Bool.casesOn with
 | false=>induction k2 using Bool.casesOn with
  | false=>exact M0 e1 (M0 e2 (K5 rfl))
  | true=>exact M0 e1 (M0 e2 (Io H (some x) hv (Y2 (fun h => .inl (q1 h)) fun h=>K5 h)))
 | true =>
  obtain rfl:=hk rfl
  exact M0 e1 (M0 (hx.nil _) (Y2 (fun h => .inl (q1 (congrArg (·||false) h))) fun h=>M0 e2 (K5 (congrArg (·||false) h))))
end
theorem yB(c:Char):Nat.blt c.toNat 0x110000=true:=Nat.ble_eq_true_of_le (c.valid.elim (fun h=>Nat.lt_trans h (by decide)) fun h=>h.2)
theorem Xc{v:V}(h:Pl v):Uv (rp v)=true:=by
 induction v using V.casesOn with
 | none=>rfl
 | bool b=>induction b using Bool.casesOn<;>decide +kernel
 | int i =>
  have e:rp (.int i)=Str.ofString (toString i):=congrArg (fun z=>z.getD z_) (show gO (Nat.blt i.natAbs 1000) (Str.ofString (toString i))=some _ from congrArg (gO · _) h)
  refine f0 (e ..) (f0 (Str.ofString_eq_toList ..) ?_)
  have:∀ l:List Char,K4 (fun c=>Nat.blt c 0x110000) (l.map Char.toNat)=true:=fun l=>by
   induction l with
   | nil=>rfl
   | cons c l ih=>exact Bool.and_eq_true_iff.mpr ⟨yB c,ih⟩
  exact this _
 | str s=>obtain rfl:=(show s=w9 from h);decide +kernel
 | _=>exact False.elim h
theorem i6{α:Type}{f:α→Bool}{x:α}{xs:List α}(h:f x=true)(h2:K4 f xs=true):K4 f (x::xs)=true:=Bool.and_eq_true_iff.mpr ⟨h,h2⟩
theorem uk{f:V→Bool}{g:V→V}:∀ {xs:List V},(∀ x∈xs,f (g x)=true)→K4 f (xs.map g)=true
 | [],_=>rfl
 | x::xs,h=>i6 (h x (.head _)) (uk fun y hy=>h y (.tail _ hy))
theorem Ko{n:Nat}:∀ {ks xs:List V},(∀ k∈ks,Uv (rp k)=true)→(∀ x∈xs,Pl x)→K4 (n8 (n+2)) (Bo ks xs)=true
 | [],_,_,_=>rfl
 | _::_,[],_,_=>rfl
 | k::ks,x::xs,hk,hx=>i6 (show K4 (n8 (n+1)) [.str (rp k),.str (rp x)]=true from i6 (hk k (.head _)) (i6 (Xc (hx x (.head _))) rfl)) (Ko (fun y hy=>hk y (.tail _ hy)) fun y hy=>hx y (.tail _ hy))
theorem ku{i:Nat}{ks:List V}(h:nth D9 i=some ks):∀ k∈ks,Uv (rp k)=true:=by
 have k1:Uv (rp (.int 1))=true:=Xc (v := .int 1) rfl
 have ka:Uv (rp (.str ra))=true:=by decide +kernel
 have kn:Uv (rp .none)=true:=Xc (v := .none) trivial
 exact P1 (P:=fun ks:List V=>∀ k∈ks,Uv (rp k)=true) (l:=D9) ⟨(fun Z h=>(List.not_mem_nil h).elim),List.forall_mem_cons.mpr ⟨k1,(fun Z h=>(List.not_mem_nil h).elim)⟩,List.forall_mem_cons.mpr ⟨k1,List.forall_mem_cons.mpr ⟨ka,(fun Z h=>(List.not_mem_nil h).elim)⟩⟩,List.forall_mem_cons.mpr ⟨k1,List.forall_mem_cons.mpr ⟨ka,List.forall_mem_cons.mpr ⟨kn,(fun Z h=>(List.not_mem_nil h).elim)⟩⟩⟩,List.forall_mem_cons.mpr ⟨ka,(fun Z h=>(List.not_mem_nil h).elim)⟩,trivial⟩ h
theorem VS.d{M n:Nat}{x s:V}(h:VS M x s):n8 (n+4) s=true:=by
 induction h using VS.casesOn with
 | p h=>exact i6 (f:=n8 (n+3)) (Xc h) rfl
 | l _ h _=>exact i6 (f:=n8 (n+3)) rfl (i6 rfl (i6 (f:=n8 (n+3)) (uk (f:=n8 (n+2)) (g:=fun x => .str (rp x)) fun x hx=>Xc (h x hx)) rfl))
 | h i _ hk _ hx=>exact i6 (f:=n8 (n+3)) rfl (i6 rfl (i6 (f:=n8 (n+3)) (Ko (ku hk) hx) rfl))
 | w h=>exact i6 (f:=n8 (n+3)) rfl (i6 (f:=n8 (n+3)) (Xc h) rfl)
 | t _ _=>rfl
 | o _=>rfl
theorem AL.d{M n:Nat}:∀ {xs ss:List V},AL M xs ss→K4 (n8 (n+4)) ss=true
 | [],_,h=>by obtain rfl:=(show _=[] from h);rfl
 | _::_,_,h=>by
  refine Z0 h ?_;(repeat clear h);intro s ss vI h t;obtain rfl:=vI
  exact Bool.and_eq_true_iff.mpr ⟨h.d,AL.d t⟩
theorem AL.len{M:Nat}:∀ {xs ss:List V},AL M xs ss→ss.length=xs.length
 | [],_,h=>by obtain rfl:=(show _=[] from h);rfl
 | _::_,_,h=>by
  refine Z0 h ?_;(repeat clear h);intro s ss tI h t;obtain rfl:=tI
  exact congrArg (·+1) (AL.len t)
theorem J5{f:V→Bool}:∀ {xs:List V} {n:Nat},K4 f xs=true→K4 f (xs.take n)=true∧K4 f (xs.drop n)=true
 | [],n,_=>by refine f0 (List.take_nil ..) (f0 (List.drop_nil ..) ?_);exact ⟨rfl,rfl⟩
 | x::xs,0,h=>⟨rfl,h⟩
 | x::xs,n+1,h=>⟨Bool.and_eq_true_iff.mpr ⟨(b2 h).1,(J5 (b2 h).2).1⟩,(J5 (b2 h).2).2⟩
theorem wk{f:V→V→Bool}:∀ {xs ys:List V},xs.length≠ys.length→Z6 f xs ys=false
 | [],[],h=>absurd rfl h
 | [],_::_,_=>rfl
 | _::_,[],_=>rfl
 | x::xs,y::ys,h=>by
  show (f x y&&Z6 f xs ys)=false
  exact f0 (wk fun e=>h (congrArg (·+1) e) ..) (f0 (Bool.and_false ..) rfl)
theorem yi{xs ys:List V}(hx:K4 (n8 19) xs=true)(hy:K4 (n8 19) ys=true):cg (.a .lst xs) (.a .lst ys)=some (Z6 (Q8 19) xs ys):=by
 show (match (xs.length !=ys.length) with|true=>some false|false=>gO (K4 (n8 19) xs&&K4 (n8 19) ys) (Z6 (Q8 19) xs ys))=_
 cases e:xs.length !=ys.length with
 | true=>exact (congrArg some (wk fun q=>by rw [q,bne_self_eq_false] at e;exact Bool.noConfusion e)).symm
 | false=>refine f0 (hx ..) (f0 (hy ..) ?_);rfl
theorem Rm{x y:V}{xs:List V}:(x::y::xs).drop (clipAt (xs.length+1+1) 2)=xs:=by
 refine f0 (show clipAt (xs.length+1+1) 2=2 from Lm (Nat.le_add_left ..)) ?_;rfl
theorem Sm{x y:V}{xs:List V}:(x::y::xs).take (clipAt (xs.length+1+1) 2)=[x,y]:=by
 refine f0 (show clipAt (xs.length+1+1) 2=2 from Lm (Nat.le_add_left ..)) ?_;rfl
theorem qf{xs:List V}:xs.take (clipAt xs.length 1)=xs.take 1∧xs.drop (clipAt xs.length 1)=xs.drop 1:=by
 induction xs using List.casesOn with
 | nil=>exact ⟨rfl,rfl⟩
 | cons x xs =>
  refine f0 (show clipAt (x::xs).length 1=1 from Lm (Nat.le_add_left ..)) ?_;exact ⟨rfl,rfl⟩
theorem mu:∀ {xs:List V},xs.drop (clipAt xs.length (-1))=xs.getLast?.toList:=fun {xs}=>by
 rcases List.eq_nil_or_concat xs with rfl|⟨ys,y,rfl⟩
 ·rfl
 ·rw [List.concat_eq_append,List.getLast?_concat,List.length_append,show clipAt (ys.length+[y].length) (-1)=ys.length from Mm (k:=0),List.drop_left];rfl
theorem A6{f:y0→y0→(Option V→y0→Prop)→Prop}{ρ σ:y0}{ts:List Nat}{pat:Bool}{G:y0→Prop→Prop}{xs ys acc:List V}{Q:List V→y0→Prop}(e:xs=ys)(k:Z4 f ρ ts pat G ys σ acc Q):Z4 f ρ ts pat G xs σ acc Q:=e▸k
theorem k8{M:Nat}{f:y0→y0→(Option V→y0→Prop)→Prop}{ρ σ:y0}{i:Nat}{Q:List V→y0→Prop}(hf:∀ x s,VS M x s→∀ K:Option V→y0→Prop,K (some s) σ→f (R2 ρ i (some x)) σ K) :
  ∀ {zs xs ss acc:List V},AL M xs ss→Q (acc++ss) σ→Z4 f ρ [i] false (R8 none zs) xs σ acc Q
 | zs,[],ss,acc,h,q=>by obtain rfl:=(show ss=[] from h);exact (List.append_nil acc)▸q
 | zs,x::xs,_,acc,h,q=>by
  refine Z0 h ?_;(repeat clear h);intro s ss rI h t;obtain rfl:=rI
  exact hf x s h _ (k8 hf t ((show acc++s::ss=acc++(some s).toList++ss from (List.append_assoc acc [s] ss).symm)▸q))
noncomputable def S.fb:S→S
 | .fr _ _ _ _ b=>b
 | s=>s
section
variable{C:Cx}{n j N M:Nat}{σ τ:y0}{Q R:X0}{X:y0→Prop}{w:Wk}{b:Bx}{m k:Nat}{s:Sl}{p q t:Option V}{pc:Int}{st bl xs ss ts ys:List V}{x y v sx laid:V}{fr:Bool}{r:Rw}{op:Str}{NN:y0→y0→Prop}
theorem Tm(H:V2 C)(o:Option V)(e:ys=o.toList)(h:∀ x,o=some x→∃ s,VS M x s)(hq:Q (.bool (Jd (O0 op) o)) σ):B0 C 6 (.g 70) [.str op,.a .lst ys] σ Q X:=e▸Io H o h hq
theorem Lo:∀ {ls:List Lt} {xs ss:List V},TL M ls xs ss→∀ x,xs.getLast?=some x→∃ s,VS M x s:=fun h x e=>by
 have:∀ {xs ss:List V},AL M xs ss→∀ x∈xs,∃ s,VS M x s:=fun {xs}=>by
  induction xs with
  | nil=>exact fun Z Z=>nofun
  | cons y xs ih =>
   intro ss h x hx
   refine Z0 h ?_;(repeat clear h);intro s ss' _ h t
   exact (List.mem_cons.mp hx).elim (fun e=>⟨s,e▸h⟩) (ih t x)
 exact this (Dd h) x (List.mem_of_getLast? e)
theorem Yc(H:V2 C){n:Nat}{z:Str}(hq:Q (.a .lst [.str S3,.int (Int.ofNat n)]) σ):B0 C 9 (.g 71) [K2 n z] σ Q X:=F0 H 0 2 rfl rfl (by decide) hq
noncomputable abbrev CE(c:Bool)(d:List V)(pc:Int):V := .a .lst [.bool c,.a .lst d,.int pc]
noncomputable abbrev Dv(r:Rw)(xs:List V):Int:=cond (Jd (O0 r.op) xs.getLast?) (tgt r) 1000
noncomputable def ρR(x:V)(r:Rw)(laid:V)(xs:List V)(ρ:y0):y0:=some (.ref 1)::some (.ref 2)::some x::some (.str (lS (S2 r)))::some (.int (Int.ofNat (j8 r)))::some laid::some r.o::some (.ref 11)::some (.a .lst xs)::ρ
noncomputable abbrev AH:S:=N8.body.tl.tl.tl.hd.fb
theorem zi{M:Nat}:∀ {n:Nat} {xs ss:List V},AL M xs ss→AL M (xs.take n) (ss.take n)
 | 0,_,_,_=>rfl
 | _+1,[],_,h=>by obtain rfl:=(show _=[] from h);rfl
 | _+1,_::_,_,h=>by
  refine Z0 h ?_;(repeat clear h);intro s ss tI h t;obtain rfl:=tI
  exact L1 s _ rfl h (zi t)
theorem Za:∀ {ls:List Lt} {xs ss:List V},TL M ls xs ss→xs.length=ls.length
 | [],_,_,h=>by obtain ⟨rfl,_⟩:=h;rfl
 | _::_,_,_,h=>by
  refine Ia h ?_;(repeat clear h);intro x xs s ss rI _ _ h;obtain rfl:=rI
  exact congrArg (·+1) (Za h)
theorem No{k:Nat}:∀ {xs:List V},(∀ x∈xs,Pl x)→D4 k xs
 | [],_=>trivial
 | x::_,h=>⟨(h x (.head _)).nor,No fun y hy=>h y (.tail _ hy)⟩
theorem VS.nor{k:Nat}{y u:V}(h:VS M y u):Fa (k+6) y:=by
 induction h using VS.casesOn with
 | p h=>exact h.nor
 | l _ h _=>exact ⟨trivial,trivial,trivial,trivial,trivial,trivial,No h,trivial⟩
 | h i _ hk _ hx=>exact ⟨trivial,trivial,trivial,trivial,trivial,trivial,ff (V9 (k:=k+6) hk) (V9 hk) hx,trivial,trivial⟩
 | w h=>exact ⟨trivial,h.nor,trivial,trivial⟩
 | t _ _=>exact ⟨trivial,trivial,trivial,trivial,trivial,trivial,trivial,trivial⟩
 | o _=>exact Tt true
theorem AL.nor{k:Nat}:∀ {ys us:List V},AL M ys us→D4 (k+6) ys
 | [],_,_=>trivial
 | _::_,_,h=>by
  refine Z0 h ?_;(repeat clear h);intro s ss _ h t
  exact ⟨h.nor,t.nor⟩
theorem DE{c:Bool}{i:Int}{y:V}(h:c=true)(e:y = .int i):cg (.int (cond c i 1000)) (der σ y)=some true:=by
 subst h;subst e;exact congrArg some (beq_self_eq_true i)
theorem FE{c:Bool}{i:Int}(h:c=false):(!((cond c i 1000:Int)==1000))=false:=by subst h;rfl
theorem Um(h:U3 r){o:Option V}(e:Jd (O0 r.op) o=true):r.a = .int (tgt r):=by
 induction h using U3.casesOn<;>first|rfl|exact Bool.noConfusion e
noncomputable def qz(M:Nat)(s:Sl)(r:Rw)(ss:List V)(P:Sl→List V→List V→Prop):Prop:=∀ as d s',gu (kd r) ss as→(∀ n,K4 (n8 (n+4)) as=true)→d=as.drop 1→T4 M s'→P s' as d
theorem ou(H:V2 C)(h:U3 r)(hr:N7 w.τ x r)(h3:3≤M)(hs:T4 M s)(ht:TL M (S2 r) xs ss)(hl:(S2 r).length≤3)(hts:ts.length≤2)
  (hq:qz M s r ss fun s' as d=>∀ o9 o10 o11 o12 st,(∀ k,D4 (k+6) st)→NN (ρR x r laid xs [some o9,some o10,some o11,some o12]) (Wf true w b m s' none none (some (.a .lst (ts++[CE (Z6 (Q8 19) (as.take 1) (ss.take 1)) d (Dv r xs)]))) (Dv r xs) st)) :
  I4 (cO C 16) X AH (ρR x r laid xs []) (Wt w b m s none none none none none (some (.a .lst ts))) NN R:=by
 have hx:=Za ht
 have sn:∀ {σ} y u,VS M y u→∀ K:Option V→y0→Prop,K (some u) σ→B0 C 16 (.g 71) [y] σ (fun v σ=>K (some v) σ) dg:=fun y u hy K k=>(Co H hy k).le (by decide)
 have hts2:Nat.ble (ts.length+1) 1000000=true:=Nat.ble_eq_true_of_le (Nat.le_trans (Nat.add_le_add_right hts 1) (by decide))
 refine A6 qf.1 (k8 (M:=M) (ss:=ss.take 1) sn (zi (Dd ht)) ?_)
 refine K0 (Nat.ble_eq_true_of_le (Nat.le_trans (Nat.add_le_add_right (hx▸hl) 2) (by decide))) (C0 8 rfl ?_)
 refine (Wc (fr:=true) H ?_).le (by decide)
 refine (Pm H ?_).le (by decide)
 refine Z3 hr.der rfl (M0 (Qm h) ?_)
 refine iu (fr:=true) (bl:=[K2 1 b6,K2 2 d6]) H h h3 hs (show 2+9≤1000000 by decide) ht ?_
 intro st ab as s' e lab hab res hs'
 subst e
 refine A6 Rm (k8 sn hab ?_)
 refine A6 Sm ?_
 refine (Yc H ?_).le (by decide)
 refine (Yc H ?_).le (by decide)
 refine L6 (congrArg (!·) (beq_iff_eq.mpr (congrArg Int.ofNat (hab.len.trans lab)))) ?_
 refine Z3 hr.der rfl ((Tm H xs.getLast? mu (Lo ht) ?_).le (by decide))
 have e1:cg (.a .lst (as.take (clipAt as.length 1))) (.a .lst (ss.take 1))=some (Z6 (Q8 19) (as.take 1) (ss.take 1)):=(congrArg (fun z=>cg (.a .lst z) (.a .lst (ss.take 1))) (qf (xs:=as)).1).trans (yi (J5 hab.d).1 (J5 (Dd ht).d).1)
 have K5:=hq as _ s' res (fun Z=>hab.d) qf.2 hs'
 have nst:∀ k,D4 (k+6) ([K2 1 b6,K2 2 d6]++ab):=fun k=>⟨⟨trivial,trivial,trivial,trivial,trivial,trivial,trivial,trivial⟩,⟨trivial,trivial,trivial,trivial,trivial,trivial,trivial,trivial⟩,hab.nor⟩
 exact Y2 (fun g=>Z3 hr.der rfl (M0 (DE g (Um h g)) (M0 e1 (K0 hts2 (K5 _ _ _ _ _ nst))))) fun g=>L6 (FE g) (M0 e1 (K0 hts2 (K5 _ _ _ _ _ nst)))
theorem zB{o9 o10 o11 o12:V}(H:V2 C)(h:U3 r)(hr:N7 w.τ x r)(h3:3≤M)(hs:T4 M s)(ht:TL M (S2 r) xs ss)(hl:(S2 r).length≤3)(hts:ts.length≤2)
  (hq:qz M s r ss fun s' as d=>∀ o9 o10 o11 o12 st,(∀ k,D4 (k+6) st)→NN (ρR x r laid xs [some o9,some o10,some o11,some o12]) (Wf false w b m s' p q (some (.a .lst (ts++[CE (Z6 (Q8 19) (as.take 1) (ss.take 1)) d (Dv r xs)]))) (Dv r xs) st)) :
  I4 (cO C 16) X AH (ρR x r laid xs [some o9,some o10,some o11,some o12]) (Wt w b m s none p q none none (some (.a .lst ts))) NN R:=by
 have hx:=Za ht
 have sn:∀ {σ} y u,VS M y u→∀ K:Option V→y0→Prop,K (some u) σ→B0 C 16 (.g 71) [y] σ (fun v σ=>K (some v) σ) dg:=fun y u hy K k=>(Co H hy k).le (by decide)
 have hts2:Nat.ble (ts.length+1) 1000000=true:=Nat.ble_eq_true_of_le (Nat.le_trans (Nat.add_le_add_right hts 1) (by decide))
 refine A6 qf.1 (k8 (M:=M) (ss:=ss.take 1) sn (zi (Dd ht)) ?_)
 refine K0 (Nat.ble_eq_true_of_le (Nat.le_trans (Nat.add_le_add_right (hx▸hl) 2) (by decide))) (C0 10 rfl ?_)
 refine (Wc (fr:=false) H ?_).le (by decide)
 refine (Pm H ?_).le (by decide)
 refine Z3 hr.der rfl (M0 (Qm h) ?_)
 refine iu (fr:=false) (bl:=[K2 1 b6,K2 2 d6]) H h h3 hs (show 2+9≤1000000 by decide) ht ?_
 intro st ab as s' e lab hab res hs'
 subst e
 refine A6 Rm (k8 sn hab ?_)
 refine A6 Sm ?_
 refine (Yc H ?_).le (by decide)
 refine (Yc H ?_).le (by decide)
 refine L6 (congrArg (!·) (beq_iff_eq.mpr (congrArg Int.ofNat (hab.len.trans lab)))) ?_
 refine Z3 hr.der rfl ((Tm H xs.getLast? mu (Lo ht) ?_).le (by decide))
 have e1:cg (.a .lst (as.take (clipAt as.length 1))) (.a .lst (ss.take 1))=some (Z6 (Q8 19) (as.take 1) (ss.take 1)):=(congrArg (fun z=>cg (.a .lst z) (.a .lst (ss.take 1))) (qf (xs:=as)).1).trans (yi (J5 hab.d).1 (J5 (Dd ht).d).1)
 have K5:=hq as _ s' res (fun Z=>hab.d) qf.2 hs'
 have nst:∀ k,D4 (k+6) ([K2 1 b6,K2 2 d6]++ab):=fun k=>⟨⟨trivial,trivial,trivial,trivial,trivial,trivial,trivial,trivial⟩,⟨trivial,trivial,trivial,trivial,trivial,trivial,trivial,trivial⟩,hab.nor⟩
 exact Y2 (fun g=>Z3 hr.der rfl (M0 (DE g (Um h g)) (M0 e1 (K0 hts2 (K5 _ _ _ _ _ nst))))) fun g=>L6 (FE g) (M0 e1 (K0 hts2 (K5 _ _ _ _ _ nst)))
end
noncomputable def FF:List Lt→List V
 | []=>[]
 | L::ls => .str L.s::FF ls
theorem pu:∀ ls:List Lt,G5 (lS ls)=FF ls
 | []=>rfl
 | L::ls=>by
  show V.str ⟨#[L.c]⟩::G5 (lS ls) = .str L.s::FF ls
  refine f0 (pu ls ..) ?_
  induction L using Lt.casesOn<;>rfl
noncomputable def g5(k:Nat):Nat→Nat
 | 0=>k
 | n+1=>g5 k n+5
noncomputable def mm(m:Nat):Nat→Nat
 | 0=>m
 | n+1=>mm (m+1) n
theorem qu:∀ {n m:Nat},m≤mm m n
 | 0,_=>Nat.le_refl _
 | _+1,_=>Nat.le_trans (Nat.le_succ _) qu
theorem GE{k:Nat}:∀ {n:Nat},n≤3→g5 k n≤k+15
 | 0,_=>Nat.le_add_right ..
 | 1,_=>Nat.add_le_add_left (by decide) k
 | 2,_=>Nat.add_le_add_left (by decide:5+5≤15) k
 | 3,_=>Nat.le_refl _
theorem VL.mono{M M':Nat}(e:M≤M'){L:Lt}{x s:V}(h:VL M x s L):VL M' x s L:=by
 induction L using Lt.casesOn with
 | v=>exact VS.mono e h
 | _=>exact ⟨h.1.mono e,h.2⟩
theorem TL.mono{M M':Nat}(e:M≤M'):∀ {ls:List Lt} {xs ss:List V},TL M ls xs ss→TL M' ls xs ss
 | [],_,_,h=>h
 | _::_,_,_,h=>by
  refine Ia h ?_;(repeat clear h);intro x xs s ss a b h t
  exact Df x xs s ss a b (h.mono e) (t.mono e)
section
variable{C:Cx}{n j N M:Nat}{σ τ:y0}{Q R:X0}{X:y0→Prop}{w:Wk}{b:Bx}{m k:Nat}{s:Sl}{p q t:Option V}{pc:Int}{st bl xs ss ts ys:List V}{x y v sx laid:V}{fr:Bool}{r:Rw}{op:Str}{NN:y0→y0→Prop}
theorem Xg{f:y0→y0→(Option V→y0→Prop)→Prop}{ρ:y0}{i:Nat}{Q:List V→y0→Prop}
  (hf:∀ (L:Lt) b m k (K:Option V→y0→Prop),2≤m→b.lt (k+5)→(∀ x s' b',VL (m+1) x s' L→b'.lt k→K (some x) (Wr w b' (m+1) s))→f (R2 ρ i (some (.str L.s))) (Wr w b m s) K) :
  ∀ {ls:List Lt} {zs acc:List V} {b:Bx} {m:Nat},2≤m→b.lt (g5 k ls.length)→(∀ xs ss b',TL (mm m ls.length) ls xs ss→b'.lt k→Q (acc++xs) (Wr w b' (mm m ls.length) s))→Z4 f ρ [i] false (R8 none zs) (FF ls) (Wr w b m s) acc Q
 | [],zs,acc,b,m,_,hb,q=>(List.append_nil acc).symm▸q [] [] b ⟨rfl,rfl⟩ hb
 | L::ls,zs,acc,b,m,hm,hb,q=>hf L b m (g5 k ls.length) _ hm hb fun x s' b' hx hb'=>Xg hf (Nat.le_succ_of_le hm) hb' fun xs ss b2 ht h2 =>
   (show acc++(some x).toList++xs=acc++x::xs from List.append_assoc acc [x] xs)▸q (x::xs) (s'::ss) b2 (Df x xs s' ss rfl rfl (hx.mono qu) ht) h2
theorem Ga{b':Bx}{m':Nat}{s':Sl}{r7 r8 r9 r10 r11:Option V}{k:Nat}(hs:T4 M s')(h7:Cv (k+6) r7)(h8:Cv (k+6) r8)(h9:Cv (k+6) r9)(h10:Cv (k+6) r10)(h11:Cv (k+6) r11):Sf (k+6) (Wr w b m s) (Wt w b' m' s' none r7 r8 r9 r10 r11):=by
 have sn:∀ i j,Fa (k+6) (s'.get i j):=fun i j=>(hs i j).elim fun Z h=>h.nor
 exact ⟨.inl rfl,.inr (Km b' w.z),.inr (i8 m' w.h),.inr ⟨sn false false,sn false true,trivial⟩,.inr ⟨sn true false,sn true true,trivial⟩,.inl rfl,.inl rfl,.inr h7,.inr h8,.inr h9,.inr h10,.inr h11,Sf.refl _⟩
theorem U4{k sk:Nat}{pc:Int}{h:Bool}(e:sk≠k+6):Fa (k+6) (Uc pc sk h):=⟨trivial,trivial,e,(i8 0 h).2.2.2.1,(i8 0 h).2.2.2.2.1,trivial,trivial,trivial,trivial,trivial,trivial,trivial,trivial⟩
theorem AB{b':Bx}{m':Nat}{s':Sl}{pc pc':Int}{st st' ts:List V}{c:Bool}(hs:T4 M s')(h1:∀ k,D4 (k+6) st)(h2:∀ k,D4 (k+6) st')(h3:∀ k,D4 (k+6) ts)(q:Q (.bool c) (Wr w b' m' s')) :
  GC 11 (Wr w b m s) (GC 9 (Wr w b m s) (GC 10 (Wr w b m s) (GC 7 (Wr w b m s) (GC 8 (Wr w b m s) Q)))) (.bool c) (Wt w b' m' s' none (some (Uc pc 8 w.h)) (some (.a .lst st)) (some (Uc pc' 10 w.h)) (some (.a .lst st')) (some (.a .lst ts))) :=
 .inr (i5 _ rfl (h3 5) (Ga hs (U4 (by decide)) (h1 5) (U4 (by decide)) (h2 5) trivial) (.inr (i5 _ rfl (U4 (k:=3) (by decide)) (Ga (k:=3) hs (U4 (by decide)) (h1 3) trivial (h2 3) trivial) (.inr (i5 _ rfl (h2 4) (Ga (k:=4) hs (U4 (by decide)) (h1 4) trivial trivial trivial) (.inr (i5 _ rfl (U4 (k:=1) (by decide)) (Ga (k:=1) hs trivial (h1 1) trivial trivial trivial) (.inr (i5 _ rfl (h1 2) (Ga (k:=2) hs trivial trivial trivial trivial trivial) q)))))))))
theorem BB{b':Bx}{m':Nat}{s':Sl}{pc:Int}{st ts:List V}{c:Bool}(hs:T4 M s')(h1:∀ k,D4 (k+6) st)(h3:∀ k,D4 (k+6) ts)(q:Q (.bool c) (Wr w b' m' s')) :
  GC 11 (Wr w b m s) (GC 9 (Wr w b m s) (GC 10 (Wr w b m s) (GC 7 (Wr w b m s) (GC 8 (Wr w b m s) Q)))) (.bool c) (Wt w b' m' s' none (some (Uc pc 8 w.h)) (some (.a .lst st)) none none (some (.a .lst ts))) :=
 .inr (i5 _ rfl (h3 5) (Ga hs (U4 (by decide)) (h1 5) trivial trivial trivial) (.inl (.inl (.inr (i5 _ rfl (U4 (k:=1) (by decide)) (Ga (k:=1) hs trivial (h1 1) trivial trivial trivial) (.inr (i5 _ rfl (h1 2) (Ga (k:=2) hs trivial trivial trivial trivial trivial) q)))))))
end
theorem Sb{r:Rw}(h:U3 r):(S2 r).length≤3:=by
 induction h using U3.casesOn with
 | tuck ha=>rcases W6 ha with rfl|rfl|rfl<;>exact Nat.le_of_ble_eq_true rfl
 | _=>exact Nat.le_of_ble_eq_true rfl
noncomputable def KF(r:Rw)(L:Lt):Prop:=∃ k1 k2,cg (.str r.op) (.str G1)=some k1∧ll (.str r.op) (.a .lst [.str J1,.str U0])=some k2∧(k1=true→k2=false)∧((k1||k2)=true→L = .v) ∧
 (kd r=0∨(kd r=3∧k1=true∧k2=false∧O0 r.op=2∧L = .v∧S2 r=[.v])∨(k1=false∧k2=false∧(kd r=1∨(L = .v∧(kd r=2∨kd r=4)))))
theorem HE{r:Rw}{L:Lt}{ls:List Lt}(h:U3 r)(e:S2 r=L::ls):KF r L:=by
 induction h using U3.casesOn with
 | pop=>exact O6 false false rfl rfl (fun Z=>Bool.noConfusion Z) (fun Z=>Bool.noConfusion Z) (.inl rfl)
 | dup=>obtain ⟨rfl,rfl⟩:=List.cons.inj e;exact O6 false false rfl rfl (fun Z=>Bool.noConfusion Z) (fun Z=>Bool.noConfusion Z) (.inr (.inr (V0 rfl rfl (.inr ⟨rfl,.inl rfl⟩))))
 | dup2=>obtain ⟨rfl,rfl⟩:=List.cons.inj e;exact O6 false false rfl rfl (fun Z=>Bool.noConfusion Z) (fun Z=>Bool.noConfusion Z) (.inr (.inr (V0 rfl rfl (.inr ⟨rfl,.inl rfl⟩))))
 | swap=>obtain ⟨rfl,rfl⟩:=List.cons.inj e;exact O6 false false rfl rfl (fun Z=>Bool.noConfusion Z) (fun Z=>Bool.noConfusion Z) (.inr (.inr (V0 rfl rfl (.inr ⟨rfl,.inr rfl⟩))))
 | caught=>exact O6 false false rfl rfl (fun Z=>Bool.noConfusion Z) (fun Z=>Bool.noConfusion Z) (.inr (.inr (V0 rfl rfl (.inl rfl))))
 | islist=>exact O6 false false rfl rfl (fun Z=>Bool.noConfusion Z) (fun Z=>Bool.noConfusion Z) (.inr (.inr (V0 rfl rfl (.inl rfl))))
 | istable=>exact O6 false false rfl rfl (fun Z=>Bool.noConfusion Z) (fun Z=>Bool.noConfusion Z) (.inr (.inr (V0 rfl rfl (.inl rfl))))
 | setl i j=>exact O6 false false rfl rfl (fun Z=>Bool.noConfusion Z) (fun Z=>Bool.noConfusion Z) (.inl rfl)
 | @spread a c ha hc =>
  have:kd (Cq (Int.ofNat a) (Int.ofNat c))=0∨kd (Cq (Int.ofNat a) (Int.ofNat c))=1:=by
   show kz 0 1 (a+c)=0∨kz 0 1 (a+c)=1
   cases a+c with
   | zero=>exact .inl rfl
   | succ=>exact .inr rfl
  exact O6 false false rfl rfl (fun Z=>Bool.noConfusion Z) (fun Z=>Bool.noConfusion Z) (this.imp id fun z => .inr (V0 rfl rfl (.inl z)))
 | fits a c=>exact O6 false false rfl rfl (fun Z=>Bool.noConfusion Z) (fun Z=>Bool.noConfusion Z) (.inr (.inr (V0 rfl rfl (.inl rfl))))
 | lat a=>exact O6 false false rfl rfl (fun Z=>Bool.noConfusion Z) (fun Z=>Bool.noConfusion Z) (.inr (.inr (V0 rfl rfl (.inl rfl))))
 | only=>exact O6 false false rfl rfl (fun Z=>Bool.noConfusion Z) (fun Z=>Bool.noConfusion Z) (.inr (.inr (V0 rfl rfl (.inl rfl))))
 | has=>exact O6 false false rfl rfl (fun Z=>Bool.noConfusion Z) (fun Z=>Bool.noConfusion Z) (.inr (.inr (V0 rfl rfl (.inl rfl))))
 | tat=>exact O6 false false rfl rfl (fun Z=>Bool.noConfusion Z) (fun Z=>Bool.noConfusion Z) (.inr (.inr (V0 rfl rfl (.inl rfl))))
 | tuck ha =>
  rcases W6 ha with rfl|rfl|rfl
  ·obtain ⟨rfl,rfl⟩:=List.cons.inj e;exact O6 false false rfl rfl (fun Z=>Bool.noConfusion Z) (fun Z=>Bool.noConfusion Z) (.inr (.inr (V0 rfl rfl (.inr ⟨rfl,.inl rfl⟩))))
  ·obtain ⟨rfl,rfl⟩:=List.cons.inj e;exact O6 false false rfl rfl (fun Z=>Bool.noConfusion Z) (fun Z=>Bool.noConfusion Z) (.inr (.inr (V0 rfl rfl (.inr ⟨rfl,.inr rfl⟩))))
  ·obtain ⟨rfl,rfl⟩:=List.cons.inj e;exact O6 false false rfl rfl (fun Z=>Bool.noConfusion Z) (fun Z=>Bool.noConfusion Z) (.inr (.inr (V0 rfl rfl (.inr ⟨rfl,.inr rfl⟩))))
 | jumpif t=>obtain ⟨rfl,rfl⟩:=List.cons.inj e;exact O6 false true rfl rfl (fun Z=>Bool.noConfusion Z) (fun Z=>rfl) (.inl rfl)
 | jumpunless t=>obtain ⟨rfl,rfl⟩:=List.cons.inj e;exact O6 false true rfl rfl (fun Z=>Bool.noConfusion Z) (fun Z=>rfl) (.inl rfl)
 | jumpnil t=>obtain ⟨rfl,rfl⟩:=List.cons.inj e;exact O6 true false rfl rfl (fun Z=>rfl) (fun Z=>rfl) (.inr (.inl (BC rfl rfl rfl rfl rfl rfl)))
 | _=>exact nomatch e
theorem su{a b:Nat}(h:a<b):(Int.ofNat a==Int.ofNat b)=false:=beq_eq_false_iff_ne.mpr fun e=>Nat.ne_of_lt h (Int.ofNat.inj e)
theorem xk{M n k:Nat}{x s:V}(h:VS M x s)(hn:M<n):Q8 (k+2) s (.a .lst [.str S3,.int (Int.ofNat n)])=false:=by
 induction h using VS.casesOn with
 | p=>exact Bool.and_false _
 | l=>rfl
 | h=>rfl
 | w=>rfl
 | t h _ =>
  show (true&&((Int.ofNat _==Int.ofNat n)&&true))=false
  refine f0 (su (Nat.lt_of_le_of_lt h hn) ..) ?_;rfl
 | o h =>
  show (true&&((Int.ofNat 3==Int.ofNat n)&&true))=false
  refine f0 (su (Nat.lt_of_le_of_lt h hn) ..) ?_;rfl
theorem yk{f:V→V→Bool}{x y:V}(h:f x y=false):∀ {as bs cs:List V},Z6 f (as++x::bs) (as++y::cs)=false
 | [],_,_=>by show (f x y&&_)=false;refine f0 (h ..) ?_;rfl
 | a::as,bs,cs=>by show (f a a&&Z6 f (as++x::bs) (as++y::cs))=false;exact f0 (yk h ..) (f0 (Bool.and_false ..) rfl)
theorem CB{M:Nat}{L:Lt}{y s:V}(h:VL M y s L)(hv:L = .v→∃ n,s = .a .lst [.str S3,.int n]):∃ a c rest,s = .a .lst (a::c::rest):=by
 induction L using Lt.casesOn with
 | v=>obtain ⟨n,rfl⟩:=hv rfl;exact Cz _ _ _ rfl
 | _ =>
  obtain ⟨h,e⟩:=h
  cases h with
  | p hp=>induction y using V.casesOn with
   | _=>first|exact False.elim hp|exact nomatch e
  | _=>first|exact Cz _ _ _ rfl|exact nn e
section
variable{C:Cx}{n j N M:Nat}{σ τ:y0}{Q R:X0}{X:y0→Prop}{w:Wk}{b:Bx}{m k:Nat}{s:Sl}{p q t:Option V}{pc:Int}{st bl xs ss ts ys as0 Ef d0 d1:List V}{x y v sx laid s0 s1 x0:V}{fr:Bool}{r:Rw}{op:Str}{NN:y0→y0→Prop}{L:Lt}
theorem DB{c e:V}(h:VS M y (.a .lst [c,e])):U8 y=false:=by cases h<;>rfl
theorem EB{k1 k2:Bool}(hk:kd r=0∨(kd r=3∧k1=true∧k2=false∧O0 r.op=2∧L = .v∧S2 r=[.v])∨(k1=false∧k2=false∧(kd r=1∨(L = .v∧(kd r=2∨kd r=4)))))
  (e1:d0=as0.drop 1) (e2:d1=Ef.drop 1) (ha0:gu (kd r) (s0::st) as0) (ha1:gu (kd r) (s1::st) Ef) (hx:VS M x0 s0) (hst:∀ l∈st,∃ z,VS M z l) (htg:O0 r.op=2→tgt r≠1000) (hxs:S2 r=[.v]→xs=[])
  (hy:zH k1 k2 L M x0 y s1)
  (t1:Z6 (Q8 19) (Ef.take 1) [s1]=true):(Z6 (Q8 18) d0 d1&&(Dv r (x0::xs)==Dv r (y::xs)&&true))=false:=by
 have c1:∀ {a:Bool},a=false→(Z6 (Q8 18) d0 d1&&(a&&true))=false:=fun e=>by refine f0 (e ..) ?_;exact Bool.and_false _
 rcases hk with h0|⟨h3,rfl,rfl,hl,rfl,he⟩|⟨rfl,rfl,h⟩
 ·rw [h0] at ha1
  obtain rfl:=(show Ef=[] from ha1)
  exact Bool.noConfusion t1
 ·obtain rfl:=hxs he
  refine c1 ?_
  show (cond (Jd (O0 r.op) (some x0)) (tgt r) 1000==cond (Jd (O0 r.op) (some y)) (tgt r) 1000)=false
  refine f0 (hl ..) ?_
  show (cond (U8 x0) (tgt r) 1000==cond (U8 y) (tgt r) 1000)=false
  rcases hy with ⟨z,rfl⟩|⟨z,v,u⟩
  ·cases hn:U8 x0 with
   | true=>rw [hn] at z;exact Bool.noConfusion z
   | false=>exact beq_eq_false_iff_ne.mpr (Ne.symm (htg hl))
  ·obtain rfl:=u rfl
   refine f0 (DB v ..) ?_
   cases hn:U8 x0 with
   | true=>exact beq_eq_false_iff_ne.mpr (htg hl)
   | false=>rw [hn] at z;exact Bool.noConfusion z
 ·rcases hy with ⟨z,_⟩|⟨_,v,u⟩
  ·exact Bool.noConfusion z
  rcases h with h1|⟨rfl,h2|h4⟩
  ·rw [h1] at ha1
   refine jh ha1 ?_;(repeat clear ha1);intro q rest xI;obtain rfl:=xI
   refine JC (CB v fun e=>⟨_,u e⟩) ?_;intro a c rest vI;obtain rfl:=vI
   have t1:((Q8 18 (.str q) a&&false)&&true)=true:=t1
   rw [Bool.and_false] at t1
   exact Bool.noConfusion t1
  ·rw [h2] at ha0 ha1
   obtain rfl:=(show as0=(s0::st)++(s0::st) from ha0)
   obtain rfl:=(show Ef=(s1::st)++(s1::st) from ha1)
   obtain rfl:=u rfl
   subst e1;subst e2
   show (Z6 (Q8 18) (st++s0::st) (st ++ .a .lst [.str S3,.int (Int.ofNat (M+1))]::st)&&_)=false
   refine f0 (yk (xk (k:=16) hx (Nat.lt_succ_self M)) ..) ?_
   rfl
  ·rw [h4] at ha1
   refine da ha1 ?_;(repeat clear ha1);intro s0' l rest st' tI e hl;obtain rfl:=tI
   obtain ⟨rfl,rfl⟩:=List.cons.inj e
   obtain rfl:=u rfl
   obtain ⟨z,hz⟩:=hst l hl
   have t1:(Q8 19 l (.a .lst [.str S3,.int (Int.ofNat (M+1))])&&true)=true:=t1
   rw [xk (k:=17) hz (Nat.lt_succ_self M)] at t1
   exact Bool.noConfusion t1
theorem sf{f:y0→y0→(y0→y0→Prop)→Prop}{ts:List Nat}{pat:Bool}{G:y0→Prop→Prop}{xs ys:List V}{ρ σ:y0}{N:y0→y0→Prop}(e:xs=ys)(k:P3 f ts pat G ys ρ σ N):P3 f ts pat G xs ρ σ N:=e▸k
theorem E8{f:y0→y0→(y0→y0→Prop)→Prop}{i:Nat}{zs xs:List V}{x:V}{ρ σ:y0}{N:y0→y0→Prop}(k:f (R2 ρ i (some x)) σ fun ρ σ=>P3 f [i] false (R8 none zs) xs ρ σ N):P3 f [i] false (R8 none zs) (x::xs) ρ σ N:=k
theorem Oo{k:Nat}:∀ (n:Nat) (v:V),n8 n v=true→Fa k v
 | 0,v=>by induction v using V.casesOn with
  | ref|a=>exact Bool.noConfusion
  | _=>exact fun Z=>trivial
 | n+1,v=>by
  have all:∀ xs:List V,K4 (n8 n) xs=true→D4 k xs:=fun xs=>by
   induction xs with
   | nil=>exact fun Z=>trivial
   | cons x xs ih=>exact fun h=>⟨Oo n x (b2 h).1,ih (b2 h).2⟩
  induction v using V.casesOn with
  | ref=>exact Bool.noConfusion
  | a A xs=>induction A using Ag.casesOn with
   | lst=>exact all xs
   | tup=>exact all xs
   | _=>exact Bool.noConfusion
  | _=>exact fun Z=>trivial
theorem Vm{k:Nat}{c:Bool}{pc:Int}(h:∀ n,K4 (n8 (n+4)) as0=true)(e:d0=as0.drop 1):Fa k (CE c d0 pc) :=
 ⟨trivial,Oo (k:=k) 5 (.a .lst d0) (show K4 (n8 4) d0=true from e▸(J5 (h 0)).2),trivial,trivial⟩
theorem tu:∀ {xs ss:List V},AL M xs ss→∀ l∈ss,∃ z,VS M z l
 | [],_,h,l,hl=>by obtain rfl:=(show _=[] from h);exact (List.not_mem_nil hl).elim
 | _::_,_,h,l,hl=>by
  refine Z0 h ?_;(repeat clear h);intro s ss rI h t;obtain rfl:=rI
  exact (List.mem_cons.mp hl).elim (fun e=>⟨_,e▸h⟩) (tu t l)
theorem FB{a c d:Nat}(e:a=c):(!((Int.ofNat a==Int.ofNat c)&&((Int.ofNat d==Int.ofNat d)&&true)))=false:=by refine f0 (e ..) (f0 (beq_self_eq_true ..) (f0 (beq_self_eq_true ..) ?_));rfl
theorem T4.mono{M M':Nat}(e:M≤M')(h:T4 M s):T4 M' s:=fun i j=>(h i j).imp fun Z z=>z.mono e
set_option maxHeartbeats 1000000 in
theorem zk(H:V2 C)(h:U3 r)(hr:N7 w.τ x r)(hm:3≤m)(hs:T4 m s)(hb:b.lt (k+15))(htg:O0 r.op=2→tgt r≠1000)(hq:∀ b' m' s',m≤m'→T4 m' s'→b'.lt k→Q (.bool true) (Wr w b' m' s')) :
  B0 C 20 (.g 72) [.ref 1,.ref 2,x] (Wr w b m s) Q X:=by
 refine B0.gc 8 rfl (B0.gc 7 rfl (B0.gc 10 rfl (B0.gc 9 rfl (B0.gc 11 rfl (F0 H 16 0 rfl rfl (by decide) ?_)))))
 refine (Vc H hr ?_).le (by decide)
 have few:=Sb h
 have l3:Nat.ble (lS (S2 r)).length 1000000=true:=Nat.ble_eq_true_of_le (Nat.le_trans (show ((S2 r).map Lt.c).length≤3 from (List.length_map (f:=Lt.c))▸few) (by decide))
 refine K0 l3 (A6 (pu (S2 r)) (Xg (fun L b m k K hm hb hK=>Fo H L hm hb hK) (Nat.le_of_succ_le hm) (Bx.le hb (GE few)) fun xs ss b' ht hb'=>?_))
 refine Z3 hr.der rfl (Z3 hr.der rfl (Z3 hr.der rfl (Z3 hr.der rfl ((Jo H ?_).le (by decide)))))
 refine C0 11 rfl ((fu H (.inl h) ?_).le (by decide))
 refine L6 (FB (Za ht).symm) ?_
 have hM:m≤mm m (S2 r).length:=qu
 revert ht hM
 generalize mm m (S2 r).length=M
 intro ht hM
 have h3:3≤M:=Nat.le_trans hm hM
 have hs:=hs.mono hM
 have nc:∀ l:List Lt,l=[]∨∃ L ls,l=L::ls:=fun l=>by induction l using List.casesOn with|nil=>exact .inl rfl|cons L ls=>exact .inr (V8 L ls rfl)
 rcases nc (S2 r) with hl|⟨L,ls,hl⟩
 ·
  have e:xs=[]∧ss=[]:=by rw [hl] at ht;exact ht
  obtain ⟨rfl,rfl⟩:=e
  refine sf (ys:=[.a .lst []]) rfl (E8 ?_)
  refine ou H h hr h3 hs ht few (ts:=[]) (Nat.zero_le _) ?_
  intro as d s' res dd hd hs' o9 o10 o11 o12 st nst
  exact BB hs' nst (fun k=>⟨Vm dd hd,trivial⟩) (hq b' M s' hM hs' hb')
 ·
  obtain ⟨x0,xs',s0,ss',rfl,rfl,hx0,ht'⟩:∃ x0 xs' s0 ss',xs=x0::xs'∧ss=s0::ss'∧VL M x0 s0 L∧TL M ls xs' ss':=by rw [hl] at ht;exact ht
  refine O8 (HE h hl) fun k1 k2 e1 e2 hkk hv hk=>?_
  have w0:ga (G5 (lS (S2 r))) 0=some (.str L.s):=by refine f0 (pu ..) (f0 (hl ..) ?_);rfl
  refine Z3 hr.der rfl (K0 l3 (M0 w0 ((ju H L e1 e2 hkk (Nat.le_of_succ_le h3) hx0.vs fun y u hy D=>?_).le (by decide))))
  have ey:[y]++(x0::xs').drop (clipAt (x0::xs').length 1)=y::xs':=congrArg (y::·) qf.2
  have M1:M≤M+1:=Nat.le_succ M
  have hyL:VL (M+1) y u L:=by
   rcases D with ⟨z,_⟩|⟨_,z,_⟩
   ·have:(k1||k2)=true:=by induction k1 using Bool.casesOn<;>induction k2 using Bool.casesOn<;>first|rfl|exact z
    obtain rfl:=hv this;exact hy
   ·exact z
  have t0:TL (M+1) (S2 r) (x0::xs') (s0::ss'):=ht.mono M1
  have t1:TL (M+1) (S2 r) (y::xs') (u::ss'):=by refine f0 (hl ..) ?_;exact Df y xs' u ss' rfl rfl hyL (ht'.mono M1)
  refine K0 ((congrArg (fun z:List V=>Nat.ble z.length 1000000) ey).trans (Nat.ble_eq_true_of_le (Nat.le_trans (Za t1▸few) (by decide)))) (sf (ys:=[.a .lst (x0::xs'),.a .lst (y::xs')]) (congrArg (fun z=>[V.a .lst (x0::xs'),.a .lst z]) ey) (E8 ?_))
  refine ou H h hr (Nat.le_succ_of_le h3) (hs.mono M1) t0 few (ts:=[]) (Nat.zero_le _) ?_
  intro as0 d0 s1' res0 dd0 nE hs1 o9 o10 o11 o12 st0 nst0
  refine E8 (zB H h hr (Nat.le_succ_of_le h3) hs1 t1 few (Nat.le_succ 1) ?_)
  intro Ef d1 s2' res1 dd1 yC hs2 p9 p10 p11 p12 st1 nst1
  have fine:Q (.bool true) (Wr w b' (M+1) s2'):=hq b' (M+1) s2' (Nat.le_succ_of_le hM) hs2 hb'
  have out:=AB (w:=w) (b:=b) (m:=m) (s:=s) (pc:=Dv r (x0::xs')) (pc':=Dv r (y::xs')) (ts:=[CE (Z6 (Q8 19) (as0.take 1) [s0]) d0 (Dv r (x0::xs')),CE (Z6 (Q8 19) (Ef.take 1) [u]) d1 (Dv r (y::xs'))]) hs2 nst0 nst1 (fun k=>⟨Vm dd0 nE,Vm dd1 yC,trivial⟩) fine
  have g1:∀ {as d:List V} {pc:Int},(∀ n,K4 (n8 (n+4)) as=true)→d=as.drop 1→K4 (n8 19) [.a .lst d,.int pc]=true:=fun h e=>i6 (show K4 (n8 18) _=true from e▸(J5 (h 14)).2) rfl
  have hss:∀ l∈ss',∃ z,VS M z l:=tu (Dd ht')
  have hxs:S2 r=[.v]→xs'=[]:=fun e=>by
   rw [hl] at e
   obtain ⟨rfl,rfl⟩:=List.cons.inj e
   exact ht'.1
  refine Y2 (fun t0=>Y2 (fun t1=>?_) fun Z=>out) fun Z=>out
  exact M0 ((yi (g1 dd0 nE) (g1 dd1 yC)).trans (congrArg some (EB hk nE yC res0 res1 hx0.vs hss htg hxs D t1))) out
end
mutual
theorem uu{k:Nat}{u:V}:∀ (v:V),Fa k v→Rf k u v=v
 | .ref j,h=>by
  show (match Nat.beq j k with|true=>u|false => .ref j)=_
  cases q:Nat.beq j k with
  | true=>exact absurd (Nat.eq_of_beq_eq_true q) h
  | false=>rfl
 | .a K xs,h=>congrArg (V.a K) (Po xs h)
 | .none,_=>rfl
 | .bool _,_=>rfl
 | .int _,_=>rfl
 | .str _,_=>rfl
 | .g _,_=>rfl
 | .b _,_=>rfl
 | .m _ _,_=>rfl
 | .raw _,_=>rfl
theorem Po{k:Nat}{u:V}:∀ (xs:List V),D4 k xs→Wj k u xs=xs
 | [],_=>rfl
 | x::xs,h=>by show Rf k u x::Wj k u xs=_;exact f0 (uu x h.1 ..) (f0 (Po xs h.2 ..) rfl)
end
theorem IE{k:Nat}{u:V}{i:Int}{D:List V}(h:D4 k D):Rf k u (.a .tup [.int i,.a .lst D]) = .a .tup [.int i,.a .lst D]:=uu _ ⟨trivial,h,trivial⟩
section
variable{C:Cx}{n j N M:Nat}{σ τ:y0}{Q R:X0}{X:y0→Prop}{w:Wk}{b:Bx}{m k:Nat}{s:Sl}{p q t:Option V}{pc i0:Int}{st bl xs ss us hh tops ys:List V}{x y v sx:V}{fr:Bool}{r:Rw}{op:Str}{NN:y0→y0→Prop}{L:Lt}
theorem AL.app:∀ {xs ys ss us:List V},AL M xs ss→AL M ys us→AL M (xs++ys) (ss++us)
 | [],_,_,_,h,h'=>by obtain rfl:=(show _=[] from h);exact h'
 | _::_,_,_,_,h,h'=>by
  refine Z0 h ?_;(repeat clear h);intro s ss tI h t;obtain rfl:=tI
  exact L1 s _ rfl h (t.app h')
theorem Zg{f:y0→y0→(Option V→y0→Prop)→Prop}{ρ σ:y0}{i:Nat}{Q:List V→y0→Prop}(hf:∀ x s,VS M x s→∀ K:Option V→y0→Prop,K none σ→f (R2 ρ i (some x)) σ K) :
  ∀ {zs xs ss acc:List V},AL M xs ss→Q acc σ→Z4 f ρ [i] false (R8 none zs) xs σ acc Q
 | zs,[],ss,acc,h,q=>q
 | zs,x::xs,_,acc,h,q=>by
  refine Z0 h ?_;(repeat clear h);intro s ss rI h t;obtain rfl:=rI
  exact hf x s h _ (Zg hf t ((List.append_nil acc).symm▸q))
theorem wu:∀ {hh tops:List V},tops≠[]→(hh++tops).getLast?=tops.getLast?:=fun {hh tops} h=>by
 rcases List.eq_nil_or_concat tops with e|⟨ys,y,rfl⟩
 ·exact absurd e h
 ·rw [List.concat_eq_append,←List.append_assoc,List.getLast?_concat,List.getLast?_concat]
theorem xu(h:U3 r)(ht:TL M (S2 r) tops ss):Jd (O0 r.op) (hh++tops).getLast?=Jd (O0 r.op) tops.getLast?:=by
 induction tops using List.casesOn with
 | cons x tops=>exact f0 (wu (List.cons_ne_nil x tops) ..) rfl
 | nil =>
  have e:S2 r=[]:=List.eq_nil_of_length_eq_zero (Za ht).symm
  induction h using U3.casesOn<;>first|rfl|exact nomatch e
theorem TG{c:Bool}{i z:Int}{y:V}(h:c=true)(e:y = .int i):cg (.int (cond c i z)) (der σ y)=some true:=by
 subst h;subst e;exact congrArg some (beq_self_eq_true i)
theorem UG{c:Bool}{i z:Int}(h:c=false):((cond c i z:Int)==z)=true:=by subst h;exact beq_self_eq_true z
theorem GB{a c l:Nat}{D:List V}(e:D.length=a+c)(lt:tops.length=l)(ha:hh.length=a):(!((D.length:Int)==(((hh++tops).length:Nat):Int) - Int.ofNat l+Int.ofNat c))=false:=by
 rw [e,List.length_append,lt,ha]
 have:(((a+l:Nat):Int)) - Int.ofNat l+Int.ofNat c=((a+c:Nat):Int):=by
  show ((a+l:Nat):Int) - (l:Int)+(c:Int)=((a+c:Nat):Int)
  exact f0 (Int.natCast_add ..) (f0 (Int.add_sub_cancel ..) (f0 (Int.natCast_add ..) rfl))
 rw [this,beq_self_eq_true];rfl
theorem Ak(h:AL M hh us)(h':AL M tops ss):∀ z,(hh++tops).getLast?=some z→∃ s,VS M z s:=fun z e=>by
 have:∀ {xs ss:List V},AL M xs ss→∀ x∈xs,∃ s,VS M x s:=fun {xs}=>by
  induction xs with
  | nil=>exact fun Z Z=>nofun
  | cons y xs ih =>
   intro ss h x hx
   refine Z0 h ?_;(repeat clear h);intro s ss' _ h t
   exact (List.mem_cons.mp hx).elim (fun e=>⟨s,e▸h⟩) (ih t x)
 exact this (h.app h') z (List.mem_of_getLast? e)
theorem Tx{n e:Nat}(h:e<n):decide ((Int.ofNat n)≤(Int.ofNat e))=false:=decide_eq_false fun z=>Nat.not_le.mpr h (Int.ofNat_le.mp z)
set_option maxHeartbeats 1000000 in
theorem Tb(H:V2 C)(h:U3 r)(hr:N7 w.τ x r)(h3:3≤M)(hs:T4 M s)(hh0:AL M hh us)(ht:TL M (S2 r) tops ss)(hf:W9 11 hh)
  (hq:∀ D ab as s',D=hh++ab→ab.length=j8 r→AL M ab as→T4 M s'→Q (.a .tup [.int (cond (Jd (O0 r.op) tops.getLast?) (tgt r) (i0+1)),.a .lst D]) (Wr w b m s')) :
  B0 C 20 (.g 80) [.ref 2,x,.int i0,.a .lst (hh++tops)] (Wr w b m s) Q X:=by
 refine B0.gc 8 rfl (B0.gc 7 rfl (F0 H 16 0 rfl rfl (by decide) ?_))
 have lt:=Za ht
 have few:=Sb h
 have l3:Nat.ble (lS (S2 r)).length 1000000=true:=Nat.ble_eq_true_of_le (Nat.le_trans (show ((S2 r).map Lt.c).length≤3 from (List.length_map (f:=Lt.c))▸few) (by decide))
 have g0:Nat.ble ([K2 1 b6,K2 2 d6]++(hh++tops)).length 1000000=true:=Nat.ble_eq_true_of_le (show (hh++tops).length+1+1≤1000000 from List.length_append▸Nat.le_trans (Nat.add_le_add_left (Nat.add_le_add_right (lt▸few) 2) hh.length) (Nat.le_trans (Nat.add_le_add_left (by decide) _) hf))
 refine (Vc H hr ?_).le (by decide)
 refine K0 g0 (C0 8 rfl ((Wc (fr:=true) H ?_).le (by decide)))
 refine (Pm H ?_).le (by decide)
 refine Z3 hr.der rfl (M0 (Qm h) ?_)
 refine Z3 hr.der rfl (Z3 hr.der rfl (Z3 hr.der rfl (Z3 hr.der rfl ((Jo H ?_).le (by decide)))))
 have hbl:W9 9 ([K2 1 b6,K2 2 d6]++hh):=hf
 refine iu (fr:=true) (bl:=[K2 1 b6,K2 2 d6]++hh) H h h3 hs hbl ht ?_
 intro st ab as s' e lab hab res hs'
 subst e
 have D:([K2 1 b6,K2 2 d6]++hh++ab).drop (clipAt ([K2 1 b6,K2 2 d6]++hh++ab).length 2)=hh++ab:=Rm
 have hD:=hh0.app hab
 refine A6 Sm ((Yc H ?_).le (by decide))
 refine (Yc H ?_).le (by decide)
 have dl:(([K2 1 b6,K2 2 d6]++hh++ab).drop (clipAt ([K2 1 b6,K2 2 d6]++hh++ab).length 2)).length=hh.length+j8 r:=by exact f0 (D ..) (f0 (List.length_append ..) (f0 (lab ..) rfl))
 refine K0 l3 (L6 (GB (tops:=tops) (l:=(lS (S2 r)).length) dl (lt.trans (List.length_map (f:=Lt.c)).symm) rfl) ?_)
 refine A6 D (Zg (M:=M) (fun y u hy K kk=>?_) hD ?_)
 ·cases hy with
  | p hp=>induction y using V.casesOn with
   | none=>exact kk
   | bool=>exact kk
   | int=>exact kk
   | str=>exact kk
   | _=>exact False.elim hp
  | l=>exact kk
  | h=>exact kk
  | w=>exact kk
  | t _ h2=>exact L6 (Tx h2) kk
  | o=>exact kk
 refine Z3 hr.der rfl ((Tm H (hh++tops).getLast? mu (fun z hz=>Ak hh0 (Dd ht) z hz) ?_).le (by decide))
 have gl:=xu (hh:=hh) h ht
 have nst:∀ k,D4 (k+6) ([K2 1 b6,K2 2 d6]++hh++ab):=fun k=>⟨⟨trivial,trivial,trivial,trivial,trivial,trivial,trivial,trivial⟩,⟨trivial,trivial,trivial,trivial,trivial,trivial,trivial,trivial⟩,hD.nor⟩
 have nD:∀ k,D4 (k+6) (([K2 1 b6,K2 2 d6]++hh++ab).drop (clipAt ([K2 1 b6,K2 2 d6]++hh++ab).length 2)):=fun k=>D.symm▸hD.nor
 have q:=hq _ ab as s' D lab hab hs'
 have out:GC 7 (Wr w b m s) (GC 8 (Wr w b m s) Q) (.a .tup [.int (cond (Jd (O0 r.op) tops.getLast?) (tgt r) (i0+1)),.a .lst (([K2 1 b6,K2 2 d6]++hh++ab).drop (clipAt ([K2 1 b6,K2 2 d6]++hh++ab).length 2))]) (Wf true w b m s' none none none (cond (Jd (O0 r.op) tops.getLast?) (tgt r) (i0+1)) ([K2 1 b6,K2 2 d6]++hh++ab)):=by
  refine .inr (i5 _ rfl (U4 (k:=1) (by decide)) (Ga (k:=1) hs' trivial (nst 1) trivial trivial trivial) (.inr (i5 _ rfl (nst 2) (Ga (k:=2) hs' trivial trivial trivial trivial trivial) ?_)))
  refine f0 (IE (k:=7) (nD 1) ..) (f0 (IE (k:=8) (nD 2) ..) ?_)
  exact q
 exact Y2 (fun g=>Z3 hr.der rfl (M0 (TG (gl▸g) (Um h g)) out)) fun g=>Ng (UG (gl▸g)) out
end
noncomputable def WF(r:Rw):Prop:=∃ c j n,ll (.str (lS (S2 r))) (.a .lst [.str lx,.str jx,.str xC])=some c∧ll (.str r.op) (.a .lst [.str J1,.str U0,.str G1])=some j∧cg (.str r.op) (.str G1)=some n ∧
 ((c=true∧∃ L,S2 r=[L]∧O0 r.op=0)∨(c=false∧j=false∧Ze (fun L=>L=Lt.v) (S2 r)∧O0 r.op<2)∨(c=false∧j=true∧S2 r=[.v]∧((O0 r.op=2∧n=true)∨((O0 r.op=3∨O0 r.op=4)∧n=false))))
theorem JE{r:Rw}(h:U3 r):WF r:=by
 induction h using U3.casesOn with
 | caught=>exact X4 true false false rfl rfl rfl (.inl ⟨rfl,_,rfl,rfl⟩)
 | spread=>exact X4 true false false rfl rfl rfl (.inl ⟨rfl,_,rfl,rfl⟩)
 | fits=>exact X4 true false false rfl rfl rfl (.inl ⟨rfl,_,rfl,rfl⟩)
 | lat=>exact X4 true false false rfl rfl rfl (.inl ⟨rfl,_,rfl,rfl⟩)
 | only=>exact X4 true false false rfl rfl rfl (.inl ⟨rfl,_,rfl,rfl⟩)
 | has=>exact X4 true false false rfl rfl rfl (.inl ⟨rfl,_,rfl,rfl⟩)
 | tat=>exact X4 true false false rfl rfl rfl (.inl ⟨rfl,_,rfl,rfl⟩)
 | jumpif=>exact X4 false true false rfl rfl rfl (.inr (.inr (E3 rfl rfl rfl (.inr ⟨.inl rfl,rfl⟩))))
 | jumpunless=>exact X4 false true false rfl rfl rfl (.inr (.inr (E3 rfl rfl rfl (.inr ⟨.inr rfl,rfl⟩))))
 | jumpnil=>exact X4 false true true rfl rfl rfl (.inr (.inr (E3 rfl rfl rfl (.inl ⟨rfl,rfl⟩))))
 | tuck ha =>
  rcases W6 ha with rfl|rfl|rfl
  ·exact X4 false false false rfl rfl rfl (.inr (.inl (E3 rfl rfl ⟨rfl,trivial⟩ (Nat.le_of_ble_eq_true rfl))))
  ·exact X4 false false false rfl rfl rfl (.inr (.inl (E3 rfl rfl ⟨rfl,rfl,trivial⟩ (Nat.le_of_ble_eq_true rfl))))
  ·exact X4 false false false rfl rfl rfl (.inr (.inl (E3 rfl rfl ⟨rfl,rfl,rfl,trivial⟩ (Nat.le_of_ble_eq_true rfl))))
 | dup2=>exact X4 false false false rfl rfl rfl (.inr (.inl (E3 rfl rfl ⟨rfl,rfl,trivial⟩ (Nat.le_of_ble_eq_true rfl))))
 | swap=>exact X4 false false false rfl rfl rfl (.inr (.inl (E3 rfl rfl ⟨rfl,rfl,trivial⟩ (Nat.le_of_ble_eq_true rfl))))
 | push|self|getl|geti|jump=>exact X4 false false false rfl rfl rfl (.inr (.inl (E3 rfl rfl trivial (Nat.le_of_ble_eq_true rfl))))
 | pop|dup|islist|istable|setl=>exact X4 false false false rfl rfl rfl (.inr (.inl (E3 rfl rfl ⟨rfl,trivial⟩ (Nat.le_of_ble_eq_true rfl))))
section
variable{C:Cx}{n j N M:Nat}{σ τ:y0}{Q R:X0}{X:y0→Prop}{w:Wk}{b:Bx}{m k:Nat}{s:Sl}{p q t:Option V}{pc i0:Int}{st bl xs ss us hh tops ys:List V}{x y v sx:V}{fr:Bool}{r:Rw}{op:Str}{NN:y0→y0→Prop}{L:Lt}
theorem HB(H:V2 C)(L:Lt){z:Str}(e:z=L.s)(hm:2≤m)(hb:b.lt (k+5))(hq:∀ x s' b',VL (m+1) x s' L→b'.lt k→Q x (Wr w b' (m+1) s)):B0 C 16 (.g 68) [.ref 1,.ref 2,.str z] (Wr w b m s) Q X:=e▸Fo H L hm hb hq
theorem ah:(hh++[x]).take (clipAt (hh++[x]).length (-1))=hh:=by
 exact f0 (List.length_append ..) (f0 (show clipAt (hh.length+[x].length) (-1)=hh.length from Mm (k:=0)) (f0 (List.take_left ..) rfl))
theorem ME:∀ {ls:List Lt} {xs ss:List V},Ze (fun L=>L=Lt.v) ls→xs.length=ls.length→AL M xs ss→TL M ls xs ss
 | [],[],ss,_,_,h=>⟨rfl,h⟩
 | _::_,[],_,_,e,_=>nomatch e
 | [],_::_,_,_,e,_=>nomatch e
 | L::ls,x::xs,_,hv,e,h=>by
  refine Z0 h ?_;(repeat clear h);intro s ss rI h t;obtain rfl:=rI
  exact Df x xs s ss rfl rfl (hv.1▸h) (ME hv.2 (Nat.succ.inj e) t)
theorem Qo(H:V2 C){u v:V}{P:V→Prop}(hu:P u)(hv:P v)(hb:b.lt (k+1))(hq:∀ b' y,P y→b'.lt k→Q y (Wr w b' m s)) :
  B0 C 5 (.g 64) [.ref 1,.int 2] (Wr w b m s) (fun d σ=>iP d fun i=>oP (ga [u,v] i) fun y=>Q y σ) X :=
 Y3 H hb (j:=2) (by decide) (by decide) fun d b' hd hb'=>by
  refine A0 (K7 (P:=P) (l:=[u,v]) ⟨hu,hv,trivial⟩ hd) fun y e hy=>?_
  exact M0 e (hq b' y hy hb')
set_option maxHeartbeats 1000000 in
theorem Ro(H:V2 C)(h:U3 r)(hr:N7 w.τ x r)(hm:2≤m)(hb:b.lt (k+5))(hh0:AL m hh us)(ht:AL m tops ss)(hl:tops.length=(S2 r).length)(hf:W9 11 hh)
  (hq1:∀ tops' ss' D b' m',m≤m'→D=hh++tops'→TL m' (S2 r) tops' ss'→O0 r.op<2→b'.lt k→Q (.a .lst [.a .lst D]) (Wr w b' m' s))
  (hq2:S2 r=[.v]→∀ x1 x2 D1 D2 b',D1=hh++[x1]→D2=hh++[x2]→Pl x1→Pl x2→Jd (O0 r.op) (some x1)=(!Jd (O0 r.op) (some x2))→b'.lt k→Q (.a .lst [.a .lst D1,.a .lst D2]) (Wr w b' m s)) :
  B0 C 20 (.g 79) [.ref 1,x,.a .lst (hh++tops),.ref 2] (Wr w b m s) Q X:=by
 refine R5 (JE h) fun c j n e1 e2 e3 hw=>?_
 refine F0 H 16 0 rfl rfl (by decide) ((Vc H hr (M0 e1 ?_)).le (by decide))
 rcases hw with ⟨rfl,L,el,lk⟩|⟨rfl,rfl,hv,lk⟩|⟨rfl,rfl,el,lk⟩
 ·obtain ⟨y,rfl⟩:∃ y,tops=[y]:=by
   rw [el] at hl
   induction tops using List.casesOn with
   | nil=>exact nomatch hl
   | cons y t=>induction t using List.casesOn with
    | nil=>exact ⟨y,rfl⟩
    | cons=>exact nomatch hl
  refine HB H L (by refine f0 (el ..) ?_;induction L using Lt.casesOn<;>rfl) hm hb fun z u b' hz hb'=>?_
  have e:((hh++[y]).take (clipAt (hh++[y]).length (-1)))++[z]=hh++[z]:=congrArg (·++[z]) ah
  exact K0 ((congrArg (fun z:List V=>Nat.ble z.length 1000000) e).trans (Nat.ble_eq_true_of_le (List.length_append▸(hf.le (by decide:1≤11))))) (hq1 [z] [u] _ b' (m+1) (Nat.le_succ m) e (el▸(Df z [] u [] rfl rfl hz ⟨rfl,rfl⟩)) (lk▸by decide) hb')
 ·exact Z3 hr.der rfl (M0 e2 (hq1 tops ss _ b m (Nat.le_refl m) rfl (ME hv hl ht) lk (Bx.le hb (Nat.le_add_right k 5))))
 ·obtain ⟨y,rfl⟩:∃ y,tops=[y]:=by
   rw [el] at hl
   induction tops using List.casesOn with
   | nil=>exact nomatch hl
   | cons y t=>induction t using List.casesOn with
    | nil=>exact ⟨y,rfl⟩
    | cons=>exact nomatch hl
  have e:∀ z:V,((hh++[y]).take (clipAt (hh++[y]).length (-1)))++[z]=hh++[z]:=fun z=>congrArg (·++[z]) ah
  have g:∀ z:V,Nat.ble (((hh++[y]).take (clipAt (hh++[y]).length (-1)))++[z]).length 1000000=true:=fun z=>(congrArg (fun z:List V=>Nat.ble z.length 1000000) (e z)).trans (Nat.ble_eq_true_of_le (List.length_append▸(hf.le (by decide:1≤11))))
  have hb3:b.lt (k+3):=Bx.le hb (Nat.le_add_right (k+3) 2)
  refine Z3 hr.der rfl (M0 e2 ((Qo (u := .none) (v := .bool false) (P:=fun y=>Pl y∧Tf y=false) H ⟨trivial,rfl⟩ ⟨trivial,rfl⟩ hb3 fun b1 x1 h1 hb1=>?_).le (by decide)))
  refine (Qo (u := .bool true) (v := .int 0) (P:=fun y=>Pl y∧Tf y=true) H ⟨trivial,rfl⟩ ⟨rfl,rfl⟩ hb1 fun b2 x2 h2 hb2=>?_).le (by decide)
  refine Z3 hr.der rfl (M0 e3 ?_)
  rcases lk with ⟨lk,rfl⟩|⟨lk,rfl⟩
  ·refine (Qo (u := .bool false) (v := .int 0) (P:=fun y=>Pl y∧U8 y=false) H ⟨trivial,rfl⟩ ⟨rfl,rfl⟩ hb2 fun b3 x3 h3 hb3=>?_).le (by decide)
   exact K0 (g _) (K0 (g _) (hq2 el .none x3 _ _ b3 (e _) (e _) trivial h3.1 (by refine f0 (lk ..) ?_;show true=!U8 x3;refine f0 (h3.2 ..) ?_;rfl) hb3))
  ·refine K0 (g _) (K0 (g _) (hq2 el x1 x2 _ _ b2 (e _) (e _) h1.1 h2.1 ?_ (Bx.weak hb2)))
   rcases lk with lk|lk
   ·refine f0 (lk ..) ?_;show Tf x1=!Tf x2;refine f0 (h1.2 ..) (f0 (h2.2 ..) ?_);rfl
   ·refine f0 (lk ..) ?_;show (!Tf x1)=!!Tf x2;refine f0 (h1.2 ..) (f0 (h2.2 ..) ?_);rfl
end
noncomputable abbrev Rw.want(p:Rw):Nat:=(S2 p).length
noncomputable def Rw.succ(p:Rw)(i:Nat):List Nat:=match j6 J0 p.op with
 | true=>[]
 | false=>match O0 p.op with
  | 0=>[i+1]
  | 1=>[Cd p.a]
  | _=>[Cd p.a,i+1]
noncomputable def Rw.out(p:Rw)(d:Nat):Nat:=d - p.want+j8 p
inductive l8(P:List Rw)(S:List Nat):Nat→Nat→Prop
 | start (s:Nat):s∈S→l8 P S s 0
 | step (i d j:Nat) (p:Rw):l8 P S i d→P[i]?=some p→p.want≤d→j∈p.succ i→l8 P S j (p.out d)
structure Lq(P:List Rw)(S:List Nat)(met:List (Option Nat)):Prop where
 len:met.length=P.length
 start:∀ s∈S,met[s]?=some (some 0)
 go:∀ i d,met[i]?=some (some d)→∃ p:Rw,P[i]?=some p∧p.want≤d∧∀ j∈p.succ i,met[j]?=some (some (p.out d))
 only:∀ i d,met[i]?=some (some d)→l8 P S i d
section
variable{P:List Rw}{S:List Nat}{met met':List (Option Nat)}
theorem Zc(h1:∀ s∈S,met[s]?=some (some 0))(h2:∀ i d,met[i]?=some (some d)→∃ p:Rw,P[i]?=some p∧p.want≤d∧∀ j∈p.succ i,met[j]?=some (some (p.out d))){i d:Nat}(h:l8 P S i d):met[i]?=some (some d):=by
 induction h with
 | start s hs=>exact h1 s hs
 | step i d j p _ hp _ hj ih =>
  refine F1 (h2 i d ih) fun p' hp' Z hg=>?_
  rw [hp] at hp'
  obtain rfl:=Option.some.inj hp'
  exact hg j hj
theorem Lq.uniq(a:Lq P S met)(b:Lq P S met'):met=met':=by
 have key:∀ {m m':List (Option Nat)},Lq P S m→Lq P S m'→∀ i d,m[i]?=some (some d)→m'[i]?=some (some d):=fun a b i d h=>Zc b.start b.go (a.only i d h)
 refine List.ext_getElem? fun i=>?_
 cases e:met[i]? with
 | none =>
  have:=List.getElem?_eq_none_iff.mp e
  rw [a.len,←b.len] at this
  exact (List.getElem?_eq_none_iff.mpr this).symm
 | some o =>
  induction o using Option.casesOn with
  | some d=>exact (key a b i d e).symm
  | none =>
   have hi:i<met'.length:=by refine f0 (b.len ..) (P5 (a.len ..) ?_);exact (List.getElem?_eq_some_iff.mp e).1
   cases e':met'[i]? with
   | none=>exact absurd (List.getElem?_eq_none_iff.mp e') (by omega)
   | some o' =>
    induction o' using Option.casesOn with
    | none=>rfl
    | some d=>rw [key b a i d e'] at e;cases e
noncomputable def Wm(P:List Rw)(S:List Nat):Prop:=∃ i d,l8 P S i d∧(P.length≤i∨(∃ p:Rw,P[i]?=some p∧d<p.want)∨∃ d',l8 P S i d'∧d'≠d)
theorem Wm.no(h:Wm P S)(s1:∀ s∈S,met[s]?=some (some 0))(s2:∀ i d,met[i]?=some (some d)→∃ p:Rw,P[i]?=some p∧p.want≤d∧∀ j∈p.succ i,met[j]?=some (some (p.out d))):False:=by
 refine Y1 h ?_;(repeat clear h);intro i d hr h
 have e:=Zc s1 s2 hr
 refine F1 (s2 i d e) fun p hp hw Z=>?_
 rcases h with h|⟨p',hp',h⟩|⟨d',hr',hne⟩
 ·have:=(List.getElem?_eq_some_iff.mp hp).1;exact af h (ak this (by simp +arith))
 ·rw [hp] at hp';obtain rfl:=Option.some.inj hp';exact af hw (ak h (by simp +arith))
 ·have e':=Zc s1 s2 hr'
  rw [e] at e'
  cases e'
  exact hne rfl
structure Kd(P:List Rw)(S:List Nat)(met:List (Option Nat))(W:List (Nat×Nat)):Prop where
 len:met.length=P.length
 start:∀ s∈S,met[s]?=some (some 0)∨(s,0)∈W
 go:∀ i d,met[i]?=some (some d)→∃ p:Rw,P[i]?=some p∧p.want≤d∧∀ j∈p.succ i,met[j]?=some (some (p.out d))∨(j,p.out d)∈W
 only:∀ i d,met[i]?=some (some d)→l8 P S i d
 ways:∀ w∈W,l8 P S w.1 w.2
theorem Kd.sol(h:Kd P S met []):Lq P S met :=
 ⟨h.len,fun s hs=>(h.start s hs).elim id (fun q=>((List.not_mem_nil q).elim)),fun i d e=>(let ⟨p,a,b,c⟩:=h.go i d e;(A2 p a b (fun j hj=>(c j hj).elim id (fun q=>((List.not_mem_nil q).elim))))),h.only⟩
theorem Kd.init:Kd P S (List.replicate P.length none) (S.map fun s=>(s,0)):=by
 refine ⟨List.length_replicate,fun s hs => .inr (List.mem_map.mpr (C0 s hs rfl)),fun i d e=>?_,fun i d e=>?_,fun w hw=>?_⟩
 ·rw [List.getElem?_replicate] at e;split at e<;>cases e
 ·rw [List.getElem?_replicate] at e;split at e<;>cases e
 ·refine A0 (List.mem_map.mp hw) ?_;intro s hs rI;obtain rfl:=rI;exact .start s hs
theorem Kd.again{W:List (Nat×Nat)}{i d:Nat}(h:Kd P S met (W++[(i,d)]))(e:met[i]?=some (some d)):Kd P S met W:=by
 have drop:∀ {j d'},met[j]?=some (some d')∨(j,d')∈W++[(i,d)]→met[j]?=some (some d')∨(j,d')∈W:=fun h=>by
  rcases h with h|h
  ·exact .inl h
  ·rcases List.mem_append.mp h with h|h
   ·exact .inr h
   ·rw [List.mem_singleton] at h;obtain ⟨rfl,rfl⟩:=Prod.mk.inj h;exact .inl e
 exact ⟨h.len,fun s hs=>drop (h.start s hs),fun i d e=>let ⟨p,a,b,c⟩:=h.go i d e;(A2 p a b (fun j hj=>drop (c j hj))),h.only,fun w hw=>h.ways w (List.mem_append_left _ hw)⟩
theorem Kd.first{W N:List (Nat×Nat)}{i d:Nat}{p:Rw}(h:Kd P S met (W++[(i,d)]))(e:met[i]?=some none)(hp:P[i]?=some p)(hw:p.want≤d)(hN:∀ j∈p.succ i,(j,p.out d)∈N)(hN':∀ w∈N,w.1∈p.succ i∧w.2=p.out d):Kd P S (met.set i (some d)) (W++N):=by
 have hi:=(List.getElem?_eq_some_iff.mp e).1
 have hr:=h.ways (i,d) (by simp)
 have up:∀ {j d'},met[j]?=some (some d')∨(j,d')∈W++[(i,d)]→(met.set i (some d))[j]?=some (some d')∨(j,d')∈W++N:=fun {j d'} h=>by
  rcases h with h|h
  ·have:j≠i:=fun q=>by rw [q,e] at h;cases h
   rw [List.getElem?_set_ne (Ne.symm this)];exact .inl h
  ·rcases List.mem_append.mp h with h|h
   ·exact .inr (List.mem_append_left _ h)
   ·rw [List.mem_singleton] at h;obtain ⟨rfl,rfl⟩:=Prod.mk.inj h;exact .inl (List.getElem?_set_self hi)
 have old:∀ {j d'},(met.set i (some d))[j]?=some (some d')→(j=i∧d'=d)∨met[j]?=some (some d'):=fun {j d'} h=>by
  by_cases q:j=i
  ·subst q;rw [List.getElem?_set_self hi] at h;cases h;exact .inl ⟨rfl,rfl⟩
  ·rw [List.getElem?_set_ne (Ne.symm q)] at h;exact .inr h
 refine ⟨by refine f0 (List.length_set ..) ?_;exact h.len,fun s hs=>up (h.start s hs),fun j d' ej=>?_,fun j d' ej=>?_,fun w hw'=>?_⟩
 ·rcases old ej with ⟨rfl,rfl⟩|ej
  ·exact A2 p hp hw (fun j hj => .inr (List.mem_append_right _ (hN j hj)))
  ·refine F1 (h.go j d' ej) fun p' a b c=>?_
   exact A2 p' a b (fun j hj=>up (c j hj))
 ·rcases old ej with ⟨rfl,rfl⟩|ej
  ·exact hr
  ·exact h.only j d' ej
 ·rcases List.mem_append.mp hw' with hw'|hw'
  ·exact h.ways w (List.mem_append_left _ hw')
  ·obtain ⟨a,b⟩:=hN' w hw'
   have:=l8.step i d w.1 p hr hp hw a
   rwa [←b] at this
noncomputable def N3(met:List (Option Nat)):Nat:=(met.filter (·.isNone)).length
theorem ad{i d:Nat}(e:met[i]?=some none):N3 (met.set i (some d))+1=N3 met:=by
 induction met generalizing i with
 | nil=>exact IC Option.ctorIdx e rfl
 | cons o met ih =>
  cases i with
  | zero =>
   rw [List.getElem?_cons_zero] at e
   obtain rfl:=Option.some.inj e
   rfl
  | succ i =>
   rw [List.getElem?_cons_succ] at e
   have:=ih e
   unfold N3 at this ⊢
   refine f0 (List.set_cons_succ ..) ?_
   induction o using Option.casesOn with
   | none=>simp only [List.filter_cons,Option.isNone_none,if_true,List.length_cons];exact ar this (by simp +arith)
   | some _=>simp only [List.filter_cons,Option.isNone_some,Bool.false_eq_true,if_false];exact this
theorem yu:N3 met≤met.length:=List.length_filter_le _ _
end
noncomputable def PT(rv sv:List V)(r14 r15 r16 r17 r18:Option V)(J:y0):y0:=some (.a .lst rv)::some (.a .lst sv)::r14::r15::r16::r17::r18::J
inductive K3(J:y0):V→Rw→Prop
 | fz {r}:U3 r→O0 r.op=0→K3 J r.v r
 | lv:K3 J (rn J0).v (rn J0)
 | rg (i k t:Nat) {op}:nth K1 i=some op→A1 J k=some (ri op (Int.ofNat t)).v→K3 J (.ref (k+19)) (ri op (Int.ofNat t))
structure F8(J:y0)(rv:List V)(P:List Rw):Prop where
 len:rv.length=P.length
 row:∀ i p,P[i]?=some p→∃ v,nth rv i=some v∧K3 J v p
 few:P.length<1000
 tg:∀ (i:Nat) p,P[i]?=some p→O0 p.op≠0→Cd p.a<P.length
section
variable{J:y0}{rv sv:List V}{r14 r15 r16 r17 r18:Option V}{v:V}{p:Rw}{P:List Rw}{M:Nat}
theorem K3.is(h:K3 J v p):N7 (PT rv sv r14 r15 r16 r17 r18 J) v p:=by
 induction h using K3.casesOn with
 | fz h _=>exact .fz h
 | lv=>exact .lv
 | rg i k t e1 e2=>exact .rg i (k+7) t e1 e2
theorem tf{i t:Nat}{op:Str}(e:nth K1 i=some op):U3 (ri op (Int.ofNat t)):=P1 (P:=fun op=>U3 (ri op (Int.ofNat t))) (l:=K1) ⟨.jumpnil t,.jumpif t,.jump t,.jumpunless t,trivial⟩ e
theorem K3.f(h:K3 J v p)(n:j6 J0 p.op=false):U3 p:=by
 induction h using K3.casesOn with
 | fz h _=>exact h
 | lv=>exact Bool.noConfusion n
 | rg i k t e1 e2=>exact tf e1
noncomputable def ov:Option Nat→V
 | none => .none
 | some d => .int (Int.ofNat d)
noncomputable def P4(M:Nat):List (Nat×Nat)→List V→Prop
 | [],vs=>vs=[]
 | w::W,vs=>∃ hs us vs',vs=V.a .tup [.int (Int.ofNat w.1),.a .lst hs]::vs'∧hs.length=w.2∧AL M hs us∧P4 M W vs'
theorem AL.mono{M M':Nat}(e:M≤M'):∀ {xs ss:List V},AL M xs ss→AL M' xs ss
 | [],_,h=>h
 | _::_,_,h=>by
  refine Z0 h ?_;(repeat clear h);intro s ss a h t
  exact L1 s ss a (h.mono e) (t.mono e)
theorem P4.mono{M M':Nat}(e:M≤M'):∀ {W:List (Nat×Nat)} {vs:List V},P4 M W vs→P4 M' W vs
 | [],_,h=>h
 | _::_,_,h=>by
  refine R5 h ?_;(repeat clear h);intro hs us vs' a b h t
  exact X4 hs us vs' a b (h.mono e) (t.mono e)
theorem P4.split:∀ {W:List (Nat×Nat)} {w:Nat×Nat} {vs:List V},P4 M (W++[w]) vs→∃ vs' hs us,vs=vs'++[V.a .tup [.int (Int.ofNat w.1),.a .lst hs]]∧P4 M W vs'∧hs.length=w.2∧AL M hs us
 | [],w,vs,h=>by
  refine R5 h ?_;(repeat clear h);intro hs us vs' zI b h t;obtain rfl:=zI
  obtain rfl:=(show vs'=[] from t)
  exact X4 [] hs us rfl rfl b h
 | a::W,w,vs,h=>by
  refine R5 h ?_;(repeat clear h);intro hs us vs' xI b h t;obtain rfl:=xI
  refine R5 (P4.split t) ?_;intro vs2 hs2 us2 vI t2 b2 h2;obtain rfl:=vI
  exact X4 (_::vs2) hs2 us2 rfl (X4 hs us vs2 rfl b h t2) b2 h2
theorem P4.app:∀ {W W':List (Nat×Nat)} {vs vs':List V},P4 M W vs→P4 M W' vs'→P4 M (W++W') (vs++vs')
 | [],_,_,_,e,h=>by obtain rfl:=(show _=[] from e);exact h
 | _::_,_,_,_,h',h=>by
  refine R5 h' ?_;(repeat clear h');intro hs us vs' tI b h2 t;obtain rfl:=tI
  exact X4 hs us _ rfl b h2 (t.app h)
theorem P4.len:∀ {W:List (Nat×Nat)} {vs:List V},P4 M W vs→vs.length=W.length
 | [],_,e=>by obtain rfl:=(show _=[] from e);rfl
 | _::_,_,h=>by
  refine R5 h ?_;(repeat clear h);intro hs us vs' rI b h2 t;obtain rfl:=rI
  exact congrArg (·+1) t.len
theorem X9:∀ {l:List (Option Nat)} {i:Nat} {o:Option Nat},l[i]?=some o→nth (l.map ov) i=some (ov o)
 | [],_,_,e=>nn e
 | _::_,0,_,e=>by obtain rfl:=Option.some.inj (show some _=some _ from e);rfl
 | _::l,i+1,_,e=>X9 (l:=l) (i:=i) e
end
noncomputable def S.wb:S→S
 | .whl _ b=>b
 | s=>s
structure Gk where
 z:Bool
 h:Bool
 rv:List V
 sv:List V
 r16:Option V
 r17:Option V
 r18:Option V
 J:y0
noncomputable def Gk.w(g:Gk)(mv vs:Option V):Wk:=⟨g.z,g.h,PT g.rv g.sv mv vs g.r16 g.r17 g.r18 g.J⟩
noncomputable def gρ(o6 o7 o8 o9 o10:Option V):y0:=[some (.ref 1),some (.ref 2),some (.ref 12),some (.ref 13),some (.ref 14),some (.ref 15),o6,o7,o8,o9,o10]
section
variable{C:Cx}{n j N M:Nat}{σ τ:y0}{Q R:X0}{X:y0→Prop}{g:Gk}{b:Bx}{m k i d:Nat}{s:Sl}{st bl xs ss us hs hh tops ys vs:List V}{x y v sx:V}{p:Rw}{P:List Rw}{S:List Nat}{met:List (Option Nat)}{W:List (Nat×Nat)}{NN:y0→y0→Prop}{o6 o7 o8 o9 o10:Option V}
theorem U3.lv{r:Rw}(h:U3 r):cg (.str r.op) (.str J0)=some false∧j6 J0 r.op=false:=by
 induction h using U3.casesOn<;>exact ⟨rfl,rfl⟩
theorem K3.isl(h:K3 g.J v p):cg (.str p.op) (.str J0)=some (j6 J0 p.op):=by
 induction h using K3.casesOn with
 | fz h _=>refine f0 (h.lv.2 ..) ?_;exact h.lv.1
 | lv=>rfl
 | rg i k t e1 e2=>refine f0 ((tf (t:=t) e1).lv.2) ?_;exact (tf (t:=t) e1).lv.1
theorem K3.few(h:K3 g.J v p):(S2 p).length≤3:=by
 induction h using K3.casesOn with
 | fz h _=>exact Sb h
 | lv=>exact Nat.le_of_ble_eq_true rfl
 | rg i k t e1 e2=>exact Sb (tf (t:=t) e1)
structure GI(m:Nat)(P:List Rw)(S:List Nat)(met:List (Option Nat))(W:List (Nat×Nat))(s:Sl)(b:Bx)(k:Nat):Prop where
 sr:Kd P S met W
 sl:T4 m s
 gas:b.lt (k+15+5*N3 met)
 few:W.length+3*N3 met≤13+3*P.length
 wd:∀ w∈W,w.2+4*N3 met≤4*P.length
 hi:∀ (i d:Nat),met[i]?=some (some d)→d≤4*P.length
theorem O7{k:Nat}:∀ met:List (Option Nat),D4 k (met.map ov)
 | []=>trivial
 | none::l=>⟨trivial,O7 l⟩
 | some _::l=>⟨trivial,O7 l⟩
theorem P4.nor{k:Nat}:∀ {W:List (Nat×Nat)} {vs:List V},P4 m W vs→D4 (k+6) vs
 | [],_,e=>by obtain rfl:=(show _=[] from e);exact trivial
 | _::_,_,h=>by
  refine R5 h ?_;(repeat clear h);intro hs us vs' rI b h2 t;obtain rfl:=rI
  exact ⟨⟨trivial,h2.nor,trivial⟩,t.nor⟩
theorem K3.tg1(h:K3 g.J v p)(e:O0 p.op≠0):tgt p=Int.ofNat (Cd p.a):=by
 induction h using K3.casesOn with
 | fz h e2=>exact absurd e2 e
 | lv=>exact absurd rfl e
 | rg i k t e1 e2=>rfl
theorem F8.tn(G:F8 g.J g.rv P)(ep:P[i]?=some p)(hv:K3 g.J v p)(e:O0 p.op≠0):tgt p≠1000:=fun z=>by
 have h:=Nat.lt_trans (G.tg i p ep e) G.few
 rw [hv.tg1 e] at z
 rw [Int.ofNat.inj (z:Int.ofNat (Cd p.a)=Int.ofNat 1000)] at h
 exact Nat.lt_irrefl _ h
theorem uf:∀ {hh tops us:List V},AL m (hh++tops) us→∃ u1 u2,AL m hh u1∧AL m tops u2
 | [],_,us,h=>W4 [] us rfl h
 | x::hh,_,_,h=>by
  refine Z0 h ?_;(repeat clear h);intro s ss _ h t
  refine Y1 (uf t) fun u1 u2 a b=>?_
  exact W4 (s::u1) u2 (L1 s u1 rfl h a) b
noncomputable def Xm(p:Rw)(i:Nat)(o:Option V):Nat:=cond (Jd (O0 p.op) o) (Cd p.a) (i+1)
theorem wf(hv:K3 g.J v p)(o:Option V):cond (Jd (O0 p.op) o) (tgt p) (Int.ofNat i+1)=Int.ofNat (Xm p i o):=by
 unfold Xm
 cases e:Jd (O0 p.op) o with
 | true=>exact hv.tg1 fun z=>by rw [z] at e;exact Bool.noConfusion e
 | false=>rfl
theorem Ym(e:j6 J0 p.op=false)(h:O0 p.op<2)(o:Option V):p.succ i=[Xm p i o]:=by
 unfold Rw.succ Xm
 refine f0 (e ..) ?_
 have:O0 p.op=0∨O0 p.op=1:=(Nat.eq_or_lt_of_le (Nat.le_of_lt_succ h)).elim .inr fun h => .inl (Nat.lt_one_iff.mp h)
 rcases this with h|h<;>refine f0 (h ..) ?_<;>rfl
theorem zu(e:j6 J0 p.op=false){o1 o2:Option V}(h:Jd (O0 p.op) o1=!Jd (O0 p.op) o2):(∀ j∈p.succ i,j=Xm p i o1∨j=Xm p i o2)∧Xm p i o1∈p.succ i∧Xm p i o2∈p.succ i:=by
 have hs:p.succ i=[Cd p.a,i+1]:=by
  unfold Rw.succ
  refine f0 (e ..) ?_
  revert h
  cases O0 p.op with
  | zero=>exact fun h=>Bool.noConfusion h
  | succ n=>cases n with
   | zero=>exact fun h=>Bool.noConfusion h
   | succ n=>exact fun Z=>rfl
 refine f0 (hs ..) ?_
 unfold Xm
 refine f0 (h ..) ?_
 cases Jd (O0 p.op) o2 with
 | true=>exact V0 (fun j hj=>(List.mem_cons.mp hj).elim .inr fun hj => .inl (List.mem_singleton.mp hj)) (.tail _ (.head _)) (.head _)
 | false=>exact V0 (fun j hj=>(List.mem_cons.mp hj).elim .inl fun hj => .inr (List.mem_singleton.mp hj)) (.head _) (.tail _ (.head _))
theorem xf{r:Rw}(h:U3 r):j8 r≤4:=by
 induction h using U3.casesOn with
 | tuck ha=>rcases W6 ha with rfl|rfl|rfl<;>exact Nat.le_of_ble_eq_true rfl
 | spread ha hc=>exact Nat.add_le_add ha hc
 | _=>exact Nat.le_of_ble_eq_true rfl
set_option maxHeartbeats 1000000 in
theorem Mq(H:V2 C)(G:F8 g.J g.rv P)(h3:3≤m)(I:GI m P S met (W++[(i,d)]) s b k)(hd:hs.length=d)(ha:AL m hs us)(hW:P4 m W vs)
  (bad:∀ mv vs' b' m' s',Wm P S→m≤m'→T4 m' s'→b'.lt k→(∀ k,D4 (k+6) mv)→(∀ k,D4 (k+6) vs')→R .none (Wr (g.w (some (.a .lst mv)) (some (.a .lst vs'))) b' m' s'))
  (go:∀ met' W2 mv vs' b' m' s' o6 o7 o8 o9 o10,mv=met'.map ov→P4 m' W2 vs'→m≤m'→GI m' P S met' W2 s' b' k→W2.length+3*N3 met'<(W++[(i,d)]).length+3*N3 met→NN (gρ o6 o7 o8 o9 o10) (Wr (g.w (some (.a .lst mv)) (some (.a .lst vs'))) b' m' s')) :
  I4 (cO C 20) X Ye.body.tl.hd.wb (gρ o6 o7 o8 o9 o10) (Wr (g.w (some (.a .lst (met.map ov))) (some (.a .lst (vs++[.a .tup [.int (Int.ofNat i),.a .lst hs]])))) b m s) NN R:=by
 have hr:=I.sr.ways (i,d) (List.mem_append_right _ (.head _))
 have hW':P4 m W ((vs++[V.a .tup [.int (Int.ofNat i),.a .lst hs]]).dropLast):=List.dropLast_concat.symm▸hW
 have gs:b.lt k:=Bx.le I.gas (Nat.le_trans (Nat.le_add_right k 15) (Nat.le_add_right _ _))
 have out:Wm P S→∀ mv,(∀ k,D4 (k+6) mv)→R .none (Wr (g.w (some (.a .lst mv)) (some (.a .lst ((vs++[V.a .tup [.int (Int.ofNat i),.a .lst hs]]).dropLast)))) b m s):=fun hb mv hm=>bad mv _ b m s hb (Nat.le_refl m) I.sl gs hm fun Z=>hW'.nor
 refine M0 List.getLast?_concat (Y2 (fun q=>?_) fun q=>?_)
 ·exact out (W4 i d hr (.inl (G.len▸Int.ofNat_le.mp (of_decide_eq_true q)))) _ fun Z=>O7 met
 have hi:i<P.length:=G.len▸Nat.lt_of_not_le fun z=>of_decide_eq_false q (Int.ofNat_le.mpr z)
 obtain ⟨o,eo⟩:∃ o,met[i]?=some o:=⟨_,List.getElem?_eq_getElem (I.sr.len▸hi)⟩
 have eN:=X9 eo
 induction o using Option.casesOn with
 | some d0 =>
  refine M0 eN (M0 eN (Y2 (fun z=>?_) fun z=>?_))
  ·have ne:d0≠d:=fun e=>by
    have z:(!(Int.ofNat d0==Int.ofNat hs.length))=true:=z
    rw [e,hd,beq_self_eq_true] at z;exact Bool.noConfusion z
   exact out (W4 i d hr (.inr (.inr (C0 d0 (I.sr.only i d0 eo) ne)))) _ fun Z=>O7 met
  ·have e:d0=d:=by
    have z:(!(Int.ofNat d0==Int.ofNat hs.length))=false:=z
    have z2:(Int.ofNat d0==Int.ofNat hs.length)=true:=by cases h:(Int.ofNat d0==Int.ofNat hs.length)<;>first|rfl|(rw [h] at z;exact Bool.noConfusion z)
    exact (Int.ofNat.inj (eq_of_beq z2)).trans hd
   subst e
   refine M0 eN ?_
   exact go met W _ _ b m s _ _ _ _ _ rfl hW' (Nat.le_refl m) ⟨I.sr.again eo,I.sl,I.gas,Nat.le_trans (Nat.add_le_add_right (by refine f0 (List.length_append ..) ?_;exact Nat.le_add_right ..) _) I.few,fun w hw=>I.wd w (List.mem_append_left _ hw),I.hi⟩ (Nat.add_lt_add_right (by refine f0 (List.length_append ..) ?_;exact Nat.lt_succ_self _) _)
 | none =>
  obtain ⟨p,ep⟩:∃ p,P[i]?=some p:=⟨_,List.getElem?_eq_getElem hi⟩
  refine A0 (G.row i p ep) fun v ev hv=>?_
  have ev:ga g.rv (Int.ofNat i)=some v:=ev
  have hlen:Nat.blt i (met.map ov).length=true:=Nat.ble_eq_true_of_le (show i<(met.map ov).length by refine f0 (List.length_map ..) (f0 (I.sr.len ..) ?_);exact hi)
  have lf:=hv.few
  have l3:Nat.ble (lS (S2 p)).length 1000000=true:=Nat.ble_eq_true_of_le (Nat.le_trans (show ((S2 p).map Lt.c).length≤3 from (List.length_map (f:=Lt.c))▸lf) (by decide))
  have lw:(lS (S2 p)).length=p.want:=List.length_map (f:=Lt.c)
  have em:(met.map ov).set i (.int (Int.ofNat hs.length))=(met.set i (some d)).map ov:=by refine f0 (List.map_set ..) (f0 (hd ..) ?_);rfl
  have hder:der (Wr (g.w (some (.a .lst ((met.map ov).set i (.int (Int.ofNat hs.length))))) (some (.a .lst ((vs++[V.a .tup [.int (Int.ofNat i),.a .lst hs]]).dropLast)))) b m s) v=p.v:=hv.is.der
  refine M0 eN (M0 eN (K0 hlen (M0 ev (Z3 hder rfl (M0 hv.isl (M0 ev ((Vc (w:=(g.w (some (.a .lst ((met.map ov).set i (.int (Int.ofNat hs.length))))) (some (.a .lst ((vs++[V.a .tup [.int (Int.ofNat i),.a .lst hs]]).dropLast))))) H hv.is (K0 l3 (Y2 (fun q=>?_) fun q=>?_))).le (by decide))))))))
  ·have hlt:d<p.want:=by refine P5 (hd ..) (P5 (lw ..) ?_);exact Int.ofNat_lt.mp (of_decide_eq_true q)
   have hbad:Wm P S:=W4 i d hr (.inr (.inl (C0 p ep hlt)))
   have mn:∀ k,D4 (k+6) ((met.map ov).set i (.int (Int.ofNat hs.length))):=fun k=>em▸O7 _
   refine Y2 (fun e=>out hbad _ mn) fun e=>M0 ev ((zk (k:=k) (w:=(g.w (some (.a .lst ((met.map ov).set i (.int (Int.ofNat hs.length))))) (some (.a .lst ((vs++[V.a .tup [.int (Int.ofNat i),.a .lst hs]]).dropLast))))) H (hv.f e) hv.is h3 I.sl (Bx.le I.gas (Nat.le_add_right ..)) (fun hl=>?_) fun b' m' s' hm hs' hb'=>?_).le (by decide))
   ·exact G.tn ep hv (by refine f0 (hl ..) ?_;decide)
   ·exact bad _ _ b' m' s' hbad hm hs' hb' mn fun Z=>hW'.nor
  ·have hge:p.want≤d:=by refine P5 (hd ..) (P5 (lw ..) ?_);exact Nat.le_of_not_lt fun z=>of_decide_eq_false q (Int.ofNat_lt.mpr z)
   have hnn:=ad (d:=d) eo
   have g5:b.lt (k+15+5*N3 (met.set i (some d))+5):=by have z:=I.gas;rw [←hnn] at z;exact z
   have hdb:=I.wd (i,d) (List.mem_append_right _ (.head _))
   have wl:(W++[(i,d)]).length=W.length+1:=List.length_append
   have few:=I.few
   rw [wl] at few
   have hi':∀ (i' d':Nat),(met.set i (some d))[i']?=some (some d')→d'≤4*P.length:=fun i' d' e=>by
    by_cases z:i'=i
    ·subst z
     rw [List.getElem?_set_self (I.sr.len▸hi)] at e
     cases e
     exact Nat.le_trans (Nat.le_add_right _ _) hdb
    ·rw [List.getElem?_set_ne (Ne.symm z)] at e;exact I.hi i' d' e
   cases el:j6 J0 p.op with
   | true =>
    refine go (met.set i (some d)) W _ _ b m s _ _ _ _ _ em hW' (Nat.le_refl m) ⟨?_,I.sl,Bx.le g5 (Nat.le_add_right _ 5),ae hnn (ae hnn (ae hnn (ak few (by simp +arith)))),fun w hw=>by have:=I.wd w (List.mem_append_left _ hw);exact ae hnn (ae hnn (ae hnn (ae hnn (ak this (by simp +arith))))),hi'⟩ (ae hnn (ae hnn (ae hnn (az wl (by simp +arith)))))
    have z:=I.sr.first (N:=[]) eo ep hge (fun j hj=>by unfold Rw.succ at hj;rw [el] at hj;exact (List.not_mem_nil hj).elim) (fun Z h=>(List.not_mem_nil h).elim)
    rw [List.append_nil] at z
    exact z
   | false =>
    obtain ⟨hh,tops,rfl,lt⟩:∃ hh tops,hs=hh++tops∧tops.length=p.want:=W4 (hs.take (d - p.want)) (hs.drop (d - p.want)) ((List.take_append_drop ..).symm) (f0 (List.length_drop ..) (f0 (hd ..) (Nat.sub_sub_self hge)))
    refine Y1 (uf ha) fun u1 u2 a1 a2=>?_
    have hhl:hh.length+p.want=d:=by exact P5 (hd ..) (f0 (List.length_append ..) (f0 (lt ..) rfl))
    have hf:W9 11 hh:=show hh.length+11≤1000000 by have:=G.few;exact ak hdb (ae hhl (ak this (ak this (ak this (ak this (by simp +arith))))))
    have c4:=xf (hv.f el)
    have wr:((vs++[V.a .tup [.int (Int.ofNat i),.a .lst (hh++tops)]]).dropLast).length=W.length:=hW'.len
    have bg:∀ {zs:List V},zs.length≤W.length+1→Nat.ble (zs.length+1) 1000000=true:=fun h=>Nat.ble_eq_true_of_le (by have:=G.few;exact ak few (ak h (ak this (ak this (ak this (by simp +arith))))))
    have od:p.out d=hh.length+j8 p:=P5 hhl (congrArg (·+j8 p) (Nat.add_sub_cancel hh.length p.want))
    have ob:p.out d+4*N3 (met.set i (some d))≤4*P.length:=ae od (ak c4 (ae hhl (ak hdb (ae hnn (ae hnn (ae hnn (ae hnn (by simp +arith))))))))
    refine M0 ev ((Ro (w:=(g.w (some (.a .lst ((met.map ov).set i (.int (Int.ofNat (hh++tops).length))))) (some (.a .lst ((vs++[V.a .tup [.int (Int.ofNat i),.a .lst (hh++tops)]]).dropLast))))) (k:=k+15+5*N3 (met.set i (some d))) H (hv.f el) hv.is (Nat.le_of_succ_le h3) g5 a1 a2 lt hf ?_ ?_).le (by decide))
    ·intro tops' ss' D b' m' hm' hD ht' hlk hb'
     subst hD
     refine M0 ev ((Tb (w:=(g.w (some (.a .lst ((met.map ov).set i (.int (Int.ofNat (hh++tops).length))))) (some (.a .lst ((vs++[V.a .tup [.int (Int.ofNat i),.a .lst (hh++tops)]]).dropLast))))) (i0:=Int.ofNat i) H (hv.f el) hv.is (Nat.le_trans h3 hm') (I.sl.mono hm') (a1.mono hm') ht' hf fun D ab as s2 hD lab hab hs2=>?_).le (by decide))
     refine K0 (bg (Nat.le_of_eq wr |> fun z=>Nat.le_succ_of_le z)) ?_
     refine go (met.set i (some d)) (W++[(Xm p i tops'.getLast?,p.out d)]) _ _ b' m' s2 _ _ _ _ _ em ((hW'.mono hm').app (X4 D _ [] (by rw [wf hv]) (by rw [hD,List.length_append,lab];exact od.symm) (hD▸(a1.mono hm').app hab) rfl)) hm' ⟨I.sr.first eo ep hge (fun j hj=>?_) fun w hw=>?_,hs2,hb',?_,fun w hw=>?_,hi'⟩ ?_
     ·rw [Ym el hlk tops'.getLast?] at hj
      refine f0 (List.mem_singleton.mp hj ..) ?_;exact .head _
     ·rw [List.mem_singleton.mp hw,Ym el hlk tops'.getLast?];exact ⟨.head _,rfl⟩
     ·refine f0 (List.length_append ..) ?_;show W.length+1+_≤_;exact ae hnn (ae hnn (ae hnn (ak few (by simp +arith))))
     ·rcases List.mem_append.mp hw with hw|hw
      ·have:=I.wd w (List.mem_append_left _ hw);exact ae hnn (ae hnn (ae hnn (ae hnn (ak this (by simp +arith)))))
      ·refine f0 (List.mem_singleton.mp hw ..) ?_;exact ob
     ·refine f0 (List.length_append ..) (f0 (List.length_append ..) ?_);show W.length+1+_<W.length+1+_;exact ae hnn (ae hnn (ae hnn (by simp +arith)))
    ·intro elp x1 x2 D1 D2 b' hD1 hD2 hp1 hp2 hgo hb'
     subst hD1;subst hD2
     have t1:TL m (S2 p) [x1] [.a .lst [.str (rp x1)]]:=elp▸(Df x1 [] _ [] rfl rfl (VS.p hp1) ⟨rfl,rfl⟩)
     have t2:TL m (S2 p) [x2] [.a .lst [.str (rp x2)]]:=elp▸(Df x2 [] _ [] rfl rfl (VS.p hp2) ⟨rfl,rfl⟩)
     refine i4 (zu (i:=i) el hgo) fun z1 z2 z3=>?_
     refine M0 ev ((Tb (w:=(g.w (some (.a .lst ((met.map ov).set i (.int (Int.ofNat (hh++tops).length))))) (some (.a .lst ((vs++[V.a .tup [.int (Int.ofNat i),.a .lst (hh++tops)]]).dropLast))))) (i0:=Int.ofNat i) H (hv.f el) hv.is h3 I.sl a1 t1 hf fun D ab as s2 hD lab hab hs2=>?_).le (by decide))
     refine K0 (bg (Nat.le_of_eq wr |> fun z=>Nat.le_succ_of_le z)) ?_
     refine M0 ev ((Tb (w:=(g.w (some (.a .lst ((met.map ov).set i (.int (Int.ofNat (hh++tops).length))))) (some (.a .lst ((vs++[V.a .tup [.int (Int.ofNat i),.a .lst (hh++tops)]]).dropLast++[V.a .tup [.int (cond (Jd (O0 p.op) ([x1]:List V).getLast?) (tgt p) (Int.ofNat i+1)),V.a .lst D]]))))) (b:=b') (m:=m) (s:=s2) (tops:=[x2]) (i0:=Int.ofNat i) H (hv.f el) hv.is h3 hs2 a1 t2 hf fun D' ab' as' s3 hD' lab' hab' hs3=>?_).le (by decide))
     refine K0 (bg (by refine f0 (List.length_append ..) (f0 (wr ..) ?_);exact Nat.le_refl _)) ?_
     have w2:P4 m [(Xm p i (some x1),p.out d),(Xm p i (some x2),p.out d)] [V.a .tup [.int (cond (Jd (O0 p.op) ([x1]:List V).getLast?) (tgt p) (Int.ofNat i+1)),V.a .lst D],V.a .tup [.int (cond (Jd (O0 p.op) ([x2]:List V).getLast?) (tgt p) (Int.ofNat i+1)),V.a .lst D']]:=X4 D _ _ (by refine f0 (wf hv ..) ?_;rfl) (by refine f0 (hD ..) (f0 (List.length_append ..) (f0 (lab ..) ?_));exact od.symm) (hD▸a1.app hab) ⟨D',_,[],by refine f0 (wf hv ..) ?_;rfl,by refine f0 (hD' ..) (f0 (List.length_append ..) (f0 (lab' ..) ?_));exact od.symm,hD'▸a1.app hab',rfl⟩
     refine go (met.set i (some d)) (W++[(Xm p i (some x1),p.out d),(Xm p i (some x2),p.out d)]) _ _ b' m s3 _ _ _ _ _ em (by exact Eq.mpr (congrArg (P4 m _) (List.append_assoc _ [_] [_])) (hW'.app w2)) (Nat.le_refl m) ⟨I.sr.first eo ep hge (fun j hj=>?_) fun w hw=>?_,hs3,hb',?_,fun w hw=>?_,hi'⟩ ?_
     ·exact (z1 j hj).elim (fun e=>e ▸ .head _) fun e=>e ▸ .tail _ (.head _)
     ·exact (List.mem_cons.mp hw).elim (fun e=>e▸⟨z2,rfl⟩) fun hw=>List.mem_singleton.mp hw▸⟨z3,rfl⟩
     ·refine f0 (List.length_append ..) ?_;show W.length+2+_≤_;exact ae hnn (ae hnn (ae hnn (ak few (by simp +arith))))
     ·rcases List.mem_append.mp hw with hw|hw
      ·have:=I.wd w (List.mem_append_left _ hw);exact ae hnn (ae hnn (ae hnn (ae hnn (ak this (by simp +arith)))))
      ·exact (List.mem_cons.mp hw).elim (fun e=>e▸ob) fun hw=>List.mem_singleton.mp hw▸ob
     ·refine f0 (List.length_append ..) (f0 (List.length_append ..) ?_);show W.length+2+_<W.length+1+_;exact ae hnn (ae hnn (ae hnn (by simp +arith)))
end
section
variable{C:Cx}{n j N M:Nat}{σ τ:y0}{Q R:X0}{X:y0→Prop}{g:Gk}{b b':Bx}{m m' k i d:Nat}{s s':Sl}{mv vs vs':List V}{x y v sx:V}{p:Rw}{P:List Rw}{S:List Nat}{met:List (Option Nat)}{W:List (Nat×Nat)}{NN:y0→y0→Prop}
theorem rz{k:Nat}{a c:Option V}(hs:T4 M s')(h1:Cv (k+6) a)(h2:Cv (k+6) c):Sf (k+6) (Wr (g.w none none) b m s) (Wr (g.w a c) b' m' s'):=by
 have sn:∀ i j,Fa (k+6) (s'.get i j):=fun i j=>(hs i j).elim fun Z h=>h.nor
 exact ⟨.inl rfl,.inr (Km b' g.z),.inr (i8 m' g.h),.inr ⟨sn false false,sn false true,trivial⟩,.inr ⟨sn true false,sn true true,trivial⟩,.inl rfl,.inl rfl,.inl rfl,.inl rfl,.inl rfl,.inl rfl,.inl rfl,.inl rfl,.inl rfl,.inr h1,.inr h2,Sf.refl _⟩
theorem NE(hs:T4 M s')(h1:∀ k,D4 (k+6) mv)(h2:∀ k,D4 (k+6) vs')(hv:Rf 15 (.a .lst vs') v=v)(q:Q (Rf 14 (.a .lst mv) v) (Wr (g.w none none) b' m' s')) :
  GC 15 (Wr (g.w none none) b m s) (GC 14 (Wr (g.w none none) b m s) Q) v (Wr (g.w (some (.a .lst mv)) (some (.a .lst vs'))) b' m' s') :=
 .inr (i5 _ rfl (h2 9) (rz (k:=9) (a:=some (.a .lst mv)) (c:=none) hs (h1 9) trivial) (.inr (i5 (.a .lst mv) rfl (h1 8) (rz (k:=8) (a:=none) (c:=none) hs trivial trivial) (hv.symm▸q))))
theorem IB{x:V}:∀ {vs:List V},cg (.a .lst (vs++[x])) (.a .lst [])=some false
 | []=>rfl
 | _::_=>rfl
noncomputable def Ha(S:List Nat):List V:=S.map fun s => .int (Int.ofNat s)
theorem tz:∀ {S:List Nat},P4 m (S.map fun s=>(s,0)) ((Ha S).map fun x => .a .tup [x,.a .lst []])
 | []=>rfl
 | _::_=>X4 [] [] _ rfl rfl rfl tz
theorem yf:∀ {n:Nat},N3 (List.replicate n none)=n
 | 0=>rfl
 | n+1=>congrArg (·+1) (yf (n:=n))
theorem JB:∀ {n:Nat},List.replicate n V.none=(List.replicate n none).map ov
 | 0=>rfl
 | n+1=>congrArg (_::·) (JB (n:=n))
set_option maxHeartbeats 1000000 in
theorem So(H:V2 C)(G:F8 g.J g.rv P)(hS:g.sv=Ha S)(hl:S.length≤13)(h3:3≤m)(hs:T4 m s)(hb:b.lt (k+15+5*P.length))
  (bad:∀ b' m' s',Wm P S→m≤m'→T4 m' s'→b'.lt k→Q .none (Wr (g.w none none) b' m' s'))
  (good:∀ met b' m' s',Lq P S met→(∀ (i d:Nat),met[i]?=some (some d)→d≤4*P.length)→m≤m'→T4 m' s'→b'.lt k→Q (.a .lst (met.map ov)) (Wr (g.w none none) b' m' s')) :
  B0 C 24 (.g 81) [.ref 1,.ref 2,.ref 12,.ref 13] (Wr (g.w none none) b m s) Q X:=by
 refine B0.gc 14 rfl (B0.gc 15 rfl (F0 H 20 0 rfl rfl (by decide) ?_))
 have hr:Nat.ble g.rv.length 1000000=true:=Nat.ble_eq_true_of_le (by have:=G.few;refine f0 (G.len ..) ?_;exact ak this (by simp +arith))
 refine K0 hr (C0 14 rfl (A6 hS (cf (fun x => .a .tup [x,.a .lst []]) (fun Z k=>⟨rfl,k⟩) (fun x Z K k=>k) (C0 15 rfl ?_))))
 refine ⟨fun kk ρ σ=>∃ met W vs b' m' s' o6 o7 o8 o9 o10,kk=W.length+3*N3 met∧ρ=gρ o6 o7 o8 o9 o10∧σ=Wr (g.w (some (.a .lst (met.map ov))) (some (.a .lst vs))) b' m' s'∧P4 m' W vs∧m≤m'∧GI m' P S met W s' b' k,⟨_,List.replicate P.length none,S.map fun s=>(s,0),_,b,m,s,_,_,_,_,_,rfl,rfl,?_,tz,Nat.le_refl m,Kd.init,hs,?_,?_,?_,?_⟩,fun kk ρ σ I=>?_⟩
 ·refine P5 (JB ..) (P5 (G.len ..) ?_);rfl
 ·refine f0 (yf ..) ?_;exact hb
 ·refine f0 (yf ..) (f0 (List.length_map ..) ?_);exact ak hl (by simp +arith)
 ·intro w hw
  refine A0 (List.mem_map.mp hw) ?_;intro s _ zI;obtain rfl:=zI
  refine f0 (yf ..) (f0 (Nat.zero_add ..) ?_)
  exact Nat.le_refl _
 ·intro i d e
  rw [List.getElem?_replicate] at e
  split at e<;>cases e
 refine NC I ?_;(repeat clear I);intro met W vs b' m' s' o6 o7 o8 o9 o10 tI vI xI hW hm I;obtain rfl:=tI;obtain rfl:=vI;obtain rfl:=xI
 rcases List.eq_nil_or_concat W with rfl|⟨W,⟨i,d⟩,e⟩
 ·obtain rfl:=(show vs=[] from hW)
  exact NE I.sl (fun k=>O7 met) (fun Z=>trivial) rfl (good met b' m' s' I.sr.sol I.hi hm I.sl (Bx.le I.gas (Nat.le_trans (Nat.le_add_right k 15) (Nat.le_add_right _ _))))
 ·rw [List.concat_eq_append] at e
  subst e
  refine R5 hW.split ?_;intro vs hs us rI h1 h2 h4;obtain rfl:=rI
  refine M0 IB ?_
  exact Mq H G (Nat.le_trans h3 hm) I h2 h4 h1 (fun mv vs' b2 m2 s2 hb hm2 hs2 hb2 n1 n2=>NE hs2 n1 n2 rfl (bad b2 m2 s2 hb (Nat.le_trans hm hm2) hs2 hb2)) fun met' W2 mv vs' b2 m2 s2 o6 o7 o8 o9 o10 e hW2 hm2 I2 lt=>C0 _ lt ⟨met',W2,vs',b2,m2,s2,o6,o7,o8,o9,o10,rfl,rfl,e▸rfl,hW2,Nat.le_trans hm hm2,I2⟩
end
section
variable{C:Cx}{n j N M:Nat}{σ τ:y0}{Q R:X0}{X:y0→Prop}{g:Gk}{b b':Bx}{m m' k i d:Nat}{s s':Sl}{mv vs vs' hs us zs:List V}{x y v sx:V}{p:Rw}{P:List Rw}{S:List Nat}{met:List (Option Nat)}{W:List (Nat×Nat)}{NN:y0→y0→Prop}{o7 o8 o9:Option V}
theorem Au:∀ {S:List Nat} {i s:Nat},S[i]?=some s→nth (Ha S) i=some (.int (Int.ofNat s))
 | _::_,0,_,e=>by obtain rfl:=Option.some.inj e;rfl
 | _::S,i+1,_,e=>Au (S:=S) (i:=i) e
theorem Yd(n:Nat):(!(Int.ofNat n==Int.ofNat n))=false:=congrArg not (beq_self_eq_true _)
noncomputable def wρ(met:List (Option Nat))(x5:Int)(hs:List V)(o7 o8 o9:Option V):y0:=[some (.ref 1),some (.ref 2),some (.ref 12),some (.ref 13),some (.a .lst (met.map ov)),some (.int x5),some (.a .lst hs),o7,o8,o9]
set_option maxHeartbeats 1000000 in
theorem bd{m0:Nat}(H:V2 C)(G:F8 g.J g.rv P)(so:Lq P S met)(hi:∀ (i d:Nat),met[i]?=some (some d)→d≤4*P.length)
  (q:∀ b' m' s',m0≤m'→T4 m' s'→b'.lt k→R (.bool true) (Wr (g.w none none) b' m' s')) (qn:∀ ρ b' m' s',m0≤m'→T4 m' s'→b'.lt k→NN ρ (Wr (g.w none none) b' m' s')) :
  ∀ {xs hs us:List V} {b:Bx} {m i:Nat} {s:Sl} {x5:Int} {o7 o8 o9:Option V},x5=Int.ofNat i→met[i]?=some (some hs.length)→AL m hs us→3≤m→m0≤m→T4 m s→b.lt (k+6*xs.length) →
  P3 (fun ρ σ N=>I4 (cO C 20) X j3.body.tl.hd.fb ρ σ N R) [7] false (R8 none zs) xs (wρ met x5 hs o7 o8 o9) (Wr (g.w none none) b m s) NN
 | [],hs,us,b,m,i,s,_,o7,o8,o9,e,_,_,_,hm,h2,hb=>qn _ b m s hm h2 hb
 | x::xs,hs,us,b,m,i,s,_,o7,o8,o9,rfl,em,ha,h3,hm,h2,hb=>by
  have hb6:b.lt (k+6*xs.length+1+5):=hb
  refine F1 (so.go i hs.length em) fun p ep hge hsu=>?_
  refine A0 (G.row i p ep) fun v ev hv=>?_
  have ev:ga g.rv (Int.ofNat i)=some v:=ev
  have eN:=X9 em
  have hder:der (Wr (g.w none none) b m s) v=p.v:=hv.is.der
  refine E8 ?_
  refine M0 eN (L6 (Yd _) (M0 ev (Z3 hder rfl (M0 hv.isl ?_))))
  refine Y2 (fun q1=>q b m s hm h2 (Bx.le hb (Nat.le_add_right ..))) fun el=>?_
  obtain ⟨hh,tops,rfl,lt⟩:∃ hh tops,hs=hh++tops∧tops.length=p.want:=W4 (hs.take (hs.length - p.want)) (hs.drop (hs.length - p.want)) ((List.take_append_drop ..).symm) (f0 (List.length_drop ..) (Nat.sub_sub_self hge))
  refine Y1 (uf ha) fun u1 u2 a1 a2=>?_
  have hl:=hi _ _ em
  rw [List.length_append] at hl
  have hf:W9 11 hh:=show hh.length+11≤1000000 by have:=G.few;exact ak hl (ak this (ak this (ak this (ak this (by simp +arith)))))
  have od:p.out (hh++tops).length=hh.length+j8 p:=by unfold Rw.out;exact f0 (List.length_append ..) (f0 (lt ..) (congrArg (·+j8 p) (Nat.add_sub_cancel ..)))
  rw [od] at hsu
  refine M0 ev ((Ro (w:=g.w none none) (k:=k+6*xs.length+1) H (hv.f el) hv.is (Nat.le_of_succ_le h3) hb6 a1 a2 lt hf ?_ ?_).le (by decide))
  ·intro tops' ss' D b' m' hm' hD ht' hlk hb'
   subst hD
   refine M0 ev ((Y3 (w:=g.w none none) (k:=k+6*xs.length) H hb' (j:=1) (by decide) (by decide) fun d b2 hd hb2=>?_).le (by decide))
   refine A0 (K7 (P:=fun y=>y=V.a .lst (hh++tops')) (l:=[V.a .lst (hh++tops')]) ⟨rfl,trivial⟩ hd) ?_;(repeat clear y);intro y ey tI;obtain rfl:=tI
   refine M0 ey ((Tb (w:=g.w none none) (i0:=Int.ofNat i) H (hv.f el) hv.is (Nat.le_trans h3 hm') (h2.mono hm') (a1.mono hm') ht' hf fun D ab as s2 hD lab hab hs2=>?_).le (by decide))
   subst hD
   refine bd H G so hi q qn (wf hv _) (List.length_append.trans (congrArg (hh.length+·) lab)▸hsu _ ?_) ((a1.mono hm').app hab) (Nat.le_trans h3 hm') (Nat.le_trans hm hm') hs2 hb2
   rw [Ym el hlk tops'.getLast?]
   exact .head _
  ·intro elp x1 x2 D1 D2 b' hD1 hD2 hp1 hp2 hgo hb'
   subst hD1;subst hD2
   refine i4 (zu (i:=i) el hgo) fun z1 z2 z3=>?_
   refine M0 ev ((Y3 (w:=g.w none none) (k:=k+6*xs.length) H hb' (j:=2) (by decide) (by decide) fun d b2 hd hb2=>?_).le (by decide))
   refine A0 (K7 (P:=fun y=>∃ x0,y=V.a .lst (hh++[x0])∧Pl x0∧Xm p i ([x0]:List V).getLast?∈p.succ i) (l:=[V.a .lst (hh++[x1]),V.a .lst (hh++[x2])]) ⟨(A2 x1 rfl hp1 z2),(A2 x2 rfl hp2 z3),trivial⟩ hd) ?_;(repeat clear y);intro y ey rI;refine F1 rI ?_;(repeat clear rI);intro x0 uI hp hsx;obtain rfl:=uI
   have t1:TL m (S2 p) [x0] [.a .lst [.str (rp x0)]]:=elp▸(Df x0 [] _ [] rfl rfl (VS.p hp) ⟨rfl,rfl⟩)
   refine M0 ey ((Tb (w:=g.w none none) (i0:=Int.ofNat i) H (hv.f el) hv.is h3 h2 a1 t1 hf fun D ab as s2 hD lab hab hs2=>?_).le (by decide))
   subst hD
   exact bd H G so hi q qn (wf hv _) (List.length_append.trans (congrArg (hh.length+·) lab)▸hsu _ hsx) (a1.app hab) h3 hm hs2 hb2
theorem VG{b:Mine.S}{L:F7}{ρ:y0}(h:P3 (fun ρ σ N=>I4 L X b ρ σ N R) [7] false (R8 none ((List.range 16).map fun i=>V.int (0+Int.ofNat i))) ((List.range 16).map fun i=>V.int (0+Int.ofNat i)) ρ σ NN):I4 L X (.fr [7] false .range (.cons (.k (.int 16)) .nil) b) ρ σ NN R:=h
set_option maxHeartbeats 1000000 in
theorem bh(H:V2 C)(G:F8 g.J g.rv P)(so:Lq P S met)(hi:∀ (i d:Nat),met[i]?=some (some d)→d≤4*P.length)(hS:g.sv=Ha S)(h0:S≠[])(hl:S.length≤13)
  (h3:3≤m) (hs:T4 m s) (hb:b.lt (k+97)) (q:∀ b' m' s',m≤m'→T4 m' s'→b'.lt k→Q (.bool true) (Wr (g.w none none) b' m' s')) :
  B0 C 24 (.g 83) [.ref 1,.ref 2,.ref 12,.ref 13,.a .lst (met.map ov)] (Wr (g.w none none) b m s) Q X:=by
 have ls:g.sv.length=S.length:=hS▸List.length_map _
 have j0:0<g.sv.length:=by refine f0 (ls ..) ?_;exact List.length_pos_iff.mpr h0
 have j1:g.sv.length<1073741824:=ak hl (ae ls (by simp +arith))
 have key:∀ F:Mine.S,F=j3.body.tl.hd→I4 (Li C 20 0) X (Mine.S.cons j3.body.hd (Mine.S.cons F j3.body.tl.tl)) (Vj j3 [.ref 1,.ref 2,.ref 12,.ref 13,.a .lst (met.map ov)]) (Wr (g.w none none) b m s) (fun Z σ=>Q .none σ) Q:=fun F eF=>by
  refine (Y3 (w:=g.w none none) (k:=k+96) H hb (j:=g.sv.length) j0 j1 fun d b' hd hb'=>?_).le (by decide)
  obtain ⟨s0,hs0,ey⟩:∃ s0∈S,ga g.sv (Int.ofNat d)=some (.int (Int.ofNat s0)):=by
   have hd:d<S.length:=ls▸hd
   refine C0 (S[d]) (List.getElem_mem hd) ?_
   refine f0 (hS ..) ?_
   exact Au (List.getElem?_eq_getElem hd)
  refine M0 ey ?_
  show I4 (Li C 20 0) X F (wρ met (Int.ofNat s0) [] none none none) (Wr (g.w none none) b' m s) (fun ρ σ=>I4 (Li C 20 0) X j3.body.tl.tl ρ σ (fun Z σ=>Q .none σ) Q) Q
  subst eF
  refine VG (b:=j3.body.tl.hd.fb) ?_
  exact bd (NN:=fun ρ σ=>I4 (Li C 20 0) X j3.body.tl.tl ρ σ (fun Z σ=>Q .none σ) Q) H G so hi q (fun Z b' m' s'=>q b' m' s') rfl (so.start s0 hs0) (us:=[]) rfl h3 (Nat.le_refl m) hs hb'
 exact F0 H 20 0 rfl rfl (by decide) (key _ rfl)
end
noncomputable def Wq:List Nat→Option Nat→Nat→Option Nat
 | [],e,0=>e
 | [],_,_+1=>none
 | h::_,_,0=>some h
 | _::t,e,j+1=>Wq t e j
section
variable{J:y0}{rv:List V}{P:List Rw}{hts:List Nat}{e e':Option Nat}{O O' S:List Nat}{d i j t h:Nat}{v x:V}{p:Rw}{op:Str}
theorem Ai:∀ {hts:List Nat} {j h:Nat},Wq hts (some d) j=some h→Wq (hts++[d]) e j=some h
 | [],0,_,q=>q
 | _::_,0,_,q=>q
 | _::t,j+1,_,q=>Ai (hts:=t) (j:=j) q
theorem w7:∀ {hts:List Nat} {j h:Nat},Wq hts none j=some h→Wq hts e j=some h∧hts[j]?=some h
 | [],0,_,q=>nn q
 | _::_,0,_,q=>⟨q,q⟩
 | _::t,j+1,_,q=>w7 (hts:=t) (j:=j) q
theorem Ub:∀ {hts:List Nat},Wq hts e hts.length=e
 | []=>rfl
 | _::t=>Ub (hts:=t)
theorem Bu:∀ {hts:List Nat} {j h:Nat},hts[j]?=some h→Wq hts e j=some h
 | _::_,0,_,q=>q
 | _::t,j+1,_,q=>Bu (hts:=t) (j:=j) q
structure Bd(S:List Nat)(J:y0)(rv:List V)(P:List Rw)(hts:List Nat)(e:Option Nat)(O:List Nat):Prop where
 len:rv.length=P.length
 hl:hts.length=P.length
 st:∀ s∈S,Wq hts e s=some 0
 row:∀ (i:Nat) p,P[i]?=some p→∃ v,nth rv i=some v∧K3 J v p
 old:∀ (i k:Nat),nth rv i=some (.ref (k+19))→k<J.length
 ok:∀ (i:Nat) p h,P[i]?=some p→hts[i]?=some h→p.want≤h∧∀ j∈p.succ i,(i∈O∧j=0)∨Wq hts e j=some (p.out h)
theorem Vb{α:Type}:∀ {l r:List α} {i:Nat} {v:α},nth l i=some v→nth (l++r) i=some v
 | _::_,_,0,_,q=>q
 | _::l,_,i+1,_,q=>Vb (l:=l) (i:=i) q
theorem Bi:∀ {l:List V},nth (l++[x]) l.length=some x
 | []=>rfl
 | _::l=>Bi (l:=l)
theorem G9:∀ {l:List V} {i:Nat} {v:V},nth (l++[x]) i=some v→nth l i=some v∨(i=l.length∧v=x)
 | [],0,_,q => .inr ⟨rfl,(Option.some.inj q).symm⟩
 | _::_,0,_,q => .inl q
 | _::l,i+1,_,q=>(G9 (l:=l) (i:=i) q).imp id fun z=>⟨congrArg (·+1) z.1,z.2⟩
theorem I9{α:Type}{x:α}:∀ {l:List α} {i:Nat} {v:α},(l++[x])[i]?=some v→l[i]?=some v∨(i=l.length∧v=x)
 | [],0,_,q => .inr ⟨rfl,(Option.some.inj q).symm⟩
 | _::_,0,_,q => .inl q
 | _::l,i+1,_,q=>(I9 (l:=l) (i:=i) q).imp id fun z=>⟨congrArg (·+1) z.1,z.2⟩
theorem Bd.lay(B:Bd S J rv P hts (some d) O)(hv:K3 J v p)(hn:∀ k,v = .ref (k+19)→k<J.length)(hw:p.want≤d)(hO:∀ i∈O,i∈O')
  (hs:∀ j∈p.succ P.length,(P.length∈O'∧j=0)∨Wq (hts++[d]) e j=some (p.out d)):Bd S J (rv++[v]) (P++[p]) (hts++[d]) e O' where
 len:=by refine f0 (List.length_append ..) (f0 (List.length_append ..) (f0 (B.len ..) ?_));rfl
 hl:=by refine f0 (List.length_append ..) (f0 (List.length_append ..) (f0 (B.hl ..) ?_));rfl
 st s h:=Ai (B.st s h)
 row i q eq:=(I9 eq).elim (fun z=>(B.row i q z).imp fun v w=>⟨Vb w.1,w.2⟩) fun z=>C0 v (by refine f0 (z.1 ..) (P5 (B.len ..) ?_);exact Bi) (z.2▸hv)
 old i k q:=(G9 q).elim (fun z=>B.old i k z) fun z=>hn k z.2.symm
 ok i q h e1 e2:=by
  rcases I9 e1 with z|⟨z,rfl⟩
  ·rcases I9 e2 with z2|⟨z2,_⟩
   ·exact ⟨(B.ok i q h z z2).1,fun j hj=>((B.ok i q h z z2).2 j hj).imp (fun w=>⟨hO i w.1,w.2⟩) Ai⟩
   ·rw [z2,B.hl,List.getElem?_eq_none (Nat.le_refl _)] at z;exact IC Option.ctorIdx z rfl
  ·subst z
   rw [←B.hl] at e2
   rcases I9 e2 with z2|⟨_,rfl⟩
   ·rw [List.getElem?_eq_none (Nat.le_refl _)] at z2;exact IC Option.ctorIdx z2 rfl
   ·exact ⟨hw,hs⟩
theorem Bd.any(B:Bd S J rv P hts none O):Bd S J rv P hts e O where
 len:=B.len
 hl:=B.hl
 st s h:=(w7 (B.st s h)).1
 row:=B.row
 old:=B.old
 ok i q h e1 e2:=⟨(B.ok i q h e1 e2).1,fun j hj=>((B.ok i q h e1 e2).2 j hj).imp id fun z=>(w7 z).1⟩
noncomputable def Ex(J J':y0):Prop:=J.length≤J'.length∧∀ (k:Nat) v,A1 J k=some v→A1 J' k=some v
theorem K3.ex{J':y0}(x:Ex J J')(h:K3 J v p):K3 J' v p:=by
 induction h using K3.casesOn with
 | fz h e=>exact .fz h e
 | lv=>exact .lv
 | rg i k t e1 e2=>exact .rg i k t e1 (x.2 k _ e2)
theorem Bd.ex{J':y0}(x:Ex J J')(B:Bd S J rv P hts e O):Bd S J' rv P hts e O where
 len:=B.len
 hl:=B.hl
 st:=B.st
 row i p ep:=(B.row i p ep).imp fun v z=>⟨z.1,z.2.ex x⟩
 old i k q:=Nat.lt_of_lt_of_le (B.old i k q) x.1
 ok:=B.ok
theorem Wb:∀ {J:y0} {v:Option V},(R2 J J.length v).length=J.length+1
 | [],_=>rfl
 | _::J,_=>congrArg (·+1) (Wb (J:=J))
theorem To:∀ {J:y0} {k:Nat} {u:V} {v:Option V},A1 J k=some u→A1 (R2 J J.length v) k=some u
 | _::_,0,_,_,q=>q
 | _::J,k+1,_,_,q=>To (J:=J) (k:=k) q
theorem LB{v:Option V}:Ex J (R2 J J.length v):=⟨Wb▸Nat.le_succ _,fun Z Z q=>To q⟩
theorem Cu(e:nth K1 i=some op)(t t' d:Nat):(ri op (Int.ofNat t)).want=(ri op (Int.ofNat t')).want∧(ri op (Int.ofNat t)).out d=(ri op (Int.ofNat t')).out d∧O0 op≠0∧j6 J0 op=false:=by
 exact P1 (P:=fun op=>(ri op (Int.ofNat t)).want=(ri op (Int.ofNat t')).want∧(ri op (Int.ofNat t)).out d=(ri op (Int.ofNat t')).out d∧O0 op≠0∧j6 J0 op=false) (l:=K1) ⟨(E3 rfl rfl nofun rfl),(E3 rfl rfl nofun rfl),(E3 rfl rfl nofun rfl),(E3 rfl rfl nofun rfl),trivial⟩ e
theorem Ci:∀ {J:y0} {k:Nat} {v:Option V},k<J.length→(R2 J k v).length=J.length
 | _::_,0,_,_=>rfl
 | _::J,k+1,_,h=>congrArg (·+1) (Ci (J:=J) (Nat.lt_of_succ_lt_succ h))
theorem Zm(e:nth K1 k=some op)(t i:Nat):(ri op (Int.ofNat t)).succ i=t::(match O0 op with|1=>[]|_=>[i+1]):=by
 exact P1 (P:=fun op=>(ri op (Int.ofNat t)).succ i=t::(match O0 op with|1=>[]|_=>[i+1])) (l:=K1) ⟨rfl,rfl,rfl,rfl,trivial⟩ e
theorem Bd.patch(B:Bd S J rv P hts (some d) O){a t0 k:Nat}(el:nth K1 a=some op)(ep:P[i]?=some (ri op (Int.ofNat t0)))(eh:hts[i]?=some h)(ev:nth rv i=some (.ref (k+19)))
  (un:∀ i',nth rv i'=some (.ref (k+19))→i'=i) (hd:(ri op (Int.ofNat t0)).out h=d) (hO:∀ i'∈O,i'=i∨i'∈O') :
  Bd S (R2 J k (some (ri op (Int.ofNat P.length)).v)) rv (P.set i (ri op (Int.ofNat P.length))) hts (some d) O' where
 len:=by refine f0 (List.length_set ..) ?_;exact B.len
 hl:=by refine f0 (List.length_set ..) ?_;exact B.hl
 st:=B.st
 old i k q:=by refine f0 (Ci (B.old _ _ ev) ..) ?_;exact B.old i k q
 row i' p e:=by
  by_cases z:i'=i
  ·subst z
   rw [List.getElem?_set_self (List.getElem?_eq_some_iff.mp ep).1] at e
   obtain rfl:=Option.some.inj e
   exact C0 _ ev (.rg a k _ el (N1 J k _))
  ·rw [List.getElem?_set_ne (Ne.symm z)] at e
   refine A0 (B.row i' p e) fun v e1 hv=>?_
   refine C0 v e1 ?_
   cases hv with
   | fz h e=>exact .fz h e
   | lv=>exact .lv
   | rg b k' t e2 e3=>exact .rg b k' t e2 ((T1 J _ fun y:k'=k=>z (un i' (by refine P5 (y ..) ?_;exact e1))).trans e3)
 ok i' p h' e1 e2:=by
  refine R7 (Cu el P.length t0 h) fun w1 w2 Z Z=>?_
  by_cases z:i'=i
  ·subst z
   rw [List.getElem?_set_self (List.getElem?_eq_some_iff.mp ep).1] at e1
   obtain rfl:=Option.some.inj e1
   rw [eh] at e2
   obtain rfl:=Option.some.inj e2
   obtain ⟨q1,q2⟩:=B.ok i' _ h ep eh
   refine f0 (w1 ..) (f0 (w2 ..) ?_)
   refine ⟨q1,fun j hj => .inr ?_⟩
   rw [Zm el] at hj q2
   rcases List.mem_cons.mp hj with rfl|hj
   ·refine f0 (hd ..) (P5 (B.hl ..) ?_);exact Ub
   ·refine (q2 j (.tail _ hj)).elim (fun y=>?_) id
    rw [y.2] at hj
    revert hj
    cases O0 op with
    | zero=>exact fun hj=>nomatch List.mem_singleton.mp hj
    | succ n=>cases n with
     | zero=>exact fun hj=>(List.not_mem_nil hj).elim
     | succ n=>exact fun hj=>nomatch List.mem_singleton.mp hj
  ·rw [List.getElem?_set_ne (Ne.symm z)] at e1
   obtain ⟨q1,q2⟩:=B.ok i' p h' e1 e2
   exact ⟨q1,fun j hj=>(q2 j hj).imp (fun y=>⟨(hO i' y.1).resolve_left z,y.2⟩) id⟩
theorem Bd.pg(B:Bd S J rv P hts none [])(few:P.length<1000):F8 J rv P where
 len:=B.len
 row:=B.row
 few:=few
 tg i p ep hl:=by
  refine A0 (B.row i p ep) fun v Z hv=>?_
  have hi:=(List.getElem?_eq_some_iff.mp ep).1
  obtain ⟨h,eh⟩:∃ h,hts[i]?=some h:=⟨_,List.getElem?_eq_getElem (B.hl▸hi)⟩
  have o:=(B.ok i p h ep eh).2
  induction hv using K3.casesOn with
  | fz _ e=>exact absurd e hl
  | lv=>exact absurd rfl hl
  | rg a k t e _ =>
   rw [Zm e] at o
   refine (o t (.head _)).elim (fun y=>(List.not_mem_nil y.1).elim) fun y=>?_
   exact B.hl▸(List.getElem?_eq_some_iff.mp (w7 (e:=none) y).2).1
theorem Bd.good(B:Bd S J rv P hts none [])(b:Wm P S):False:=by
 have g:∀ {i h:Nat},(hts.map some)[i]?=some (some h)→hts[i]?=some h:=fun {i h} q=>by
  rw [List.getElem?_map] at q
  cases e:hts[i]? with
  | none=>rw [e] at q;exact nomatch q
  | some y=>rw [e] at q;cases q;rfl
 have f:∀ {i h:Nat},hts[i]?=some h→(hts.map some)[i]?=some (some h):=fun q=>by rw [List.getElem?_map,q];rfl
 refine b.no (met:=hts.map some) (fun s h=>f (w7 (e:=none) (B.st s h)).2) fun i d e=>?_
 have hi:=(List.getElem?_eq_some_iff.mp (g e)).1
 obtain ⟨p,ep⟩:∃ p,P[i]?=some p:=⟨_,List.getElem?_eq_getElem (B.hl▸hi)⟩
 obtain ⟨q1,q2⟩:=B.ok i p d ep (g e)
 exact A2 p ep q1 (fun j hj=>(q2 j hj).elim (fun y=>(List.not_mem_nil y.1).elim) fun y=>f (w7 (e:=none) y).2)
end
structure Uw where
 z:Bool
 h:Bool
 sv:List V
 S:List Nat
 m:Nat
 s:Sl
structure Pg where
 J:y0
 rv:List V
 P:List Rw
 hts:List Nat
noncomputable def Ul(u:Uw)(c:Pg)(d:Nat)(t:Int):Wk:=⟨u.z,u.h,PT c.rv u.sv none none none none (some (.a .lst [.ref 12,.int (Int.ofNat d),.int t])) c.J⟩
noncomputable def Wl(u:Uw)(c:Pg)(d:Nat)(t:Int)(b:Bx):y0:=Wr (Ul u c d t) b u.m u.s
noncomputable abbrev Pg.add(c:Pg)(v:V)(p:Rw)(d:Nat):Pg:=⟨c.J,c.rv++[v],c.P++[p],c.hts++[d]⟩
noncomputable abbrev gb(u:Uw)(c:Pg)(e:Option Nat)(O:List Nat):Prop:=Bd u.S c.J c.rv c.P c.hts e O
structure Zd(c c':Pg):Prop where
 pl:c.P.length≤c'.P.length
 jl:c.J.length≤c'.J.length
 row:∀ (i:Nat) p,c.P[i]?=some p→c'.P[i]?=some p
 ht:∀ (i:Nat) h,c.hts[i]?=some h→c'.hts[i]?=some h
 v:∀ (i:Nat) v,nth c.rv i=some v→nth c'.rv i=some v
 nw:∀ (i k:Nat),nth c'.rv i=some (.ref (k+19))→nth c.rv i=some (.ref (k+19))∨c.J.length≤k
section
variable{C:Cx}{n N M:Nat}{σ τ:y0}{Q R:X0}{X:y0→Prop}{b b':Bx}{m k i d g:Nat}{x y v:V}{p r:Rw}{c c' c'':Pg}{u:Uw}{t:Int}{O:List Nat}{op:Str}{J:y0}{e:Option Nat}
theorem Zd.refl:Zd c c:=⟨Nat.le_refl _,Nat.le_refl _,fun Z Z=>id,fun Z Z=>id,fun Z Z=>id,fun Z Z => .inl⟩
theorem Zd.trans(a:Zd c c')(z:Zd c' c''):Zd c c'' :=
 ⟨Nat.le_trans a.pl z.pl,Nat.le_trans a.jl z.jl,fun i p q=>z.row i p (a.row i p q),fun i p q=>z.ht i p (a.ht i p q),fun i p q=>z.v i p (a.v i p q),fun i k q=>(z.nw i k q).elim (a.nw i k) fun w => .inr (Nat.le_trans a.jl w)⟩
theorem Xb{α:Type}{l r:List α}:∀ {i:Nat} {v:α},l[i]?=some v→(l++r)[i]?=some v:=fun {i v} q=>by rw [List.getElem?_append_left (List.getElem?_eq_some_iff.mp q).1];exact q
theorem Zd.add(h:∀ k,v = .ref (k+19)→c.J.length≤k):Zd c (c.add v p d) :=
 ⟨by refine f0 (List.length_append ..) ?_;exact Nat.le_add_right _ _,Nat.le_refl _,fun Z Z=>Xb,fun Z Z=>Xb,fun Z Z=>Vb,fun i k q=>(G9 q).imp id fun z=>h k z.2.symm⟩
theorem OE(h:K3 J v p):(S2 p).length≤3:=K3.few (g:=⟨true,true,[],[],none,none,none,J⟩) h
theorem Uo{a w e:Nat}(h:w≤a):Int.ofNat a - (w:Int)+Int.ofNat e=Int.ofNat (a - w+e):=by
 refine f0 (show Int.ofNat a=(a:Int) from rfl) (P5 (Int.ofNat_sub h ..) ?_);rfl
theorem an(H:V2 C)(hv:K3 c.J v p)(few:c.rv.length<1000)(hw:p.want≤d)(q:Q v (Wl u (c.add v p d) (p.out d) t b)):B0 C 10 (.g 73) [.ref 18,v] (Wl u c d t b) Q X:=by
 have l3:Nat.ble (lS (S2 p)).length 1000000=true:=Nat.ble_eq_true_of_le (Nat.le_trans (show ((S2 p).map Lt.c).length≤3 from (List.length_map (f:=Lt.c))▸OE hv) (by decide))
 have lw:(lS (S2 p)).length=p.want:=List.length_map (f:=Lt.c)
 have q':Q v (Wr ⟨u.z,u.h,PT (c.rv++[v]) u.sv none none none none (some (.a .lst [.ref 12,.int (Int.ofNat d - ((lS (S2 p)).length:Int)+Int.ofNat (j8 p)),.int t])) c.J⟩ b u.m u.s):=by
  refine f0 (lw ..) (f0 (Uo hw ..) ?_);exact q
 refine F0 H 6 0 rfl rfl (by decide) ((Vc (w:=Ul u c d t) (m:=u.m) (s:=u.s) (b:=b) H hv.is ?_).le (by decide))
 refine K0 (Nat.ble_eq_true_of_le (Nat.le_trans few (by decide))) (K0 l3 q')
theorem PE(B:gb u c (some d) O)(h:U3 p)(hl:O0 p.op=0)(hw:p.want≤d):gb u (c.add p.v p d) (some (p.out d)) O:=by
 refine B.lay (.fz h hl) nofun hw (fun Z=>id) fun j hj => .inr ?_
 unfold Rw.succ at hj
 rw [h.lv.2,hl] at hj
 refine f0 (List.mem_singleton.mp hj ..) (P5 (B.hl ..) ?_)
 have z:=Ub (hts:=c.hts++[d]) (e:=some (p.out d))
 rw [List.length_append] at z
 exact z
theorem Du:Zd c (c.add p.v p d) := .add nofun
theorem G8{α:Type}{l:List α}{x:α}:(l++[x]).length=l.length+1:=List.length_append
theorem Yb(H:V2 C)(h:U3 p)(hl:O0 p.op=0)(B:gb u c (some d) O)(few:c.P.length<1000)(hw:p.want≤d)(q:∀ c',Zd c c'→gb u c' (some (p.out d)) O→c'.P.length=c.P.length+1→c'.hts[c.P.length]?=some d→Q p.v (Wl u c' (p.out d) t b)):B0 C 10 (.g 73) [.ref 18,p.v] (Wl u c d t b) Q X :=
 an H (.fz h hl) (B.len▸few) hw (q _ Du (PE B h hl hw) G8 (B.hl▸List.getElem?_concat_length))
end
section
variable{C:Cx}{n N M:Nat}{σ τ:y0}{Q R:X0}{X:y0→Prop}{b b':Bx}{m k i d g:Nat}{x y v:V}{p r:Rw}{c c' c'':Pg}{u:Uw}{t:Int}{O:List Nat}{op:Str}{J:y0}{e:Option Nat}
theorem Zb{α β:Type}{f:α→β}:∀ {l:List α} {i:Nat},i<l.length→∃ x,nth l i=some x∧nth (l.map f) i=some (f x)
 | x::_,0,_=>C0 x rfl rfl
 | _::l,i+1,h=>Zb (l:=l) (Nat.lt_of_succ_lt_succ h)
theorem Nq(h:U3 r)(e:O0 r.op=0):r.want≤j8 r+1:=by
 induction h using U3.casesOn with
 | tuck h=>rcases W6 h with rfl|rfl|rfl<;>exact Nat.le_of_ble_eq_true rfl
 | spread=>exact Nat.le_add_left 1 _
 | jump|jumpif|jumpunless|jumpnil=>exact nomatch e
 | _=>exact Nat.le_of_ble_eq_true rfl
theorem Di{w:Wk}{s:Sl}(H:V2 C)(e:nth D3 i=some op)(hb:b.lt (k+2))(hq:∀ r b',U3 r→O0 r.op=0→b'.lt k→Q r.v (Wr w b' m s)):B0 C 15 (.g 67) [.ref 1,.str op] (Wr w b m s) Q X:=by
 have st:O0 op=0∧j6 J0 op=false:=P1 (P:=fun op=>O0 op=0∧j6 J0 op=false) (l:=D3) ⟨⟨rfl,rfl⟩,⟨rfl,rfl⟩,⟨rfl,rfl⟩,⟨rfl,rfl⟩,⟨rfl,rfl⟩,⟨rfl,rfl⟩,⟨rfl,rfl⟩,⟨rfl,rfl⟩,⟨rfl,rfl⟩,⟨rfl,rfl⟩,⟨rfl,rfl⟩,⟨rfl,rfl⟩,⟨rfl,rfl⟩,⟨rfl,rfl⟩,⟨rfl,rfl⟩,⟨rfl,rfl⟩,⟨rfl,rfl⟩,⟨rfl,rfl⟩,⟨rfl,rfl⟩,trivial⟩ e
 refine Zj (Vb e) C H b w.z k none _ Q X hb fun r b' hr ho hb'=>?_
 rcases yE hr with h|h
 ·exact hq r b' h (ho▸st.1) hb'
 ·rw [←ho,h] at st;exact Bool.noConfusion st.2
set_option maxHeartbeats 400000 in
theorem Eu(H:V2 C)(B:gb u c (some d) O)(few:c.P.length+4≤1000)(hb:b.lt (k+6))(q:∀ c' d' b',Zd c c'→gb u c' (some d') O→d≤d'+1→d'≤d+4→c'.P.length≤c.P.length+4→b'.lt k→Q .none (Wl u c' d' t b')):B0 C 19 (.g 74) [.ref 1,.ref 18] (Wl u c d t b) Q X:=by
 refine F0 H 15 0 rfl rfl (by decide) ((F0 (N:=4) H 0 0 rfl rfl (by decide) ?_).le (by decide))
 refine (Y3 (w:=Ul u c d t) (k:=k+5) H hb (j:=19) (by decide) (by decide) fun i b1 hi hb1=>?_).le (by decide)
 refine A0 (Zb (f:=V.str) (l:=D3) hi) fun op eo eo'=>?_
 refine M0 eo' ((Di (w:=Ul u c d t) (m:=u.m) (s:=u.s) (k:=k+3) H eo hb1 fun r b2 hr hl hb2=>?_).le (by decide))
 have hv:∀ J,K3 J r.v r:=fun J => .fz hr hl
 have w3:r.want≤3:=OE (hv [])
 refine ⟨fun kk ρ σ=>∃ c1 d1 b1 j,ρ=[some (.ref 1),some (.ref 18),some r.v]∧σ=Wl u c1 d1 t b1∧Zd c c1∧gb u c1 (some d1) O∧d1=d+j∧c1.P.length=c.P.length+j∧kk+j=3∧(j=0∨d1≤r.want)∧b1.lt (k+kk),(HC 3 c d b2 0 rfl rfl .refl B rfl rfl rfl (.inl rfl) hb2),fun kk ρ σ I=>?_⟩
 refine Ap I ?_;(repeat clear I);intro c1 d1 b1 j xI zI pr B1 e1 e2 e3 e4 hb1;obtain rfl:=xI;obtain rfl:=zI
 have f1:c1.P.length<1000:=ak few (ae e2 (ae e3 (by simp +arith)))
 have lw:(lS (S2 r)).length=r.want:=List.length_map (f:=Lt.c)
 have l3:Nat.ble (lS (S2 r)).length 1000000=true:=Nat.ble_eq_true_of_le (lw▸Nat.le_trans w3 (by decide))
 refine (Vc (w:=Ul u c1 d1 t) (m:=u.m) (s:=u.s) (b:=b1) H (hv c1.J).is ?_).le (by decide)
 refine K0 l3 (Y2 (fun z=>?_) fun z=>?_)
 ·have z:d1<r.want:=lw▸Int.ofNat_lt.mp (of_decide_eq_true z)
  obtain ⟨kk,rfl⟩:∃ n,kk=n+1:=⟨kk - 1,(Nat.sub_add_cancel (ak z (ak w3 (az e1 (az e3 (by simp +arith)))))).symm⟩
  refine (n5 (w:=Ul u c1 d1 t) (k:=k+kk) H hb1 fun p b3 hp hb3=>?_).le (by decide)
  refine (Yb (p:=rk Q1 p) H (.push hp) rfl B1 f1 (Nat.zero_le _) fun c2 p2 B2 e Z=>?_).le (by decide)
  exact C0 kk (Nat.lt_succ_self _) ⟨c2,d1+1,b3,j+1,rfl,rfl,pr.trans p2,B2,e1▸rfl,e.trans (e2▸rfl),ar e3 (by simp +arith),.inr z,hb3⟩
 ·have z:r.want≤d1:=lw▸Int.ofNat_le.mp (Int.not_lt.mp (of_decide_eq_false z))
  refine (Yb H hr hl B1 f1 z fun c2 p2 B2 e Z=>?_).le (by decide)
  have wc:=Nq hr hl
  have c4:=xf hr
  have od:r.out d1=d1 - r.want+j8 r:=rfl
  have sc:=Nat.sub_add_cancel z
  exact q c2 (r.out d1) b1 (pr.trans p2) B2 (az od (az sc (az e1 (ak wc (by simp +arith))))) (e4.elim (fun e0=>ae od (ak c4 (ae sc (ae e1 (ae e0 (by simp +arith)))))) fun e0=>ae od (ak c4 (ae sc (ak e0 (by simp +arith))))) (ae e2 (ae e3 (ae e (by simp +arith)))) (Bx.le hb1 (Nat.le_add_right ..))
theorem bc(H:V2 C){gi:Int}{D:Nat}(eg:gi=Int.ofNat g)(h1:d≤g+D)(h2:g≤d+D)(B:gb u c (some d) O)(few:c.P.length+D≤1000)(q:∀ c',Zd c c'→gb u c' (some g) O→c'.P.length≤c.P.length+D→Q .none (Wl u c' g t b)):B0 C 14 (.g 75) [.ref 18,.int gi] (Wl u c d t b) Q X:=by
 subst eg
 refine F0 H 10 0 rfl rfl (by decide) ?_
 refine ⟨fun kk ρ σ=>∃ c1 d1,ρ=[some (.ref 18),some (.int (Int.ofNat g))]∧σ=Wl u c1 d1 t b∧Zd c c1∧gb u c1 (some d1) O∧d1≤g+kk∧g≤d1+kk∧c1.P.length+kk≤c.P.length+D,(EC D c d rfl rfl .refl B h1 h2 (Nat.le_refl _)),fun kk ρ σ I=>?_⟩
 refine XF I ?_;(repeat clear I);intro c1 d1 rI tI pr B1 h1 h2 h3;obtain rfl:=rI;obtain rfl:=tI
 refine Y2 (fun z=>?_) fun z=>?_
 ·cases kk with
  | zero=>obtain rfl:d1=g:=Nat.le_antisymm h1 h2;exact Bool.noConfusion ((Yd d1).symm.trans z)
  | succ n =>
  have ne:d1≠g:=fun e=>by subst e;exact Bool.noConfusion ((Yd d1).symm.trans z)
  have f1:c1.P.length<1000:=ak few (ak h3 (by simp +arith))
  refine Y2 (fun z=>?_) fun z=>?_
  ·replace z:g<d1:=Int.ofNat_lt.mp (of_decide_eq_true z)
   clear ne
   cases d1 with
   | zero=>exact (Nat.not_lt_zero _ z).elim
   | succ e1 =>
   refine Yb (p:=rn X6) H .pop rfl B1 f1 (Nat.succ_le_succ (Nat.zero_le _)) fun c2 p2 B2 e Z=>?_
   exact C0 n (Nat.lt_succ_self _) ⟨c2,e1,rfl,rfl,pr.trans p2,B2,Nat.le_of_succ_le_succ h1,Nat.le_trans (Nat.le_of_lt_succ z) (Nat.le_add_right ..),ak h3 (ae e (by simp +arith))⟩
  ·have z:d1≤g:=Nat.le_of_not_lt fun h=>of_decide_eq_false z (Int.ofNat_lt.mpr h)
   refine Yb (p:=rn Q1) H (.push trivial) rfl B1 f1 (Nat.zero_le _) fun c2 p2 B2 e Z=>?_
   exact C0 n (Nat.lt_succ_self _) ⟨c2,d1+1,rfl,rfl,pr.trans p2,B2,Nat.le_trans (Nat.lt_of_le_of_ne z ne) (Nat.le_add_right ..),ak h2 (by simp +arith),ak h3 (ae e (by simp +arith))⟩
 ·have e:d1=g:=by
   have z:(!(Int.ofNat d1==Int.ofNat g))=false:=z
   have z2:(Int.ofNat d1==Int.ofNat g)=true:=by cases h:(Int.ofNat d1==Int.ofNat g)<;>first|rfl|(rw [h] at z;exact Bool.noConfusion z)
   exact Int.ofNat.inj (eq_of_beq z2)
  subst e
  exact q c1 pr B1 (Nat.le_trans (Nat.le_add_right ..) h3)
end
noncomputable abbrev Pg.ask(c:Pg)(op:Str)(t d:Nat):Pg:=⟨R2 c.J c.J.length (some (ri op (Int.ofNat t)).v),c.rv++[.ref (c.J.length+19)],c.P++[ri op (Int.ofNat t)],c.hts++[d]⟩
noncomputable abbrev Pg.patch(c:Pg)(i k:Nat)(op:Str):Pg:=⟨R2 c.J k (some (ri op (Int.ofNat c.rv.length)).v),c.rv,c.P.set i (ri op (Int.ofNat c.rv.length)),c.hts⟩
structure bn(c:Pg)(i k:Nat)(op:Str)(h:Nat):Prop where
 v:nth c.rv i=some (.ref (k+19))
 p:c.P[i]?=some (ri op (Int.ofNat 0))
 ht:c.hts[i]?=some h
 un:∀ i',nth c.rv i'=some (.ref (k+19))→i'=i
 jl:k<c.J.length
section
variable{C:Cx}{n N M:Nat}{σ τ:y0}{Q R:X0}{X:y0→Prop}{b b':Bx}{m k i d g a h i2 k2 h2:Nat}{x y v:V}{p r:Rw}{c c0 c' c'':Pg}{u:Uw}{t:Int}{O O':List Nat}{op Pk:Str}{J:y0}{e e':Option Nat}{t':Nat}
theorem Vo{α:Type}{l:List α}{x:α}{n:Nat}(e:n=l.length):(l++[x])[n]?=some x:=e▸List.getElem?_concat_length
theorem bn.go(a:Zd c c')(o:bn c i k op h):bn c' i k op h :=
 ⟨a.v _ _ o.v,a.row _ _ o.p,a.ht _ _ o.ht,fun i' q=>(a.nw _ _ q).elim (o.un i') fun z=>absurd o.jl (Nat.not_lt.mpr z),Nat.lt_of_lt_of_le o.jl a.jl⟩
theorem bn.new(B:gb u c e O):bn (c.ask op 0 d) c.P.length c.J.length op d :=
 ⟨B.len▸Bi,Vo rfl,Vo B.hl.symm,fun i' q=>(G9 q).elim (fun z=>absurd (B.old _ _ z) (Nat.lt_irrefl _)) fun z=>z.1.trans B.len,Wb▸Nat.lt_succ_self _⟩
theorem bn.get(o:bn c i k op h)(B:gb u c e O)(n:j6 J0 op=false):A1 c.J k=some (ri op (Int.ofNat 0)).v:=by
 refine A0 (B.row i _ o.p) fun v ev hv=>?_
 rw [o.v] at ev
 obtain rfl:=Option.some.inj ev
 generalize e1:V.ref (k+19)=x at hv
 generalize e2:ri op (Int.ofNat 0)=y at hv
 induction hv using K3.casesOn with
 | fz=>exact nomatch e1
 | lv=>exact nomatch e1
 | rg _ _ _ _ q =>
  cases e2
  cases e1
  exact q
theorem bn.patch(o:bn c i k op h)(o2:bn c i2 k2 Pk h2)(ne:i2≠i):bn (c.patch i2 k2 Pk) i k op h :=
 ⟨o.v,(List.getElem?_set_ne ne).trans o.p,o.ht,o.un,(Ci o2.jl).symm▸o.jl⟩
theorem MB(B:gb u c (some d) O)(ea:nth K1 a=some op)(hw:(ri op (Int.ofNat t')).want≤d)(hO:∀ i∈O,i∈O')(h1:(c.P.length∈O'∧t'=0)∨Wq (c.hts++[d]) e t'=some ((ri op (Int.ofNat t')).out d))(h2:O0 op=1∨e=some ((ri op (Int.ofNat t')).out d)):gb u (c.ask op t' d) e O':=by
 refine (B.ex LB).lay (.rg a _ t' ea (N1 ..)) (fun k q=>by cases q;exact Wb▸Nat.lt_succ_self _) hw hO fun j hj=>?_
 rw [Zm ea] at hj
 rcases List.mem_cons.mp hj with rfl|hj
 ·exact h1
 ·refine .inr (h2.elim (fun z=>?_) fun z=>?_)
  ·rw [z] at hj;exact (List.not_mem_nil hj).elim
  ·have hj:j=c.P.length+1:=by
    revert hj
    cases O0 op with
    | zero=>exact List.mem_singleton.mp
    | succ n=>cases n with
     | zero=>exact fun hj=>(List.not_mem_nil hj).elim
     | succ n=>exact List.mem_singleton.mp
   refine f0 (hj ..) (P5 (B.hl ..) (P5 (z ..) ?_))
   have w:=Ub (hts:=c.hts++[d]) (e:=e)
   rw [List.length_append] at w
   exact w
theorem Ux:Zd c (c.ask op i d) :=
 ⟨by refine f0 (List.length_append ..) ?_;exact Nat.le_add_right _ _,Wb▸Nat.le_succ _,fun Z Z=>Xb,fun Z Z=>Xb,fun Z Z=>Vb,fun i k q=>(G9 q).imp id fun z=>by cases z.2;exact Nat.le_refl _⟩
theorem m8(a:Zd c0 c)(hi:c0.P.length≤i)(hk:k<c.J.length):Zd c0 (c.patch i k op) :=
 ⟨by refine f0 (List.length_set ..) ?_;exact a.pl,(Ci hk).symm▸a.jl,fun j p q=>(List.getElem?_set_ne (fun z:i=j=>absurd (List.getElem?_eq_some_iff.mp q).1 (Nat.not_lt.mpr (z▸hi)))).trans (a.row j p q),a.ht,a.v,a.nw⟩
theorem J9(B:gb u c (some d) O)(o:bn c i k op h)(ea:nth K1 a=some op)(hd:(ri op (Int.ofNat 0)).out h=d)(hO:∀ i'∈O,i'=i∨i'∈O'):gb u (c.patch i k op) (some d) O':=by
 have z:=B.patch ea o.p o.ht o.v o.un hd hO
 rw [←B.len] at z
 exact z
theorem K9:∀ {J:y0},A1 J J.length=none
 | []=>rfl
 | _::J=>K9 (J:=J)
theorem Ei(H:V2 C)(ea:nth K1 a=some op)(B:gb u c (some d) O)(few:c.P.length<1000)(hw:(ri op (Int.ofNat t')).want≤d)(hO:∀ i∈O,i∈O')(h1:(c.P.length∈O'∧t'=0)∨Wq (c.hts++[d]) e t'=some ((ri op (Int.ofNat t')).out d))(h2:O0 op=1∨e=some ((ri op (Int.ofNat t')).out d))
  (q:∀ c',Zd c c'→gb u c' e O'→c'.P.length=c.P.length+1→(t'=0→bn c' c.P.length c.J.length op d)→Q (.ref (c.J.length+19)) (Wl u c' ((ri op (Int.ofNat t')).out d) t b)) :
  B0 C 10 (.g 73) [.ref 18,.ref (c.J.length+19)] (R2 (Wl u c d t b) (c.J.length+19) (some (ri op (Int.ofNat t')).v)) Q X :=
 an (c:=⟨R2 c.J c.J.length (some (ri op (Int.ofNat t')).v),c.rv,c.P,c.hts⟩) (p:=ri op (Int.ofNat t')) H (.rg a _ t' ea (N1 ..)) (B.len▸few) hw (q _ Ux (MB B ea hw hO h1 h2) G8 fun z=>z▸bn.new B)
noncomputable def x7(C:Cx)(i:Int)(N G L:Nat):Prop:=∀ {Q:X0} {X:y0→Prop} {b:Bx} {k:Nat} {c:Pg} {d:Nat} {u:Uw} {t:Int} {O:List Nat},gb u c (some d) O→c.P.length+L≤990→b.lt (k+G) →
 (∀ c' d' t' b',Zd c c'→gb u c' (some d') O→d≤d'+1→d'≤d+4→c'.P.length≤c.P.length+L→b'.lt k→Q .none (Wl u c' d' t' b'))→B0 C N (.g 76) [.ref 1,.ref 18,.int i] (Wl u c d t b) Q X
theorem NB(H:V2 C){i:Int}(hi:decide (0<i)=false):x7 C i 23 7 4:=fun {Q X b k c d u t O} B few hb q=>by
 refine F0 H 19 0 rfl rfl (by decide) (L6 hi ?_)
 refine (Y3 (w:=Ul u c d (t - 1)) (k:=k+6) H hb (j:=4) (by decide) (by decide) fun i b1 hi hb1=>?_).le (by decide)
 refine Ng (decide_eq_true (Int.ofNat_lt.mpr hi)) ?_
 exact Eu H B (Nat.le_trans few (by decide)) hb1 fun c' d' b'=>q c' d' (t - 1) b'
end
section
variable{C:Cx}{n N M G L:Nat}{σ τ:y0}{Q R:X0}{X:y0→Prop}{b b':Bx}{m k i d g a h i2 k2 h2:Nat}{x y v:V}{p r:Rw}{c c0 c' c'':Pg}{u:Uw}{t:Int}{O O':List Nat}{op Pk:Str}{J:y0}{e e':Option Nat}
theorem cI:∀ {w:Nat},w<8→w<4∨w=4∨w=5∨w=6∨w=7:=fun {w}=>(by decide:∀ w,w<8→w<4∨w=4∨w=5∨w=6∨w=7) w
theorem uz(H:V2 C)(B:gb u c (some d) O)(few:c.P.length<1000)(hw:1≤d)(q:∀ c',Zd c c'→(∀ e,gb u c' e O)→c'.P.length=c.P.length+1→Q (rn J0).v (Wl u c' ((rn J0).out d) t b)):B0 C 10 (.g 73) [.ref 18,(rn J0).v] (Wl u c d t b) Q X :=
 an H .lv (B.len▸few) hw (q _ Du (fun e=>(B.lay (e:=none) .lv nofun hw (fun Z=>id) fun j hj=>nomatch hj).any) G8)
set_option maxHeartbeats 1000000 in
theorem Vx(H:V2 C){i:Int}(ih:x7 C (i - 1) N G L)(hN:19≤N)(hL:4≤L)(few:c.P.length+(L+L+8)≤990)(q:∀ c' d' t' b',Zd c c'→gb u c' (some d') O→d≤d'+1→d'≤d+4→c'.P.length≤c.P.length+(L+L+8)→b'.lt k→Q .none (Wl u c' d' t' b'))
  {w base:Nat} (hw:w=6∧base=d+1∨(w=4∨w=5∨w=7)∧base=d) {c2:Pg} {kk a:Nat} {op:Str} {b2:Bx} {j l:Int} (el:l=Int.ofNat c.P.length) (pr:Zd c c2) (ea:nth K1 a=some op) (o:bn c2 (c.P.length+1) kk op (d+1)) (ho:(ri op (Int.ofNat 0)).out (d+1)=base) (B2:gb u c2 (some base) ((c.P.length+1)::O)) (e2:c2.P.length=c.P.length+2) (eh:c2.hts[c.P.length]?=some d) (hb2:b2.lt (k+G+G)) (ej:j=Int.ofNat base) :
   I4 (Li C N 0) X I7.body.tl.tl.tl.tl.tl.tl.tl [some (.ref 1),some (.ref 18),some (.int i),some (.ref 12),some (.int (Int.ofNat w)),some (.int l),some (.ref (kk+19)),some (.int j)] (Wl u c2 base t b2) (fun Z σ'=>Q .none σ') Q:=by
  have nl:=(Cu ea 0 0 0).2.2.2
  have f2:c2.P.length+8<1000:=ak few (ae e2 (by simp +arith))
  have hi1:c.P.length≤c.P.length+1:=Nat.le_succ _
  have hO1:∀ i'∈(c.P.length+1)::O,i'=c.P.length+1∨i'∈O:=fun Z h=>List.mem_cons.mp h
  have f2':c2.P.length<1000:=Nat.lt_of_le_of_lt (Nat.le_add_right _ 8) f2
  subst ej
  subst el
  rcases hw with ⟨rfl,rfl⟩|⟨rfl|rfl|rfl,rfl⟩
  ·refine (Yb (p:=rn X6) H .pop rfl B2 f2' (Nat.succ_le_succ (Nat.zero_le _)) fun c3 p3 B3 e3 Z=>?_).le (Nat.le_trans (by decide) hN)
   refine ih B3 (ak few (ae e2 (ae e3 (by simp +arith)))) hb2 fun c4 d4 t4 b4 p4 B4 h1 h2 h3 hb4=>?_
   have d4e:(rn X6).out (d+1)=d:=rfl
   rw [d4e] at h1 h2
   refine (bc (D:=4) H rfl (ak h2 (by simp +arith)) (ak h1 (by simp +arith)) B4 (ak few (ae e2 (ae e3 (ak h3 (by simp +arith))))) fun c5 p5 B5 h5=>?_).le (Nat.le_trans (by decide) hN)
   have o5:=o.go ((p3.trans p4).trans p5)
   refine M0 (o5.get B5 nl) (q (c5.patch (c.P.length+1) kk op) (d+1) t4 b4 (m8 (pr.trans ((p3.trans p4).trans p5)) hi1 o5.jl) (J9 B5 o5 ea ho hO1) (Nat.le_succ_of_le (Nat.le_succ _)) (Nat.add_le_add_left (by decide) _) ?_ (Bx.le hb4 (Nat.le_add_right _ _)))
   refine f0 (List.length_set ..) ?_;exact ae e2 (ae e3 (ak h3 (ak h5 (by simp +arith))))
  ·refine ih B2 (ak few (ae e2 (by simp +arith))) hb2 fun c4 d4 t4 b4 p4 B4 h1 h2 h3 hb4=>?_
   refine C0 (c4.J.length+19) K9 ((Ei (a:=2) (op:=A4) (t':=0) (e:=some base) (O':=c4.P.length::(c.P.length+1)::O) H rfl B4 (ak few (ae e2 (ak h3 (by simp +arith)))) (Nat.zero_le _) (fun Z h => .tail _ h) (.inl ⟨.head _,rfl⟩) (.inl rfl) fun c5 p5 B5 e5 o5=>?_).le (Nat.le_trans (by decide) hN))
   have oo:=o5 rfl
   have oa:=o.go (p4.trans p5)
   refine M0 (oa.get B5 nl) ?_
   have ne:c.P.length+1≠c4.P.length:=Nat.ne_of_lt (Nat.lt_of_lt_of_le (e2▸Nat.lt_succ_self _) p4.pl)
   have o6:=oo.patch oa ne
   have p6:=m8 (op:=op) (pr.trans (p4.trans p5)) hi1 oa.jl
   have B6:=J9 (O':=c4.P.length::O) B5 oa ea ho fun i' h=>(List.mem_cons.mp h).elim (fun z => .inr (z ▸ .head _)) fun h=>(List.mem_cons.mp h).imp id (.tail _)
   have e6:(c5.patch (c.P.length+1) kk op).P.length=c5.P.length:=List.length_set
   show B0 C N (.g 76) _ (Wl u (c5.patch (c.P.length+1) kk op) base t4 b4) _ X
   generalize c5.patch (c.P.length+1) kk op=c6 at o6 p6 B6 e6
   refine ih B6 (ak few (ae e2 (ak h3 (ae e5 (ae e6 (by simp +arith)))))) hb4 fun c7 d7 t7 b7 p7 B7 h4 h5 h6 hb7=>?_
   refine (bc (g:=d4) (D:=5) H rfl (ak h5 (ak h1 (by simp +arith))) (ak h2 (ak h4 (by simp +arith))) B7 (ak few (ae e2 (ak h3 (ae e5 (ae e6 (ak h6 (by simp +arith))))))) fun c8 p8 B8 h8=>?_).le (Nat.le_trans (by decide) hN)
   have o8:=o6.go (p7.trans p8)
   refine M0 (o8.get B8 rfl) (q (c8.patch c4.P.length c4.J.length A4) d4 t7 b7 (m8 (p6.trans (p7.trans p8)) (Nat.le_trans pr.pl p4.pl) o8.jl) (J9 (a:=2) B8 o8 rfl rfl fun Z h=>List.mem_cons.mp h) h1 h2 ?_ hb7)
   refine f0 (List.length_set ..) ?_;exact ae e2 (ak h3 (ae e5 (ae e6 (ak h6 (ak h8 (by simp +arith))))))
  ·refine ih B2 (ak few (ae e2 (by simp +arith))) hb2 fun c4 d4 t4 b4 p4 B4 h1 h2 h3 hb4=>?_
   refine (bc (D:=4) H rfl h2 (ak h1 (by simp +arith)) B4 (ak few (ae e2 (ak h3 (by simp +arith)))) fun c5 p5 B5 h5=>?_).le (Nat.le_trans (by decide) hN)
   refine C0 (c5.J.length+19) K9 ((Ei (a:=2) (op:=A4) (t':=c.P.length) (e:=some base) H rfl B5 (ak few (ae e2 (ak h3 (ak h5 (by simp +arith))))) (Nat.zero_le _) (fun Z=>id) (.inr (Bu (Xb ((p4.trans p5).ht _ _ eh)))) (.inl rfl) fun c6 p6 B6 e6 Z=>?_).le (Nat.le_trans (by decide) hN))
   have p6:=(p4.trans p5).trans p6
   have o6:=o.go p6
   refine M0 (o6.get B6 nl) (q (c6.patch (c.P.length+1) kk op) base t4 b4 (m8 (pr.trans p6) hi1 o6.jl) (J9 B6 o6 ea ho hO1) (Nat.le_succ _) (Nat.le_add_right _ _) ?_ (Bx.le hb4 (Nat.le_add_right _ _)))
   refine f0 (List.length_set ..) ?_;exact ae e2 (ak h3 (ak h5 (ae e6 (by simp +arith))))
  ·refine (Yb (p:=ri Q1 8) H (.push rfl) rfl B2 f2' (Nat.zero_le _) fun c3 p3 B3 e3 Z=>?_).le (Nat.le_trans (by decide) hN)
   refine (uz H B3 (ak f2 (ae e3 (by simp +arith))) (Nat.succ_le_succ (Nat.zero_le _)) fun c4 p4 B4 e4=>?_).le (Nat.le_trans (by decide) hN)
   have p4:=p3.trans p4
   have o4:=o.go p4
   refine M0 (o4.get (B4 none) nl) (q (c4.patch (c.P.length+1) kk op) base t b2 (m8 (pr.trans p4) hi1 o4.jl) (J9 (B4 _) o4 ea ho hO1) (Nat.le_succ _) (Nat.le_add_right _ _) ?_ (Bx.le hb2 (by simp +arith)))
   refine f0 (List.length_set ..) ?_;exact ae e2 (ae e3 (ae e4 (by simp +arith)))
end
section
variable{C:Cx}{n N M G L:Nat}{σ τ:y0}{Q R:X0}{X:y0→Prop}{b b':Bx}{m k i d g a h i2 k2 h2:Nat}{x y v:V}{p r:Rw}{c c0 c' c'':Pg}{u:Uw}{t:Int}{O O':List Nat}{op Pk:Str}{J:y0}{e e':Option Nat}
set_option maxHeartbeats 1000000 in
theorem Wo(H:V2 C){i:Int}(hi:decide (0<i)=true)(ih:x7 C (i - 1) N G L)(hN:19≤N)(hL:4≤L)(hG:7≤G):x7 C i (N+4) (3+G+G) (L+L+8):=fun {Q X b k c d u t O} B few hb q=>by
 have f1:c.P.length<998:=ak few (by simp +arith)
 have key:∀ w b1,w<8→b1.lt (k+G+G+2)→I4 (Li C N 0) X I7.body.tl.tl [some (.ref 1),some (.ref 18),some (.int i),some (.ref 12),some (.int (Int.ofNat w))] (Wl u c d (t - 1) b1) (fun Z σ'=>Q .none σ') Q:=fun w b1 hw hb1=>by
  have rest:∀ {op:Str} {a:Nat} {b2:Bx} {l:Int},l=Int.ofNat c.P.length→(w=6∧(ri op (Int.ofNat 0)).out (d+1)=d+1∨(w=4∨w=5∨w=7)∧(ri op (Int.ofNat 0)).out (d+1)=d)→nth K1 a=some op→(ri op (Int.ofNat 0)).want≤d+1→b2.lt (k+G+G)→∀ c1,Zd c c1→gb u c1 (some (d+1)) O→c1.P.length=c.P.length+1→c1.hts[c.P.length]?=some d →
    B0 C N (.g 73) [.ref 18,.ref (c1.J.length+19)] (R2 (Wl u c1 (d+1) (t - 1) b2) (c1.J.length+19) (some (ri op (Int.ofNat 0)).v)) (fun v σ=>I4 (Li C N 0) X I7.body.tl.tl.tl.tl.tl.tl [some (.ref 1),some (.ref 18),some (.int i),some (.ref 12),some (.int (Int.ofNat w)),some (.int l),some v] σ (fun Z σ'=>Q .none σ') Q) X:=fun {op a b2 l} el hw ea hwt hb2 c1 p1 B1 e1 eh =>
   (Ei (e:=some ((ri op (Int.ofNat 0)).out (d+1))) (O':=c1.P.length::O) (t':=0) H ea B1 (ak f1 (ae e1 (by simp +arith))) hwt (fun Z => .tail _) (.inl ⟨.head _,rfl⟩) (.inr rfl) fun c2 p2 B2 e2 o2 =>
    Vx H ih hN hL few q hw el (p1.trans p2) ea (e1▸o2 rfl) rfl (e1▸B2) (e2.trans (e1▸rfl)) (p2.ht _ _ eh) hb2 rfl).le (Nat.le_trans (by decide) hN)
  rcases cI hw with h|h
  ·refine Ng (decide_eq_true (Int.ofNat_lt.mpr h)) ((Eu (k:=k) H B (ak few (by simp +arith)) (Bx.le hb1 (ak hG (by simp +arith))) fun c' d' b' p' B' h1 h2 h3 hb'=>?_).le hN)
   exact q c' d' (t - 1) b' p' B' h1 h2 (ak h3 (by simp +arith)) hb'
  ·have n4:decide (Int.ofNat w<4)=false:=by rcases h with rfl|rfl|rfl|rfl<;>rfl
   refine L6 n4 ?_
   refine (n5 (w:=Ul u c d (t - 1)) (k:=k+G+G+1) H hb1 fun p b2 hp hb2=>?_).le (Nat.le_trans (by decide) hN)
   refine (Yb (p:=rk Q1 p) H (.push hp) rfl B (ak f1 (by simp +arith)) (Nat.zero_le _) fun c1 p1 B1 e1 eh=>?_).le (Nat.le_trans (by decide) hN)
   by_cases w6:w=6
   ·subst w6
    exact C0 (c1.J.length+19) K9 (rest (op:=G1) (a:=0) (congrArg Int.ofNat B.len) (.inl ⟨rfl,rfl⟩) rfl (Nat.succ_le_succ (Nat.zero_le _)) (Bx.weak hb2) c1 p1 B1 e1 eh)
   ·have h457:w=4∨w=5∨w=7:=h.imp_right fun h=>h.imp_right fun h=>h.resolve_left w6
    have e6:(!(Int.ofNat w==6))=true:=by rcases h457 with rfl|rfl|rfl<;>rfl
    refine Ng e6 ((Qo (w:=Ul u c1 (d+1) (t - 1)) (u := .str J1) (v := .str U0) (P:=fun y=>∃ op a,y = .str op∧nth K1 a=some op∧(ri op (Int.ofNat 0)).want≤d+1∧(ri op (Int.ofNat 0)).out (d+1)=d) H (aa _ 1 rfl rfl (Nat.succ_le_succ (Nat.zero_le _)) rfl) (aa _ 3 rfl rfl (Nat.succ_le_succ (Nat.zero_le _)) rfl) hb2 fun b3 y hy hb3=>?_).le (Nat.le_trans (by decide) hN))
    refine lh hy ?_;(repeat clear hy);intro op a rI ea hwt ho;obtain rfl:=rI
    exact C0 (c1.J.length+19) K9 (rest (congrArg Int.ofNat B.len) (.inr ⟨h457,ho⟩) ea hwt hb3 c1 p1 B1 e1 eh)
 refine F0 H N 0 rfl rfl (Nat.le_refl _) (Ng hi (Y2 (fun Z=>?_) fun Z=>?_))
 ·exact (Y3 (w:=Ul u c d (t - 1)) (k:=k+G+G+2) H (Bx.le hb (by simp +arith)) (j:=8) (by decide) (by decide) fun w b1 hw hb1=>key w b1 hw hb1).le (Nat.le_trans (by decide) hN)
 ·exact (Y3 (w:=Ul u c d (t - 1)) (k:=k+G+G+2) H (Bx.le hb (by simp +arith)) (j:=4) (by decide) (by decide) fun w b1 hw hb1=>key w b1 (Nat.lt_of_lt_of_le hw (by decide)) hb1).le (Nat.le_trans (by decide) hN)
end
section
variable{C:Cx}{n N M G L:Nat}{σ τ:y0}{Q R:X0}{X:y0→Prop}{b b':Bx}{m k i d g a h:Nat}{x y v:V}{p r:Rw}{c c0 c' c'':Pg}{u:Uw}{t:Int}{zs xs:List V}{O:List Nat}{o:Option V}{NN:y0→y0→Prop}{z hh:Bool}{s:Sl}
theorem x7.le{i:Int}{N' G' L':Nat}(w:x7 C i N G L)(h1:N≤N')(h2:G≤G')(h3:L≤L'):x7 C i N' G' L':=fun B few hb q =>
 (w B (Nat.le_trans (Nat.add_le_add_left h3 _) few) (Bx.le hb (Nat.add_le_add_left h2 _)) fun c' d' t' b' p B' x y z hb'=>q c' d' t' b' p B' x y (Nat.le_trans z (Nat.add_le_add_left h3 _)) hb').le h1
theorem Fu(H:V2 C){i:Int}(hi:decide (0<i)=true)(h2:decide (0<i - 1)=false):x7 C i 27 17 16:=Wo H hi (NB H h2) (by decide) (by decide) (by decide)
theorem OB(H:V2 C):x7 C 2 31 37 40:=Wo H rfl (Fu H rfl rfl) (by decide) (by decide) (by decide)
noncomputable abbrev bρ(o:Option V):y0:=[some (.ref 1),some (.ref 18),some (.ref 13),o]
theorem eI{d:Nat}(h:d<2):∃ j,Int.ofNat d=bI j:=by
 rcases Nat.lt_succ_iff_lt_or_eq.mp h with h|rfl
 ·obtain rfl:=Nat.lt_one_iff.mp h;exact ⟨false,rfl⟩
 ·exact ⟨true,rfl⟩
set_option maxHeartbeats 1000000 in
theorem Gu(H:V2 C):∀ {xs:List V} {u:Uw} {c:Pg} {b:Bx} {o:Option V},u.sv=Ha u.S→u.S≠[]→gb u c (some 0) []→c.P.length+2*xs.length≤20→u.sv.length≤20→b.lt (k+2*xs.length) →
  (∀ S' sv' c' b' o',sv'=Ha S'→S'≠[]→S'.length≤u.S.length+xs.length→gb ⟨u.z,u.h,sv',S',u.m,u.s⟩ c' (some 0) []→c'.P.length≤c.P.length+2*xs.length→b'.lt k→NN (bρ o') (Wl ⟨u.z,u.h,sv',S',u.m,u.s⟩ c' 0 t b')) →
  u.sv.length+xs.length≤20→P3 (fun ρ σ N=>I4 (cO C 31) X F5.body.tl.hd.fb ρ σ N R) [3] false (R8 none zs) xs (bρ o) (Wl u c 0 t b) NN
 | [],u,c,b,o,e1,e2,B,f,_,hb,q,_=>q u.S u.sv c b o e1 e2 (Nat.le_refl _) B (Nat.le_refl _) hb
 | x::xs,u,c,b,o,e1,e2,B,f,l,hb,q,l2=>by
  have f:c.P.length+2*xs.length+2≤20:=f
  have l2:u.sv.length+xs.length+1≤20:=l2
  refine E8 ((n5 (w:=Ul u c 0 t) (k:=k+2*xs.length+1) H hb fun p b1 hp hb1=>?_).le (by decide))
  refine (Yb (p:=rk Q1 p) H (.push hp) rfl B (ak f (by simp +arith)) (Nat.zero_le _) fun c1 p1 B1 f1 Z=>?_).le (by decide)
  refine (Y3 (w:=Ul u c1 1 t) (k:=k+2*xs.length) H hb1 (j:=2) (by decide) (by decide) fun d b2 hd hb2=>?_).le (by decide)
  obtain ⟨j,ej⟩:=eI hd
  have hp2:U3 (rs V3 0 (Int.ofNat d)):=ej▸U3.setl false j
  refine (Yb (p:=rs V3 0 (Int.ofNat d)) H hp2 rfl B1 (ak f (ae f1 (by simp +arith))) (Nat.le_refl 1) fun c2 p2 B2 f2 Z=>?_).le (by decide)
  refine K0 (Nat.ble_eq_true_of_le (show u.sv.length+1≤1000000 by omega)) ?_
  have B3:gb ⟨u.z,u.h,u.sv++[.int (Int.ofNat c2.rv.length)],u.S++[c2.rv.length],u.m,u.s⟩ c2 (some 0) [] :=
   ⟨B2.len,B2.hl,fun s hs=>(List.mem_append.mp hs).elim (B2.st s) fun hs=>(List.mem_singleton.mp hs).symm▸(B2.len.trans B2.hl.symm)▸Ub,B2.row,B2.old,B2.ok⟩
  refine Gu H (u:=⟨u.z,u.h,u.sv++[.int (Int.ofNat c2.rv.length)],u.S++[c2.rv.length],u.m,u.s⟩) (c:=c2) (by unfold Ha;refine f0 (List.map_append ..) ?_;exact congrArg (·++[V.int (Int.ofNat c2.rv.length)]) e1) (fun z=>nomatch (List.append_eq_nil_iff.mp z).2) B3 (ak f (ae f1 (ae f2 (by simp +arith)))) (by refine f0 (G8 ..) ?_;exact ak l2 (by simp +arith)) hb2 (fun S' sv' c' b' o' h1 h2 h3 h4 h5 h6=>?_) (by refine f0 (G8 ..) ?_;exact ak l2 (by simp +arith))
  rw [G8] at h3
  exact q S' sv' c' b' o' h1 h2 (Nat.le_trans h3 (Nat.le_of_eq (Nat.add_right_comm ..))) h4 (by show _≤c.P.length+2*(xs.length+1);exact ae f1 (ae f2 (ak h5 (by simp +arith)))) h6
set_option maxHeartbeats 1000000 in
theorem Hu(H:V2 C):∀ {xs:List V} {c:Pg} {d:Nat} {t:Int} {b:Bx} {o:Option V},gb u c (some d) []→c.P.length+40*xs.length≤990→b.lt (k+37*xs.length) →
  (∀ c' d' t' b' o',gb u c' (some d') []→c'.P.length≤c.P.length+40*xs.length→d'≤d+4*xs.length→b'.lt k→NN (bρ o') (Wl u c' d' t' b')) →
  P3 (fun ρ σ N=>I4 (cO C 31) X F5.body.tl.tl.hd.fb ρ σ N R) [3] false (R8 none zs) xs (bρ o) (Wl u c d t b) NN
 | [],c,d,t,b,o,B,f,hb,q=>q c d t b o B (Nat.le_refl _) (Nat.le_refl _) hb
 | x::xs,c,d,t,b,o,B,f,hb,q=>by
  have hp1:x7 C 1 31 37 40:=x7.le (Fu H rfl rfl) (by decide) (by decide) (by decide)
  have hb:b.lt (k+37*xs.length+37):=hb
  have f:c.P.length+(40*xs.length+40)≤990:=f
  refine E8 (Y2 (fun Z=>hp1 B (ak f (by simp +arith)) hb ?_) fun Z=>OB H B (ak f (by simp +arith)) hb ?_)
  all_goals
   intro c1 d1 t1 b1 p1 B1 h1 h2 h3 hb1
   refine Hu H B1 (ak h3 (ak f (by simp +arith))) hb1 fun c' d' t' b' o' B' h4 h5 hb'=>?_
   exact q c' d' t' b' o' B' (by show _≤c.P.length+(40*xs.length+40);exact ak h4 (ak h3 (by simp +arith))) (by show _≤d+(4*xs.length+4);exact ak h5 (ak h2 (by simp +arith))) hb'
theorem Wx(d:Nat):max (1:Int) (Int.ofNat d)=Int.ofNat (max 1 d):=match d with
 | 0=>rfl
 | d+1=>(Int.max_eq_right (Int.ofNat_le.mpr (Nat.le_add_left 1 d))).trans (congrArg Int.ofNat (Nat.max_eq_right (Nat.le_add_left 1 d)).symm)
theorem WG{n:Nat}(h:n<4){K:pH}(k:∀ xs:List V,xs.length=n→K xs none):uD .range [.int (Int.ofNat n)] σ K:=by
 rcases Nat.lt_succ_iff_lt_or_eq.mp h with h|rfl
 ·rcases W6 (Nat.le_of_lt_succ h) with rfl|rfl|rfl<;>exact k _ rfl
 ·exact k _ rfl
noncomputable def GF(L:F7)(X:y0→Prop)(b r:Mine.S)(ρ:y0)(N:y0→y0→Prop)(R:X0)(v:V)(σ:y0):Prop :=
 uD .range [v] σ fun xs g=>P3 (fun ρ σ N=>I4 L X b ρ σ N R) [3] false (R8 g xs) xs ρ σ fun ρ σ=>I4 L X r ρ σ N R
theorem gI{bo r:Mine.S}(h:B0 C n (.g 64) [.ref 1,.int 3] σ (GF (cO C n) X bo r (bρ o) NN R) X):I4 (Li C n 0) X (.cons (.fr [3] false .range (.cons (.call (.gl 64) (.cons (.loc 0) (.cons (.k (.int 3)) .nil))) .nil) bo) r) (bρ o) σ NN R:=h
theorem iI{bo r:Mine.S}(h:Bf u.z (GF (cO C n) X bo r (bρ o) NN R (.int 2) (Wl u c d t b)) (B0 C n (.g 64) [.ref 1,.int 2] (Wl u c d t b) (fun v σ=>iP v fun i=>GF (cO C n) X bo r (bρ o) NN R (.int (2+i)) σ) X)) :
  I4 (Li C n 0) X (.cons (.fr [3] false .range (.cons (.ite (.op .sub (.cons (.loc 0) (.cons (.k (.int 3)) .nil))) (.k (.int 2)) (.op (.bin .add) (.cons (.k (.int 2)) (.cons (.call (.gl 64) (.cons (.loc 0) (.cons (.k (.int 2)) .nil))) .nil)))) .nil) bo) r) (bρ o) (Wl u c d t b) NN R:=h
theorem XG{L:F7}{ρ:y0}{bo r:Mine.S}{n:Nat}(h:n<4)(e:v = .int (Int.ofNat n))(k:∀ xs:List V,xs.length=n→P3 (fun ρ σ N=>I4 L X bo ρ σ N R) [3] false (R8 none xs) xs ρ σ fun ρ σ=>I4 L X r ρ σ NN R):GF L X bo r ρ NN R v σ:=by
 subst e
 exact WG (K:=fun xs g=>P3 (fun ρ σ N=>I4 L X bo ρ σ N R) [3] false (R8 g xs) xs ρ σ fun ρ σ=>I4 L X r ρ σ NN R) h k
set_option maxHeartbeats 1000000 in
theorem Xx(H:V2 C)(hb:b.lt (k+150))(q:∀ (g:Gk) P S b',g.z=z→g.h=hh→F8 g.J g.rv P→(Wm P S→False)→g.sv=Ha S→S≠[]→S.length≤4→(∀ s∈S,s<1000)→0<P.length→P.length≤160→g.r16=none→g.r17=none→b'.lt k→Q (.a .tup [.ref 12,.ref 13]) (Wr (g.w none none) b' m s)) :
  B0 C 35 (.g 77) [.ref 1] (Wr ⟨z,hh,[]⟩ b m s) Q X:=by
 have key:∀ t,I4 (Li C 31 0) X F5.body.tl (bρ none) (Wl ⟨z,hh,[.int 0],[0],m,s⟩ ⟨[],[],[],[]⟩ 0 t b) (fun Z σ'=>Q .none σ') Q:=fun t=>by
  refine gI ((Y3 (w:=Ul ⟨z,hh,[.int 0],[0],m,s⟩ ⟨[],[],[],[]⟩ 0 t) (k:=k+149) H hb (j:=3) (by decide) (by decide) fun d b1 hd hb1=>?_).le (by decide))
  refine XG (Nat.lt_succ_of_lt hd) rfl fun xs hx=>?_
  refine Gu (k:=k+140) (NN:=fun ρ σ=>I4 (Li C 31 0) X F5.body.tl.tl ρ σ (fun Z σ'=>Q .none σ') Q) H rfl nofun ⟨rfl,rfl,fun s hs=>by obtain rfl:=List.mem_singleton.mp hs;rfl,nofun,nofun,nofun⟩ (by show 0+2*xs.length≤20;exact ak hd (ak hd (ae hx (ae hx (by simp +arith))))) (by show 1≤20;exact by simp +arith) (Bx.le hb1 (ak hd (ak hd (ae hx (ae hx (by simp +arith)))))) (fun S sv c b2 o esv nS lS B f hb2=>?_) (by show 1+xs.length≤20;exact ak hd (ae hx (by simp +arith)))
  have f:c.P.length≤0+2*xs.length:=f
  have lS:S.length≤1+xs.length:=lS
  have two:∀ {ys:List V} {b3:Bx} {zs:List V},ys.length<4→b3.lt (k+139)→P3 (fun ρ σ N=>I4 (cO C 31) X F5.body.tl.tl.hd.fb ρ σ N Q) [3] false (R8 none zs) ys (bρ o) (Wl ⟨z,hh,sv,S,m,s⟩ c 0 t b3) fun ρ σ=>I4 (Li C 31 0) X F5.body.tl.tl.tl ρ σ (fun Z σ'=>Q .none σ') Q:=fun {ys b3 zs} hy hb3=>by
   have F:c.P.length≤4:=ak f (ak hd (ak hd (ae hx (ae hx (by simp +arith)))))
   have Y:40*ys.length≤120:=Nat.mul_le_mul_left 40 (Nat.le_of_lt_succ hy)
   refine Hu (k:=k) H B (Nat.le_trans (Nat.add_le_add F Y) (by decide)) (Bx.le hb3 (Nat.add_le_add_left (Nat.le_trans (Nat.mul_le_mul_left 37 (Nat.le_of_lt_succ hy)) (by decide)) k)) fun c2 d2 t2 b4 o2 B2 f2 gH hb4=>?_
   have F2:=Nat.le_trans f2 (Nat.add_le_add F Y)
   refine (bc (g:=max 1 d2) (D:=1) H (Wx d2) (Nat.le_succ_of_le (Nat.le_max_right ..)) (Nat.max_le.mpr ⟨Nat.le_add_left ..,Nat.le_succ _⟩) B2 (ak F2 (by simp +arith)) fun c3 p3 B3 e3=>?_).le (by decide)
   refine (uz H B3 (ak e3 (ak F2 (by simp +arith))) (Nat.le_max_left 1 d2) fun c4 p4 B4 e4=>?_).le (by decide)
   exact q ⟨z,hh,c4.rv,sv,none,none,_,c4.J⟩ c4.P S b4 rfl rfl ((B4 none).pg (ae e4 (ak e3 (ak F2 (by simp +arith))))) (B4 none).good esv nS (ak hd (ae hx (ak lS (by simp +arith)))) (fun s hs=>Nat.lt_of_lt_of_le ((B4 none).hl▸(List.getElem?_eq_some_iff.mp (w7 (e:=none) ((B4 none).st s hs)).2).1) (ae e4 (ak e3 (ak F2 (by simp +arith))))) (az e4 (by simp +arith)) (ae e4 (ak e3 (ak F2 (by simp +arith)))) rfl rfl hb4
  refine iI (Y2 (fun Z=>XG (n:=2) (by decide) rfl fun ys hy=>two (ys:=ys) (ae hy (by simp +arith)) (Bx.weak hb2)) fun Z=>?_)
  refine (Y3 (w:=Ul ⟨z,hh,sv,S,m,s⟩ c 0 t) (k:=k+139) H hb2 (j:=2) (by decide) (by decide) fun d b3 hd hb3=>?_).le (by decide)
  exact XG (n:=2+d) (ak hd (by simp +arith)) rfl fun ys hy=>two (ys:=ys) (ak hd (ae hy (by simp +arith))) hb3
 exact F0 H 31 0 rfl rfl (by decide) (C0 12 rfl (Y2 (fun Z=>C0 18 rfl ⟨13,rfl,key 2⟩) fun Z=>C0 18 rfl ⟨13,rfl,key 6⟩))
end
noncomputable def QE(J:y0)(k:Nat):Prop:=∃ i op t,nth K1 i=some op∧A1 J k=some (ri op t).v
inductive Xq(J:y0):V→Prop
 | fz {r}:U3 r→O0 r.op=0→Xq J r.v
 | lv:Xq J (rn J0).v
 | rg (k:Nat):QE J k→Xq J (.ref (k+19))
inductive dn(n:Nat)(J:y0):V→Prop
 | fz {r}:U3 r→O0 r.op=0→dn n J r.v
 | lv:dn n J (rn J0).v
 | rg (k i t:Nat) {op}:nth K1 i=some op→A1 J k=some (ri op (Int.ofNat t)).v→t<n→dn n J (.ref (k+19))
noncomputable abbrev Gk.j(g:Gk)(J:y0):Gk:=⟨g.z,g.h,g.rv,g.sv,g.r16,g.r17,g.r18,J⟩
section
variable{C:Cx}{n N M:Nat}{σ τ:y0}{Q R:X0}{X:y0→Prop}{b b':Bx}{m k i d a:Nat}{x y v:V}{p r:Rw}{g:Gk}{zs xs rv:List V}{NN:y0→y0→Prop}{s:Sl}{J:y0}{P:List Rw}{op:Str}{t:Int}
theorem K3.w(h:K3 J v p):Xq J v:=by
 induction h using K3.casesOn with
 | fz h e=>exact .fz h e
 | lv=>exact .lv
 | rg i k t e1 e2=>exact .rg k (Fv i _ _ e1 e2)
theorem vz:∀ {rv:List V},(∀ v∈rv,dn n J v)→∃ P:List Rw,rv.length=P.length∧∀ (i:Nat) p,P[i]?=some p→∃ v,nth rv i=some v∧K3 J v p∧(O0 p.op≠0→Cd p.a<n)
 | [],_=>C0 [] rfl nofun
 | v::rv,h=>by
  refine A0 (vz (rv:=rv) fun v hv=>h v (.tail _ hv)) fun P e w=>?_
  have one:∃ p,K3 J v p∧(O0 p.op≠0→Cd p.a<n):=by
   cases h v (.head _) with
   | fz hf ef=>exact C0 _ (.fz hf ef) (fun z=>absurd ef z)
   | lv=>exact C0 _ .lv (fun z=>absurd rfl z)
   | rg k i t e1 e2 lt=>exact C0 _ (.rg i k t e1 e2) (fun Z=>lt)
  refine A0 one ?_;(repeat clear one);intro p h1 h2
  refine C0 (p::P) (congrArg (·+1) e) (fun i q eq=>?_)
  cases i with
  | zero=>obtain rfl:=Option.some.inj eq;exact A2 v rfl h1 h2
  | succ i=>exact w i q eq
theorem dn.pg(h:∀ v∈rv,dn rv.length J v)(few:rv.length<1000):∃ P,F8 J rv P∧rv.length=P.length:=by
 refine A0 (vz h) fun P e w=>?_
 exact C0 P ⟨e,fun i p q=>(w i p q).imp fun Z z=>⟨z.1,z.2.1⟩,e▸few,fun i p q=>(w i p q).elim fun Z z=>e▸z.2.2⟩ e
theorem Xq.put(e:nth K1 i=some op)(h:Xq J v):Xq (R2 J k (some (ri op t).v)) v:=by
 induction h using Xq.casesOn with
 | fz h e=>exact .fz h e
 | lv=>exact .lv
 | rg j c =>
  by_cases z:j=k
  ·subst z;exact .rg j (Fv i op t e (N1 ..))
  ·exact .rg j (c.imp fun Z c=>c.imp fun Z c=>c.imp fun Z c=>⟨c.1,(T1 J _ z).trans c.2⟩)
theorem dn.put{t:Nat}(e:nth K1 i=some op)(lt:t<n)(h:dn n J v):dn n (R2 J k (some (ri op (Int.ofNat t)).v)) v:=by
 induction h using dn.casesOn with
 | fz h e=>exact .fz h e
 | lv=>exact .lv
 | rg j i' t' e1 e2 h =>
  by_cases z:j=k
  ·subst z;exact .rg j i t e (N1 ..) lt
  ·exact .rg j i' t' e1 ((T1 J _ z).trans e2) h
noncomputable abbrev IF:V := .a .lst (K1.map V.str)
theorem RE(h:U3 r)(e:O0 r.op=0):ll (.str r.op) IF=some false:=by
 induction h using U3.casesOn with
 | jump|jumpif|jumpunless|jumpnil=>exact nomatch e
 | _=>rfl
theorem TE(e:nth K1 i=some op):ll (.str op) IF=some true:=P1 (P:=fun op=>ll (.str op) IF=some true) (l:=K1) ⟨rfl,rfl,rfl,rfl,trivial⟩ e
theorem M6(H:V2 C)(q:Q IF σ):B0 C 4 (.g 61) [] σ Q X:=F0 H 0 0 rfl rfl (by decide) q
theorem Ed(H:V2 C)(q:Q (.a .lst (D3.map V.str)) σ):B0 C 4 (.g 60) [] σ Q X:=F0 H 0 0 rfl rfl (by decide) q
noncomputable def nρ(x3 x4:Int)(o5 o6 o7:Option V):y0:=[some (.ref 1),some (.ref 12),some (.ref 13),some (.int x3),some (.int x4),o5,o6,o7]
theorem L9(e:A1 J k=some x):der (Wr ((g.j J).w none none) b m s) (.ref (k+19))=x:=by
 show (A1 J k).getD .none=_
 refine f0 (e ..) ?_;rfl
set_option maxHeartbeats 1000000 in
theorem Y9(H:V2 C){x3 x4:Int}{o6 o7:Option V}:∀ {xs:List V} {J:y0} {o5:Option V},0<g.rv.length→(∀ v∈xs,Xq J v)→(∀ J' o5',(∀ v∈xs,dn g.rv.length J' v)→(∀ v,dn g.rv.length J v→dn g.rv.length J' v)→NN (nρ x3 x4 o5' o6 o7) (Wr ((g.j J').w none none) b m s)) →
  P3 (fun ρ σ N=>I4 (cO C 15) X Wa.body.tl.tl.tl.hd.fb ρ σ N R) [5] false (R8 (some 12) g.rv) xs (nρ x3 x4 o5 o6 o7) (Wr ((g.j J).w none none) b m s) NN
 | [],J,o5,_,_,q=>⟨rfl,q J o5 (fun Z h=>(List.not_mem_nil h).elim) fun Z=>id⟩
 | x::xs,J,o5,h0,hx,q=>by
  refine ⟨rfl,?_⟩
  have hx':∀ v∈xs,Xq J v:=fun v hv=>hx v (.tail _ hv)
  cases hx x (.head _) with
  | fz h e=>exact (M6 H (M0 (RE h e) (Y9 H h0 hx' fun J' o5' h1 h2=>q J' o5' (List.forall_mem_cons.mpr ⟨h2 _ (.fz h e),h1⟩) h2))).le (by decide)
  | lv=>exact (M6 H (Y9 H h0 hx' fun J' o5' h1 h2=>q J' o5' (List.forall_mem_cons.mpr ⟨h2 _ .lv,h1⟩) h2)).le (by decide)
  | rg k c =>
   refine nh c ?_;(repeat clear c);intro i op t e1 e2
   refine A0 (Ob (m:=g.rv.length) t h0) fun d hd e=>?_
   refine Z3 (L9 e2) rfl ((M6 H (M0 (TE e1) (Z3 (L9 e2) rfl (tE (Int.ofNat_lt.mpr h0) (M0 e2 ?_))))).le (by decide))
   refine Y9 (J:=R2 J k (some (ri op (t % Int.ofNat g.rv.length)).v)) H h0 (fun v hv=>(hx' v hv).put e1) fun J' o5' h1 h2=>?_
   rw [e] at h2
   exact q J' o5' (List.forall_mem_cons.mpr ⟨h2 _ (.rg k i d e1 (N1 ..) hd),h1⟩) fun v hv=>h2 v (hv.put e1 hd)
end
section
variable{C:Cx}{n N M:Nat}{σ τ:y0}{Q R:X0}{X:y0→Prop}{b b':Bx}{m k i d a:Nat}{x y v:V}{p r:Rw}{g:Gk}{zs xs rv:List V}{NN:y0→y0→Prop}{s:Sl}{J:y0}{P:List Rw}{op:Str}{t:Int}{S:List Nat}
theorem zf{f:y0→y0→(Option V→y0→Prop)→Prop}{ρ:y0}{ts:List Nat}{pat:Bool}{G:y0→Prop→Prop}{Q:List V→y0→Prop}{P:V→Prop}(hG:∀ K:Prop,K→G σ K) :
  ∀ {xs acc:List V},(∀ x∈xs,∀ K:Option V→y0→Prop,K none σ→(∀ v,P v→K (some v) σ)→we ts pat x ρ fun ρ'=>f ρ' σ K)→(∀ y∈acc,P y)→(∀ ys,(∀ y∈ys,P y)→ys.length≤acc.length+xs.length→Q ys σ)→Z4 f ρ ts pat G xs σ acc Q
 | [],acc,_,ha,q=>hG _ (q acc ha (Nat.le_refl _))
 | x::xs,acc,hf,ha,q=>hG _ (hf x (.head _) _ (zf hG (fun y hy=>hf y (.tail _ hy)) (by refine f0 (Option.toList_none ..) (f0 (List.append_nil ..) ?_);exact ha) fun ys h1 h2=>q ys h1 (by rw [Option.toList_none,List.append_nil] at h2;exact Nat.le_succ_of_le h2)) fun v hv =>
   zf hG (fun y hy=>hf y (.tail _ hy)) (fun y hy=>(List.mem_append.mp hy).elim (ha y) fun z=>List.mem_singleton.mp z▸hv) fun ys h1 h2=>q ys h1 (by rw [List.length_append] at h2;exact Nat.le_trans h2 (Nat.le_of_eq (Nat.add_right_comm ..))))
noncomputable def JF(xs:List V)(i:Int):Prop:=∃ j,j<xs.length∧(i = .ofNat j∨i = .negSucc j)
theorem Z9:∀ {l:List V} {i:Nat},i<l.length→∃ x∈l,nth l i=some x
 | x::_,0,_=>C0 x (.head _) rfl
 | _::l,i+1,h=>(Z9 (l:=l) (Nat.lt_of_succ_lt_succ h)).imp fun Z z=>⟨.tail _ z.1,z.2⟩
theorem wz{i:Int}(h:JF xs i):∃ x∈xs,ga xs i=some x:=by
 obtain ⟨j,hj,rfl|rfl⟩:=h
 ·exact Z9 hj
 ·refine A0 (Z9 (l:=xs) (i:=xs.length - 1 - j) (Nat.lt_of_le_of_lt (Nat.sub_le ..) (Nat.sub_one_lt_of_lt hj))) fun x hx e=>?_
  exact C0 x hx ((if_pos hj).trans e)
theorem gn{i:Int}{K:List V→Prop}(h:JF xs i)(k:∀ ys:List V,ys.length=xs.length→(∀ y∈ys,y∈xs∨y=v)→K ys):vD xs i v K:=by
 obtain ⟨j,hj,rfl|rfl⟩:=h
 ·exact K0 (Nat.ble_eq_true_of_le hj) (k _ List.length_set fun y hy=>List.mem_or_eq_of_mem_set hy)
 ·exact K0 (Nat.ble_eq_true_of_le hj) (k _ List.length_set fun y hy=>List.mem_or_eq_of_mem_set hy)
theorem Iu{a:Nat}(h:a<xs.length):JF xs (Int.ofNat a):=C0 a h (.inl rfl)
theorem xz{a:Nat}(h:a<xs.length):JF xs (Int.ofNat a - 1):=by
 cases a with
 | zero=>exact C0 0 h (.inr rfl)
 | succ a=>exact C0 a (Nat.lt_of_succ_lt h) (.inl (Int.add_sub_cancel (a:Int) 1))
theorem jn:∀ {xs:List V},0<xs.length→∃ x,xs.getLast?=some x
 | x::xs,_=>⟨_,List.getLast?_cons⟩
theorem Xo:∀ {l:List V},v∈l→∃ i,i<l.length∧nth l i=some v
 | _::_,.head _=>C0 0 (Nat.succ_pos _) rfl
 | _::_,.tail _ h=>(Xo h).elim fun i z=>C0 (i+1) (Nat.succ_lt_succ z.1) z.2
theorem jI{bo:Mine.S}{ρ:y0}(e:ρ=some (.ref 1)::some (.ref 12)::ρ.drop 2)(h:P3 (fun ρ σ N=>I4 (cO C n) X bo ρ σ N R) [5] false (R8 (some 12) g.rv) g.rv ρ (Wr (g.w none none) b m s) NN):I4 (Li C n 0) X (.cons (.fr [5] false .val (.loc 1) bo) .nil) ρ (Wr (g.w none none) b m s) NN R:=by
 rw [e] at h ⊢;exact h
theorem F8.rw(G:F8 J rv P):∀ v∈rv,Xq J v:=fun v hv=>by
 refine A0 (Xo hv) fun i hi e=>?_
 refine A0 (G.row i _ (List.getElem?_eq_getElem (G.len▸hi))) fun v' e' h=>?_
 rw [e] at e'
 obtain rfl:=Option.some.inj e'
 exact h.w
theorem YG:∀ {w:Nat},w<8→w=0∨w=1∨w=2∨w=3∨w=4∨w=5∨w=6∨w=7:=fun {w}=>(by decide:∀ w,w<8→w=0∨w=1∨w=2∨w=3∨w=4∨w=5∨w=6∨w=7) w
set_option maxHeartbeats 4000000 in
theorem Yx(H:V2 C)(G:F8 g.J g.rv P)(h0:0<P.length)(few:P.length<900)(hS:g.sv=Ha S)(nS:S≠[])(hS1:∀ s∈S,s<1000)(hl:S.length≤10)(hb:b.lt (k+10))
  (q:∀ (g':Gk) P' S' b',g'.z=g.z→g'.h=g.h→g'.r16=g.r16→g'.r17=g.r17→F8 g'.J g'.rv P'→P'.length≤P.length+1→g'.sv=Ha S'→S'≠[]→(∀ s∈S',s<1000)→S'.length≤S.length+1→b'.lt k→Q .none (Wr (g'.w none none) b' m s)) :
  B0 C 19 (.g 78) [.ref 1,.ref 12,.ref 13] (Wr (g.w none none) b m s) Q X:=by
 have rl:0<g.rv.length:=G.len▸h0
 have K5:∀ {rv' sv' S' J' b' o5 o6 o7} {x3 x4:Int},(∀ v∈rv',Xq J' v)→rv'.length≤P.length+1→sv'=Ha S'→S'≠[]→(∀ s∈S',s<1000)→S'.length≤S.length+1→b'.lt k →
   I4 (Li C 15 0) X Wa.body.tl.tl.tl (nρ x3 x4 o5 o6 o7) (Wr (Gk.w ⟨g.z,g.h,rv',sv',g.r16,g.r17,g.r18,J'⟩ none none) b' m s) (fun Z σ'=>Q .none σ') Q:=fun {rv' sv' S' J' b' o5 o6 o7 x3 x4} h1 h2 h3 h4 h0' h5 hb'=>by
  refine jI (g:=⟨g.z,g.h,rv',sv',g.r16,g.r17,g.r18,J'⟩) rfl ?_
  have key:∀ J2,(∀ v∈rv',dn rv'.length J2 v)→Q .none (Wr (Gk.w ⟨g.z,g.h,rv',sv',g.r16,g.r17,g.r18,J2⟩ none none) b' m s):=fun J2 hJ=>by
   refine A0 (dn.pg hJ (ak few (ak h2 (by simp +arith)))) fun P2 G2 e2=>?_
   exact q ⟨g.z,g.h,rv',sv',g.r16,g.r17,g.r18,J2⟩ P2 S' b' rfl rfl rfl rfl G2 (e2▸h2) h3 h4 h0' h5 hb'
  induction rv' using List.casesOn with
  | nil=>exact ⟨rfl,key J' (fun Z h=>(List.not_mem_nil h).elim)⟩
  | cons x xs=>exact Y9 (g:=⟨g.z,g.h,x::xs,sv',g.r16,g.r17,g.r18,J'⟩) (NN:=fun Z σ'=>Q .none σ') H (Nat.succ_pos _) h1 fun J2 Z h Z=>key J2 h
 have gr:=G.rw
 have l1:g.rv.length≤P.length+1:=G.len▸Nat.le_succ _
 have s1:S.length≤S.length+1:=Nat.le_succ _
 have bg:Nat.ble (g.rv.length+1) 1000000=true:=Nat.ble_eq_true_of_le (ak few (ak l1 (by simp +arith)))
 refine F0 H 15 0 rfl rfl (by decide) ((Y3 (w:=g.w none none) (k:=k+9) H hb (j:=8) (by decide) (by decide) fun w b1 hw hb1=>?_).le (by decide))
 refine (Y3 (w:=g.w none none) (k:=k+8) H hb1 (j:=g.rv.length) rl (G.len▸Nat.lt_trans few (by decide)) fun a b2 ha hb2=>?_).le (by decide)
 have hb3:b2.lt k:=Bx.le hb2 (Nat.le_add_right _ _)
 refine zf (P:=fun y=>∃ k,y = .ref (k+19)∧QE g.J k) (fun K k=>⟨rfl,k⟩) (fun x hx K kn kv=>?_) (fun Z h=>(List.not_mem_nil h).elim) fun ys hys hyl=>?_
 ·cases gr x hx with
  | fz h e=>exact (M6 H (M0 (RE h e) kn)).le (by decide)
  | lv=>exact (M6 H kn).le (by decide)
  | rg k c=>exact c.elim fun i c'=>c'.elim fun op c'=>c'.elim fun t z=>Z3 (L9 (g:=g) z.2) rfl ((M6 H (M0 (TE z.1) (kv _ (C0 k rfl ⟨i,op,t,z⟩)))).le (by decide))
 rcases YG hw with rfl|rfl|rfl|rfl|rfl|rfl|rfl|rfl
 ·refine A0 (Z9 ha) fun v Z ev=>?_
  refine M0 ev ?_
  exact K5 (rv':=g.rv.eraseIdx a) (fun v hv=>gr v (List.mem_of_mem_eraseIdx hv)) (Nat.le_trans (List.length_eraseIdx_le ..) l1) hS nS hS1 s1 hb3
 ·refine (Y3 (w:=g.w none none) (k:=k+7) H hb2 (j:=6) (by decide) (by decide) fun d b3 hd hb3=>?_).le (by decide)
  refine A0 (K7 (P:=fun y=>∃ i op,y=V.str op∧nth D3 i=some op) (l:=[.str X6,.str t9,.str l7,.str E5,.str Q1,.str V3]) ⟨(W4 10 _ rfl rfl),(W4 1 _ rfl rfl),(W4 5 _ rfl rfl),(W4 0 _ rfl rfl),(W4 11 _ rfl rfl),(W4 2 _ rfl rfl),trivial⟩ hd) ?_;(repeat clear y);intro y ey CI;refine Y1 CI ?_;(repeat clear CI);intro i op uI eo;obtain rfl:=uI
  refine M0 ey ((Di (w:=g.w none none) (k:=k+5) H eo hb3 fun r b4 hr hl hb4=>?_).le (by decide))
  refine K0 (Nat.ble_eq_true_of_le (Nat.le_of_lt ha)) (K0 bg ?_)
  refine K5 (rv':=g.rv.take a++r.v::g.rv.drop a) (fun v hv=>?_) ?_ hS nS hS1 s1 (Bx.le hb4 (Nat.le_add_right _ _))
  ·rcases List.mem_append.mp hv with hv|hv
   ·exact gr v (List.mem_of_mem_take hv)
   ·exact (List.mem_cons.mp hv).elim (fun e=>e ▸ .fz hr hl) fun hv=>gr v (List.mem_of_mem_drop hv)
  ·refine f0 (List.length_append ..) (f0 (List.length_cons ..) (f0 (List.length_take ..) (f0 (List.length_drop ..) ?_)));exact f0 (Nat.min_eq_left (Nat.le_of_lt ha)) (show a+(g.rv.length - a)+1≤_ from f0 (Nat.add_sub_cancel' (Nat.le_of_lt ha)) (Nat.succ_le_succ (Nat.le_of_eq G.len)))
 ·refine A0 (wz (Iu ha)) fun v1 m1 e1=>?_
  refine A0 (wz (xz ha)) fun v2 m2 e2=>?_
  refine M0 e1 (M0 e2 (gn (xz ha) fun y1 l1' h1=>gn (Iu (l1'.symm▸ha)) fun y2 l2 h2=>?_))
  refine K5 (fun v hv=>?_) (l2.trans l1'▸l1) hS nS hS1 s1 hb3
  exact (h2 v hv).elim (fun h=>(h1 v h).elim (gr v) fun e=>e▸gr _ m1) fun e=>e▸gr _ m2
 ·refine K0 (Nat.ble_eq_true_of_le (show g.sv.length+1≤1000000 by refine f0 (hS ..) ?_;unfold Ha;refine f0 (List.length_map ..) ?_;exact ak hl (by simp +arith))) ?_
  exact K5 (sv':=g.sv++[.int (Int.ofNat a)]) (S':=S++[a]) gr l1 (by unfold Ha;refine f0 (List.map_append ..) ?_;exact congrArg (·++[V.int (Int.ofNat a)]) hS) (fun z=>nomatch (List.append_eq_nil_iff.mp z).2) (fun s hs=>(List.mem_append.mp hs).elim (hS1 s) fun hs=>by refine f0 (List.mem_singleton.mp hs ..) ?_;have:=G.len;exact ak few (ak ha (ae this (by simp +arith)))) (Nat.le_of_eq G8) hb3
 ·refine (Ed H ?_).le (by decide)
  refine (Y3 (w:=g.w none none) (k:=k+7) H hb2 (j:=19) (by decide) (by decide) fun d b3 hd hb3=>?_).le (by decide)
  refine A0 (Zb (f:=V.str) (l:=D3) hd) fun op eo eo'=>?_
  refine M0 eo' ((Di (w:=g.w none none) (k:=k+5) H eo hb3 fun r b4 hr hl hb4=>?_).le (by decide))
  refine gn (Iu ha) fun y1 l1' h1=>K5 (fun v hv=>(h1 v hv).elim (gr v) fun e=>e ▸ .fz hr hl) (l1'▸l1) hS nS hS1 s1 (Bx.le hb4 (Nat.le_add_right _ _))
 ·obtain ⟨v,ev⟩:=jn rl
  refine M0 ev ?_
  exact K5 (rv':=g.rv.dropLast) (fun v hv=>gr v (List.dropLast_subset _ hv)) (f0 (List.length_dropLast ..) (Nat.le_trans (Nat.sub_le ..) l1)) hS nS hS1 s1 hb3
 ·induction ys using List.casesOn with
  | nil =>
   obtain ⟨v,ev⟩:=jn rl
   refine M0 ev ?_
   exact K5 (rv':=g.rv.dropLast) (fun v hv=>gr v (List.dropLast_subset _ hv)) (f0 (List.length_dropLast ..) (Nat.le_trans (Nat.sub_le ..) l1)) hS nS hS1 s1 hb3
  | cons y ys =>
   refine (Y3 (w:=g.w none none) (k:=k+7) H hb2 (j:=(y::ys).length) (Nat.succ_pos _) (Nat.lt_of_le_of_lt hyl (by show 0+g.rv.length<_;exact ak few (ak l1 (by simp +arith)))) fun d b3 hd hb3=>?_).le (by decide)
   refine A0 (Z9 hd) fun h mh eh=>?_
   refine A0 (hys h mh) ?_;intro kk xI zI;obtain rfl:=xI;refine nh zI ?_;(repeat clear zI);intro i op t e1 e2
   refine M0 eh (Z3 (L9 (g:=g) e2) rfl ((Y3 (w:=g.w none none) (k:=k+6) H hb3 (j:=3) (by decide) (by decide) fun d b4 hd hb4=>?_).le (by decide)))
   refine A0 (K7 (P:=fun v=>∃ j,v=V.int j) (l:=[.int 1,.int (-1),.int 2]) ⟨⟨_,rfl⟩,⟨_,rfl⟩,⟨_,rfl⟩,trivial⟩ hd) ?_;(repeat clear v);intro v ev vI;obtain ⟨j,rfl⟩:=vI
   refine M0 ev (M0 e2 ?_)
   exact K5 (J':=R2 g.J kk (some (ri op (t+j)).v)) (fun v hv=>(gr v hv).put e1) l1 hS nS hS1 s1 (Bx.le hb4 (Nat.le_add_right _ _))
 ·induction ys using List.casesOn with
  | nil =>
   obtain ⟨v,ev⟩:=jn rl
   refine M0 ev ?_
   exact K5 (rv':=g.rv.dropLast) (fun v hv=>gr v (List.dropLast_subset _ hv)) (f0 (List.length_dropLast ..) (Nat.le_trans (Nat.sub_le ..) l1)) hS nS hS1 s1 hb3
  | cons y ys =>
   refine (Y3 (w:=g.w none none) (k:=k+7) H hb2 (j:=(y::ys).length) (Nat.succ_pos _) (Nat.lt_of_le_of_lt hyl (by show 0+g.rv.length<_;exact ak few (ak l1 (by simp +arith)))) fun d b3 hd hb3=>?_).le (by decide)
   refine A0 (Z9 hd) fun h mh eh=>?_
   refine A0 (hys h mh) ?_;intro kk rI tI;obtain rfl:=rI;refine nh tI ?_;(repeat clear tI);intro i op t e1 e2
   refine M0 eh ((M6 H ((Y3 (w:=g.w none none) (k:=k+6) H hb3 (j:=4) (by decide) (by decide) fun d b4 hd hb4=>?_).le (by decide))).le (by decide))
   refine A0 (Zb (f:=V.str) (l:=K1) hd) fun Pk eo eo'=>?_
   refine M0 eo' (M0 e2 ?_)
   exact K5 (J':=R2 g.J kk (some (ri Pk t).v)) (fun v hv=>(gr v hv).put eo) l1 hS nS hS1 s1 (Bx.le hb4 (Nat.le_add_right _ _))
end
structure Cf(P:List Rw)(S S0:List Nat)(met:List (Option Nat))(Wt E:List Nat):Prop where
 len:met.length=P.length
 start:∀ s∈S0,met[s]?=some (some 0)
 go:∀ (i d:Nat),met[i]?=some (some d)→i∈Wt∨i∈E∨∃ p:Rw,P[i]?=some p∧p.want≤d∧∀ j∈p.succ i,met[j]?=some (some (p.out d))
 only:∀ (i d:Nat),met[i]?=some (some d)→l8 P S i d
 ws:∀ i∈Wt,∃ d:Nat,met[i]?=some (some d)
 sum:Wt.length+N3 met≤P.length
 low:∀ (i d:Nat),met[i]?=some (some d)→d+4*N3 met+4≤4*P.length
section
variable{P:List Rw}{S S0 Wt E:List Nat}{met met':List (Option Nat)}{i j d d':Nat}
theorem Fi(e:met[j]?=some none)(h:met[i]?=some (some d')):(met.set j (some d))[i]?=some (some d'):=by
 rw [List.getElem?_set_ne (fun q=>by rw [←q,e] at h;cases h)];exact h
theorem Gi(e:met[j]?=some none)(h:(met.set j (some d))[i]?=some (some d')):(i=j∧d'=d)∨met[i]?=some (some d'):=by
 by_cases q:i=j
 ·subst q;rw [List.getElem?_set_self (List.getElem?_eq_some_iff.mp e).1] at h;cases h;exact .inl ⟨rfl,rfl⟩
 ·rw [List.getElem?_set_ne (Ne.symm q)] at h;exact .inr h
theorem Cf.sol(h:Cf P S S met [] []):Lq P S met:=⟨h.len,h.start,fun i d e=>((h.go i d e).resolve_left (fun q=>((List.not_mem_nil q).elim))).resolve_left (fun q=>((List.not_mem_nil q).elim)),h.only⟩
theorem Cf.add(h:Cf P S S0 met Wt E)(e:met[j]?=some none)(r:l8 P S j d)(hd:d+4*N3 met≤4*P.length):Cf P S S0 (met.set j (some d)) (Wt++[j]) E:=by
 have hn:=ad (d:=d) e
 have hs:=h.sum
 refine ⟨by refine f0 (List.length_set ..) ?_;exact h.len,fun s hs=>Fi e (h.start s hs),fun i d' ei=>?_,fun i d' ei=>(Gi e ei).elim (fun z=>z.1▸z.2▸r) (h.only i d'),fun i hi=>?_,by refine f0 (G8 ..) ?_;exact ae hn (ak hs (by simp +arith)),fun i d' ei=>?_⟩
 ·rcases Gi e ei with ⟨rfl,rfl⟩|ei
  ·exact .inl (List.mem_append_right _ (.head _))
  ·exact (h.go i d' ei).imp (List.mem_append_left _) fun q=>q.imp id fun q=>q.imp fun p z=>V0 z.1 z.2.1 (fun k hk=>Fi e (z.2.2 k hk))
 ·rcases List.mem_append.mp hi with hi|hi
  ·exact (h.ws i hi).imp fun Z q=>Fi e q
  ·refine f0 (List.mem_singleton.mp hi ..) ?_;exact ⟨d,List.getElem?_set_self (List.getElem?_eq_some_iff.mp e).1⟩
 ·rcases Gi e ei with ⟨rfl,rfl⟩|ei
  ·exact ak hd (ae hn (ae hn (ae hn (ae hn (by simp +arith)))))
  ·have:=h.low i d' ei;exact ae hn (ae hn (ae hn (ae hn (ak this (by simp +arith)))))
theorem Cf.done{p:Rw}(h:Cf P S S0 met Wt [i])(e:met[i]?=some (some d))(ep:P[i]?=some p)(hw:p.want≤d)(hs:∀ j∈p.succ i,met[j]?=some (some (p.out d))):Cf P S S0 met Wt [] :=
 ⟨h.len,h.start,fun k d' ek=>(h.go k d' ek).imp id fun q => .inr (q.elim (fun q=>by
  rw [List.mem_singleton] at q
  subst q
  rw [e] at ek
  cases ek
  exact A2 p ep hw hs) id),h.only,h.ws,h.sum,h.low⟩
theorem Cf.take(h:Cf P S S0 met (Wt++[i]) []):Cf P S S0 met Wt [i] :=
 ⟨h.len,h.start,fun k d' ek=>(h.go k d' ek).elim (fun q=>(List.mem_append.mp q).imp id .inl) fun q => .inr (.inr (q.resolve_left fun z=>(List.not_mem_nil z).elim)),h.only,fun k hk=>h.ws k (List.mem_append_left _ hk),by have:=h.sum;rw [G8] at this;exact ak this (by simp +arith),h.low⟩
theorem Cf.init:Cf P S [] (List.replicate P.length none) [] [] :=
 ⟨List.length_replicate,(fun Z h=>(List.not_mem_nil h).elim),fun i d e=>(by rw [List.getElem?_replicate] at e;split at e<;>cases e),fun i d e=>(by rw [List.getElem?_replicate] at e;split at e<;>cases e),(fun Z h=>(List.not_mem_nil h).elim),by refine f0 (yf ..) ?_;exact Nat.le_of_eq (Nat.zero_add _),fun i d e=>(by rw [List.getElem?_replicate] at e;split at e<;>cases e)⟩
end
noncomputable abbrev UE(k n:Str)(sl ro st:V):V := .a (.obj 1 [5,6,7,8,9,10,11,12,13]) [.str k,.str n,.none,sl,ro,.a .lst [],.a .lst [],st,.none]
noncomputable def PB:V:=UE J6 Lg (.a .lst [.str uH,.str wo]) (.a .lst []) (.a .lst [.int 0])
noncomputable def VE(ro:List V):V:=UE T9 Kb (.a .lst [.str vH,.str wH]) (.a .lst ro) (.ref 13)
noncomputable def Oq(ro:List V):V := .a (.obj 2 [14,15,16,17]) [VE ro,.a .lst [VE ro,PB],.ref 16,.ref 17]
noncomputable def z7(C:Cx):Prop:=∀ {σ:y0} {Q:X0} {X:y0→Prop} {ro:List V} {i:Nat} {r:Str},i<1000000→r.length≤10000→X σ→B0 C 3 (.m 2 1) [Oq ro,.int (Int.ofNat i),.str r] σ Q X
section
variable{C:Cx}{n N:Nat}{σ:y0}{Q:X0}{X:y0→Prop}{b:Bx}{m k i j d:Nat}{v:V}{p:Rw}{g:Gk}{ro:List V}{s:Sl}{t:Nat}
theorem XE(h:U3 p∨p=rn J0){P:Rw→Prop}(h1:∀ p,U3 p→P p)(h2:P (rn J0)):P p:=h.elim (h1 p) fun e=>e▸h2
set_option maxHeartbeats 4000000 in
theorem Zx(H:V2 C)(h:U3 p∨p=rn J0)(ht:O0 p.op≠0→Cd p.a<ro.length)(hq:Q .none σ):B0 C 7 (.m 2 3) [Oq ro,.int (Int.ofNat i),p.o] σ Q X:=by
 refine F0 H 0 3 rfl rfl (by decide) ?_
 rcases h with h|rfl
 ·induction h using U3.casesOn with
  | tuck ha=>rcases W6 ha with rfl|rfl|rfl<;>exact hq
  | spread ha hb=>rcases W6 ha with rfl|rfl|rfl<;>rcases W6 hb with rfl|rfl|rfl<;>exact hq
  | getl i j=>induction i using Bool.casesOn<;>induction j using Bool.casesOn<;>exact hq
  | setl i j=>induction i using Bool.casesOn<;>induction j using Bool.casesOn<;>exact hq
  | fits a b ha=>exact L6 (congrArg not (decide_eq_true ha)) hq
  | jump t=>exact L6 (decide_eq_false (Int.not_le.mpr (Int.ofNat_lt.mpr (ht nofun)))) hq
  | jumpif t=>exact L6 (decide_eq_false (Int.not_le.mpr (Int.ofNat_lt.mpr (ht nofun)))) hq
  | jumpunless t=>exact L6 (decide_eq_false (Int.not_le.mpr (Int.ofNat_lt.mpr (ht nofun)))) hq
  | jumpnil t=>exact L6 (decide_eq_false (Int.not_le.mpr (Int.ofNat_lt.mpr (ht nofun)))) hq
  | _=>exact hq
 ·exact hq
theorem Ju(H:V2 C){a c:Bool}{op:Str}(hq:Q .none σ):B0 C 4 (.m 2 4) [Oq ro,.int (Int.ofNat i),(rs op (bI a) (bI c)).o] σ Q X:=by
 refine F0 H 0 0 rfl rfl (by decide) ?_
 induction a using Bool.casesOn<;>induction c using Bool.casesOn<;>exact hq
set_option maxHeartbeats 4000000 in
theorem Ck(H:V2 C)(h:U3 p∨p=rn J0)(hq:Q .none σ):B0 C 5 (.m 2 5) [Oq ro,.int (Int.ofNat i),p.o] σ Q X:=by
 refine F0 H 0 1 rfl rfl (by decide) ?_
 rcases h with h|rfl
 ·induction h using U3.casesOn<;>exact hq
 ·exact hq
theorem Ku(H:V2 C)(hq:Q .none σ):B0 C 4 (.m 2 7) [Oq ro] σ Q X:=F0 H 0 0 rfl rfl (by decide) hq
theorem Lu(H:V2 C){i:Int}(hq:Q (.bool true) σ):B0 C 4 (.g 24) [.int i] σ Q X:=F0 H 0 0 rfl rfl (by decide) hq
end
noncomputable def Kk(g:Gk)(met:List (Option Nat))(wt:List Nat)(b:Bx)(m:Nat)(s:Sl):y0:=Wr (Gk.w ⟨g.z,g.h,g.rv,g.sv,some (.a .lst (met.map ov)),some (.a .lst (Ha wt)),g.r18,g.J⟩ none none) b m s
section
variable{C:Cx}{n N:Nat}{σ:y0}{Q:X0}{X:y0→Prop}{b:Bx}{m k i j d:Nat}{v:V}{p:Rw}{g:Gk}{ro:List V}{s:Sl}{t:Nat}{met:List (Option Nat)}{wt S S0 E:List Nat}{P:List Rw}
theorem ln{x:Nat}:Ha (wt++[x])=Ha wt++[.int (Int.ofNat x)]:=List.map_append
set_option maxHeartbeats 1000000 in
theorem Mu(H:V2 C)(HF:z7 C)(lr:ro.length=met.length)(few:met.length<1000)(hd:d<10000)(hi:i<10000)(hj:j<10000)(low:∀ (i d:Nat),met[i]?=some (some d)→d<10000)(hw:wt.length<10000)
  (q1:met[j]?=some none→Q .none (Kk g (met.set j (some d)) (wt++[j]) b m s)) (q2:met[j]?=some (some d)→Q .none (Kk g met wt b m s)) (x:(met.length≤j∨∃ d',met[j]?=some (some d')∧d'≠d)→X (Kk g met wt b m s)) :
  B0 C 8 (.m 2 2) [Oq ro,.int (Int.ofNat j),.int (Int.ofNat d),.int (Int.ofNat i)] (Kk g met wt b m s) Q X:=by
 refine F0 H 4 0 rfl rfl (by decide) (Lu H ?_)
 refine Y2 (fun z=>?_) fun z=>?_
 ·have z:met.length≤j:=lr▸Int.ofNat_le.mp (Int.not_lt.mp (of_decide_eq_false (by refine P5 (Bool.not_eq_true' ..) ?_;exact z)))
  exact (HF (Nat.lt_trans hi (by decide)) (Nat.le_of_ble_eq_true rfl) (x (.inl z))).le (by decide)
 have z:j<met.length:=lr▸Int.ofNat_lt.mp (of_decide_eq_true (by refine P5 (Bool.not_eq_false' ..) ?_;exact z))
 obtain ⟨o,eo⟩:∃ o,met[j]?=some o:=⟨_,List.getElem?_eq_getElem z⟩
 have hlen:Nat.blt j (met.map ov).length=true:=Nat.ble_eq_true_of_le (show j<(met.map ov).length by refine f0 (List.length_map ..) ?_;exact z)
 induction o using Option.casesOn with
 | none =>
  have q1:=q1 eo
  unfold Kk at q1
  rw [List.map_set,ln] at q1
  refine M0 (X9 eo) (K0 hlen (K0 (Nat.ble_eq_true_of_le (show (Ha wt).length+1≤1000000 by unfold Ha;exact f0 (List.length_map ..) (ak hw (by simp +arith)))) q1))
 | some d0 =>
  refine M0 (X9 eo) (Y2 (fun y=>?_) fun y=>?_)
  ·have ne:d0≠d:=fun e=>by subst e;exact Bool.noConfusion ((Yd d0).symm.trans y)
   have h0:=low j d0 eo
   have xx:=x (.inr (C0 d0 eo ne))
   have b0:Nat.blt d0 1000000=true:=Nat.ble_eq_true_of_le (show d0+1≤1000000 from ak h0 (by simp +arith))
   have b1:Nat.blt d 1000000=true:=Nat.ble_eq_true_of_le (show d+1≤1000000 from ak hd (by simp +arith))
   refine K0 b0 fun s1 h1=>?_
   have l1:(j4++s1).length≤2000:=by refine f0 (PySem.Str.length_append ..) ?_;exact Nat.le_trans (Nat.add_le_add_left h1 _) (by decide)
   have l2:(j4++s1++x6).length≤3000:=by refine f0 (PySem.Str.length_append ..) ?_;exact Nat.le_trans (Nat.add_le_add_right l1 _) (by decide)
   refine K0 (Nat.ble_eq_true_of_le (Nat.le_trans h1 (by decide))) (K0 (Nat.ble_eq_true_of_le (Nat.le_trans l1 (by decide))) (K0 rfl (K0 b1 fun s2 h2=>?_)))
   have l3:(j4++s1++x6++s2).length≤10000:=by refine f0 (PySem.Str.length_append ..) ?_;exact Nat.le_trans (Nat.add_le_add l2 h2) (by decide)
   refine K0 (Nat.ble_eq_true_of_le (Nat.le_trans l2 (by decide))) (K0 (Nat.ble_eq_true_of_le (Nat.le_trans h2 (by decide))) ?_)
   exact (HF (Nat.lt_trans hj (by decide)) l3 xx).le (by decide)
  ·have e:d0=d:=by
    have y:(!(Int.ofNat d0==Int.ofNat d))=false:=y
    have z2:(Int.ofNat d0==Int.ofNat d)=true:=by cases h:(Int.ofNat d0==Int.ofNat d)<;>first|rfl|(rw [h] at y;exact Bool.noConfusion y)
    exact Int.ofNat.inj (eq_of_beq z2)
   exact q2 (e▸eo)
end
noncomputable def jV:V:=(nth cV 1).getD .none
noncomputable def eV:V:=(nth cV 2).getD .none
section
variable{C:Cx}{n N:Nat}{σ:y0}{Q:X0}{X:y0→Prop}{b:Bx}{m k i j d:Nat}{v:V}{p:Rw}{g:Gk}{s:Sl}{t:Nat}{met:List (Option Nat)}{Wt S S0 E:List Nat}{P:List Rw}{a:V}{x:Int}
theorem Yo{α:Type}{f:α→V}:∀ {l:List α} {i:Nat} {x:α},l[i]?=some x→nth (l.map f) i=some (f x)
 | _::_,0,_,e=>by obtain rfl:=Option.some.inj e;rfl
 | _::l,i+1,_,e=>Yo (l:=l) (i:=i) e
theorem K3.or{J:y0}(h:K3 J v p):U3 p∨p=rn J0:=by
 induction h using K3.casesOn with
 | fz h _=>exact .inl h
 | lv=>exact .inr rfl
 | rg i k t e1 e2=>exact .inl (tf e1)
theorem K3.ta{J:y0}(h:K3 J v p)(e:O0 p.op≠0):p.a = .int (Int.ofNat (Cd p.a)):=by
 induction h using K3.casesOn with
 | fz _ e2=>exact absurd e2 e
 | lv=>exact absurd rfl e
 | rg i k t e1 e2=>rfl
theorem YE(h:U3 p∨p=rn J0):ll (.str p.op) jV=some (Nat.blt 0 (O0 p.op))∧ll (.str p.op) eV=some (j6 J0 p.op||Nat.beq (O0 p.op) 1):=by
 rcases h with h|rfl
 ·induction h using U3.casesOn<;>exact ⟨rfl,rfl⟩
 ·exact ⟨rfl,rfl⟩
theorem Hi(H:V2 C)(HF:z7 C)(few:P.length<1000)(I:Cf P S S0 met Wt E)(r:l8 P S j d)(hd:d+4*N3 met≤4*P.length)(hj:j<10000)(hi:i<10000)(ea:a = .int (Int.ofNat j))(ex:x=Int.ofNat d)
  (ok:∀ met' Wt',Cf P S S0 met' Wt' E→met'[j]?=some (some d)→(∀ (i d:Nat),met[i]?=some (some d)→met'[i]?=some (some d))→Wt'.length+N3 met'=Wt.length+N3 met→N3 met'≤N3 met→Q .none (Kk g met' Wt' b m s)) (fl:Wm P S→X (Kk g met Wt b m s)) :
  B0 C 8 (.m 2 2) [Oq (P.map Rw.o),a,.int x,.int (Int.ofNat i)] (Kk g met Wt b m s) Q X:=by
 subst ea
 subst ex
 have hs:=I.sum
 refine Mu H HF ((List.length_map _).trans I.len.symm) (I.len.symm▸few) (ak few (ak few (ak few (ak few (ak hd (by simp +arith)))))) hi hj (fun i d e=>by have:=I.low i d e;exact ak few (ak few (ak few (ak few (ak this (by simp +arith)))))) (ak few (ak hs (by simp +arith))) (fun e=>?_) (fun e=>ok met Wt I e (fun Z Z h=>h) rfl (Nat.le_refl _)) fun h=>fl ?_
 ·have hn:=ad (d:=d) e
  exact ok _ _ (I.add e r hd) (List.getElem?_set_self (List.getElem?_eq_some_iff.mp e).1) (fun i d' h=>Fi e h) (by refine f0 (G8 ..) ?_;exact ar hn (by simp +arith)) (ae hn (by simp +arith))
 ·rcases h with h|⟨d',e,hne⟩
  ·exact W4 j d r (.inl (I.len▸h))
  ·exact W4 j d r (.inr (.inr (C0 d' (I.only j d' e) hne)))
set_option maxHeartbeats 1000000 in
theorem Pq(H:V2 C)(HF:z7 C)(G:F8 g.J g.rv P)(I:Cf P S S0 met Wt [i])(ei:met[i]?=some (some d))
  (ok:∀ met' Wt',Cf P S S0 met' Wt' []→Wt'.length+N3 met'=Wt.length+N3 met→Q .none (Kk g met' Wt' b m s)) (fl:∀ met' Wt',Wm P S→X (Kk g met' Wt' b m s)) :
  B0 C 12 (.m 2 6) [Oq (P.map Rw.o),.int (Int.ofNat i)] (Kk g met Wt b m s) Q X:=by
 have few:=G.few
 have hi:i<P.length:=I.len▸(List.getElem?_eq_some_iff.mp ei).1
 obtain ⟨p,ep⟩:∃ p,P[i]?=some p:=⟨_,List.getElem?_eq_getElem hi⟩
 refine A0 (G.row i p ep) fun v Z hv=>?_
 have ho:=hv.or
 obtain ⟨ej,ee⟩:=YE ho
 have er:nth (P.map Rw.o) i=some p.o:=Yo ep
 have hlow:=I.low i d ei
 have hr:=I.only i d ei
 refine F0 H 8 0 rfl rfl (by decide) (M0 er (M0 (X9 ei) ((fu H ho ?_).le (by decide))))
 refine Y2 (fun z=>?_) fun z=>?_
 ·exact (HF (ak few (ak hi (by simp +arith))) (Nat.le_of_ble_eq_true rfl) (fl _ _ (W4 i d hr (.inr (.inl (C0 p ep (Int.ofNat_lt.mp (of_decide_eq_true z)))))))).le (by decide)
 have hw:p.want≤d:=Int.ofNat_le.mp (Int.not_lt.mp (of_decide_eq_false z))
 have c4:j8 p≤4:=XE ho (P:=fun p=>j8 p≤4) (fun p h=>xf h) (Nat.zero_le _)
 have hout:p.out d+4*N3 met≤4*P.length:=have od:p.out d=d - p.want+j8 p:=rfl;ae od (ae (Nat.sub_add_cancel hw) (ak c4 (ak hlow (by simp +arith))))
 have eout:Int.ofNat d - Int.ofNat (S2 p).length+Int.ofNat (j8 p)=Int.ofNat (p.out d):=Uo hw
 -- the second reach
 have second:∀ {met' Wt'},Cf P S S0 met' Wt' [i]→(O0 p.op≠0→met'[Cd p.a]?=some (some (p.out d)))→met'[i]?=some (some d)→Wt'.length+N3 met'=Wt.length+N3 met→N3 met'≤N3 met →
   I4 (Li C 8 0) X M8.body.tl.tl.tl.tl [some (Oq (P.map Rw.o)),some (.int (Int.ofNat i)),some p.o,some (.int (Int.ofNat d)),some (.int (Int.ofNat (S2 p).length)),some (.int (Int.ofNat (j8 p)))] (Kk g met' Wt' b m s) (fun Z σ=>Q .none σ) Q:=fun {met' Wt'} I' hj ei' hsum hn=>by
  refine M0 ee (Y2 (fun y=>?_) fun y=>?_)
  ·have y:(j6 J0 p.op||Nat.beq (O0 p.op) 1)=false:=by cases h:(j6 J0 p.op||Nat.beq (O0 p.op) 1)<;>first|rfl|(rw [h] at y;exact Bool.noConfusion y)
   obtain ⟨y1,y2⟩:=Bool.or_eq_false_iff.mp y
   have sc:p.succ i=match O0 p.op with|0=>[i+1]|1=>[Cd p.a]|_=>[Cd p.a,i+1]:=by unfold Rw.succ;refine f0 (y1 ..) ?_<;>rfl
   have n1:O0 p.op≠1:=Nat.ne_of_beq_eq_false y2
   have key:(∀ x∈p.succ i,x=i+1∨(O0 p.op≠0∧x=Cd p.a))∧i+1∈p.succ i:=by
    refine f0 (sc ..) ?_
    revert n1
    cases O0 p.op with
    | zero=>exact fun Z=>⟨fun x h => .inl (List.mem_singleton.mp h),.head _⟩
    | succ n=>cases n with
     | zero=>exact fun z=>absurd rfl z
     | succ n=>exact fun Z=>⟨fun x h=>(List.mem_cons.mp h).elim (fun e => .inr ⟨nofun,e⟩) fun h => .inl (List.mem_singleton.mp h),.tail _ (.head _)⟩
   refine Hi (j:=i+1) (d:=p.out d) H HF few I' (.step i d (i+1) p hr ep hw key.2) (ak hout (ak hn (ak hn (ak hn (ak hn (by simp +arith)))))) (ak few (ak hi (by simp +arith))) (ak few (ak hi (by simp +arith))) rfl eout (fun met2 Wt2 I2 e2 up hs2 hn2=>?_) fun hb=>fl _ _ hb
   refine ok met2 Wt2 (I2.done (up _ _ ei') ep hw fun j hj'=>?_) (ar hsum (ar hs2 (by simp +arith)))
   rcases key.1 j hj' with rfl|⟨h,rfl⟩
   ·exact e2
   ·exact up _ _ (hj h)
  ·have y:(j6 J0 p.op||Nat.beq (O0 p.op) 1)=true:=by cases h:(j6 J0 p.op||Nat.beq (O0 p.op) 1)<;>first|rfl|(rw [h] at y;exact Bool.noConfusion y)
   refine ok met' Wt' (I'.done ei' ep hw fun j hj'=>?_) hsum
   unfold Rw.succ at hj'
   cases h:j6 J0 p.op with
   | true=>rw [h] at hj';exact (List.not_mem_nil hj').elim
   | false =>
    rw [h] at hj' y
    have e1:=Nat.eq_of_beq_eq_true y
    rw [e1] at hj'
    refine f0 (List.mem_singleton.mp hj' ..) ?_
    exact hj (e1▸nofun)
 refine M0 ej (Y2 (fun y=>?_) fun y=>?_)
 ·have n0:O0 p.op≠0:=Nat.ne_of_gt (Nat.le_of_ble_eq_true y)
  have hm:Cd p.a∈p.succ i:=by
   have hl:j6 J0 p.op=false:=ho.elim (fun h=>h.lv.2) fun e=>absurd (e▸rfl) n0
   unfold Rw.succ
   refine f0 (hl ..) ?_
   revert n0
   cases O0 p.op with
   | zero=>exact fun z=>absurd rfl z
   | succ n=>cases n with
    | zero=>exact fun Z => .head _
    | succ n=>exact fun Z => .head _
  have ht:=G.tg i p ep n0
  exact Hi (j:=Cd p.a) (d:=p.out d) H HF few I (.step i d _ p hr ep hw hm) (ak hout (by simp +arith)) (ak few (ak ht (by simp +arith))) (ak few (ak hi (by simp +arith))) (hv.ta n0) eout (fun met2 Wt2 I2 e2 up hs2 hn2=>second I2 (fun Z=>e2) (up _ _ ei) hs2 hn2) fun hb=>fl _ _ hb
 ·have z0:O0 p.op=0:=by
   revert y
   cases O0 p.op with
   | zero=>exact fun Z=>rfl
   | succ n=>exact fun y=>Bool.noConfusion (y.symm.trans (Nat.ble_eq_true_of_le (Nat.succ_le_succ (Nat.zero_le n))))
  exact second I (fun h=>absurd z0 h) ei rfl (Nat.le_refl _)
end
section
variable{C:Cx}{n N:Nat}{σ:y0}{Q R:X0}{X:y0→Prop}{b:Bx}{m k i j d:Nat}{v:V}{p:Rw}{g:Gk}{s:Sl}{t:Nat}{met:List (Option Nat)}{Wt S S0 E:List Nat}{P:List Rw}{a:V}{x:Int}{ro zs:List V}{NN:y0→y0→Prop}{o1 o2 o3:Option V}
noncomputable abbrev kρ(ro:List V)(o1 o2 o3:Option V):y0:=[some (Oq ro),o1,o2,o3]
noncomputable abbrev BH:V := .a .tup [.str d5,.str V3]
theorem QB(h:U3 p∨p=rn J0):(∃ a c op,p=rs op (bI a) (bI c)∧ll (.str p.op) BH=some true)∨ll (.str p.op) BH=some false:=by
 rcases h with h|rfl
 ·induction h using U3.casesOn with
  | getl i j=>exact .inl (Fv i j _ rfl rfl)
  | setl i j=>exact .inl (Fv i j _ rfl rfl)
  | _=>exact .inr rfl
 ·exact .inr rfl
noncomputable def ZG(k:Nat)(l:List V):List V:=(l.zipIdx k).map fun p => .a .tup [.int p.2,p.1]
theorem ch(H:V2 C){ro:List V}(q:∀ o1 o2,NN (kρ ro o1 o2 o3) σ):∀ {P:List Rw} {k:Nat} {o1 o2:Option V},(∀ p∈P,(U3 p∨p=rn J0)∧(O0 p.op≠0→Cd p.a<ro.length)) →
  P3 (fun ρ σ N=>I4 (cO C 12) X J3.body.tl.hd.fb ρ σ N R) [1,2] true (R8 none zs) (ZG k (P.map Rw.o)) (kρ ro o1 o2 o3) σ NN
 | [],k,o1,o2,_=>q o1 o2
 | p::P,k,o1,o2,h=>by
  obtain ⟨h1,h2⟩:=h p (.head _)
  have go:=ch H q (P:=P) (k:=k+1) (o1:=some (.int (Int.ofNat k))) (o2:=some p.o) fun p hp=>h p (.tail _ hp)
  show I4 (cO C 12) X J3.body.tl.hd.fb (kρ ro (some (.int (Int.ofNat k))) (some p.o) o3) σ (fun ρ σ=>P3 (fun ρ σ N=>I4 (cO C 12) X J3.body.tl.hd.fb ρ σ N R) [1,2] true (R8 none zs) (ZG (k+1) (P.map Rw.o)) ρ σ NN) R
  refine (Zx H h1 h2 ?_).le (by decide)
  rcases QB h1 with ⟨a,c,op,e,f⟩|f
  ·refine M0 f ?_
   subst e
   exact (Ju H ((Ck H h1 go).le (by decide))).le (by decide)
  ·exact M0 f ((Ck H h1 go).le (by decide))
theorem Nu:(Ha S).length=S.length:=List.length_map _
theorem Af(H:V2 C)(HF:z7 C)(G:F8 g.J g.rv P)(hS:g.sv=Ha S)(hs1:∀ s∈S,s<1000)(fl:∀ met' Wt',Wm P S→X (Kk g met' Wt' b m s))(ok:∀ met' Wt' o,Cf P S S met' Wt' []→NN (kρ (P.map Rw.o) o1 o2 o) (Kk g met' Wt' b m s)) :
  ∀ {S1 S0:List Nat} {met:List (Option Nat)} {Wt:List Nat} {o3:Option V},S0++S1=S→Cf P S S0 met Wt [] →
  P3 (fun ρ σ N=>I4 (cO C 12) X J3.body.tl.tl.tl.hd.fb ρ σ N R) [3] false (R8 (some 13) g.sv) (Ha S1) (kρ (P.map Rw.o) o1 o2 o3) (Kk g met Wt b m s) NN
 | [],S0,met,Wt,o3,e,I=>⟨rfl,by rw [List.append_nil] at e;subst e;exact ok met Wt o3 I⟩
 | s1::S1,S0,met,Wt,o3,e,I=>by
  have hm:s1∈S:=e▸List.mem_append_right _ (.head _)
  have hl:=hs1 s1 hm
  have nl:=yu (met:=met)
  refine ⟨rfl,(Hi (j:=s1) (d:=0) (i:=s1) H HF G.few I (.start s1 hm) (by rw [I.len] at nl;exact ak nl (ak nl (ak nl (ak nl (by simp +arith))))) (ak hl (by simp +arith)) (ak hl (by simp +arith)) rfl rfl (fun met2 Wt2 I2 e2 up Z Z=>?_) fun hb=>fl _ _ hb).le (by decide)⟩
  exact Af H HF G hS hs1 fl ok (S1:=S1) (S0:=S0++[s1]) (by refine f0 (List.append_assoc ..) ?_;exact e) ⟨I2.len,fun s hs=>(List.mem_append.mp hs).elim (I2.start s) fun hs=>List.mem_singleton.mp hs▸e2,I2.go,I2.only,I2.ws,I2.sum,I2.low⟩
end
section
variable{C:Cx}{n N:Nat}{σ:y0}{Q R:X0}{X:y0→Prop}{b:Bx}{m k i j d:Nat}{v:V}{p:Rw}{g:Gk}{s:Sl}{t:Nat}{met:List (Option Nat)}{Wt S S0 E:List Nat}{P:List Rw}{a:V}{x:Int}{ro zs:List V}{NN:y0→y0→Prop}{o1 o2 o3:Option V}
set_option maxHeartbeats 1000000 in
theorem RB(H:V2 C)(HF:z7 C)(G:F8 g.J g.rv P)(hS:g.sv=Ha S)(nS:S≠[])(hs1:∀ s∈S,s<1000)
  (ok:∀ met',Lq P S met'→Q .none (Kk g met' [] b m s)) (fl:∀ met' Wt',Wm P S→X (Kk g met' Wt' b m s)) :
  B0 C 16 (.m 2 8) [Oq (P.map Rw.o)] (Kk g (List.replicate P.length none) [] b m s) Q X:=by
 have h0:(Int.ofNat g.sv.length==0)=false:=by
  refine f0 (hS ..) (f0 (Nu ..) ?_)
  induction S using List.casesOn with
  | nil=>exact absurd rfl nS
  | cons=>rfl
 have few:=G.few
 have hro:(P.map Rw.o).length=P.length:=List.length_map _
 have hP:∀ p∈P,(U3 p∨p=rn J0)∧(O0 p.op≠0→Cd p.a<(P.map Rw.o).length):=fun p hp=>by
  obtain ⟨i,hi,e⟩:=List.mem_iff_getElem.mp hp
  have ep:P[i]?=some p:=by rw [List.getElem?_eq_getElem hi,e]
  refine A0 (G.row i p ep) ?_;intro v _ hv
  exact ⟨hv.or,fun z=>hro.symm▸G.tg i p ep z⟩
 refine F0 H 12 0 rfl rfl (by decide) (L6 h0 ?_)
 refine ch (zs:=ZG 0 (P.map Rw.o)) (NN:=fun ρ σ=>I4 (cO C 12) X J3.body.tl.tl ρ σ (fun Z σ=>Q .none σ) Q) H (fun o1 o2=>?_) (P:=P) (k:=0) hP
 refine (Ku H ?_).le (by decide)
 refine sf hS ?_
 refine Af (NN:=fun ρ σ=>I4 (cO C 12) X J3.body.tl.tl.tl.tl ρ σ (fun Z σ=>Q .none σ) Q) H HF G hS hs1 fl (fun met Wt o I=>?_) (S1:=S) (S0:=[]) rfl Cf.init
 refine ⟨fun kk ρ σ=>∃ met Wt o1 o2 o3,kk=Wt.length+N3 met∧ρ=kρ (P.map Rw.o) o1 o2 o3∧σ=Kk g met Wt b m s∧Cf P S S met Wt [],⟨_,met,Wt,_,_,_,rfl,rfl,rfl,I⟩,fun kk ρ σ I=>?_⟩
 refine jr I ?_;(repeat clear I);intro met Wt o1 o2 o3 FI JI NI I;obtain rfl:=FI;obtain rfl:=JI;obtain rfl:=NI
 rcases List.eq_nil_or_concat Wt with rfl|⟨Wt,i,e⟩
 ·exact ok met I.sol
 ·rw [List.concat_eq_append] at e
  subst e
  obtain ⟨d,ei⟩:=I.ws i (List.mem_append_right _ (.head _))
  have hl:(Ha (Wt++[i])).length=Wt.length+1:=Nu.trans G8
  refine Ng (decide_eq_true (hl▸Int.ofNat_lt.mpr (Nat.succ_pos _))) ?_
  have e1:(Ha (Wt++[i])).getLast?=some (.int (Int.ofNat i)):=by refine f0 (ln ..) ?_;exact List.getLast?_concat
  have e2:(Ha (Wt++[i])).dropLast=Ha Wt:=by refine f0 (ln ..) ?_;exact List.dropLast_concat
  refine M0 e1 ?_
  show B0 C 12 (.m 2 6) [Oq (P.map Rw.o),.int (Int.ofNat i)] (Wr (Gk.w ⟨g.z,g.h,g.rv,g.sv,some (.a .lst (met.map ov)),some (.a .lst (Ha (Wt++[i])).dropLast),g.r18,g.J⟩ none none) b m s) _ X
  refine f0 (e2 ..) ?_
  exact Pq H HF G I.take ei (fun met2 Wt2 I2 hs=>C0 _ (by refine f0 (hs ..) (f0 (G8 ..) ?_);exact by simp +arith) ⟨met2,Wt2,o1,o2,o3,rfl,rfl,rfl,I2⟩) fl
theorem Ii{k:Nat}(h:gf v):Fa k v:=h.elim fun i e=>P1 (P:=Fa k) (l:=Ut) ⟨trivial,trivial,trivial,trivial⟩ e
theorem Dk{k:Nat}:∀ {kl:List V},(∀ v∈kl,gf v)→D4 k kl
 | [],_=>trivial
 | v::kl,h=>⟨Ii (h v (.head _)),Dk fun v hv=>h v (.tail _ hv)⟩
theorem UB{k:Nat}(h:U3 p∨p=rn J0):Fa k p.o:=by
 rcases h with h|rfl
 ·induction h using U3.casesOn with
  | push h=>exact ⟨trivial,h.nor,trivial,trivial,trivial,trivial⟩
  | only h=>exact ⟨trivial,Dk h,trivial,trivial,trivial,trivial⟩
  | has h=>exact ⟨trivial,Ii h,trivial,trivial,trivial,trivial⟩
  | tat h=>exact ⟨trivial,Ii h,trivial,trivial,trivial,trivial⟩
  | _=>exact ⟨trivial,trivial,trivial,trivial,trivial,trivial⟩
 ·exact ⟨trivial,trivial,trivial,trivial,trivial,trivial⟩
theorem Zo{k:Nat}:∀ {P:List Rw},(∀ p∈P,U3 p∨p=rn J0)→D4 k (P.map Rw.o)
 | [],_=>trivial
 | p::P,h=>⟨UB (h p (.head _)),Zo fun p hp=>h p (.tail _ hp)⟩
theorem bp{k:Nat}:∀ {n:Nat},D4 k (List.replicate n .none)
 | 0=>trivial
 | n+1=>⟨trivial,bp (n:=n)⟩
theorem Ou{k:Nat}:∀ {S:List Nat},D4 k (Ha S)
 | []=>trivial
 | _::S=>⟨trivial,Ou (S:=S)⟩
theorem Qq(H:V2 C)(h1:g.r16=none)(h2:g.r17=none){l:List V}(nl:D4 0 l)(few:l.length<1000)(hq:Q (Oq l) (Wr (Gk.w ⟨g.z,g.h,g.rv,g.sv,some (.a .lst (List.replicate l.length .none)),some (.a .lst []),g.r18,g.J⟩ none none) b m s)) :
  B0 C 6 (.g 2) [VE l,.a .tup [PB]] (Wr (g.w none none) b m s) Q X:=by
 obtain ⟨z,h,rv,sv,r16,r17,r18,J⟩:=g
 subst h1
 subst h2
 have nc:Fa 0 (VE l):=⟨trivial,trivial,trivial,⟨trivial,trivial,trivial⟩,nl,trivial,trivial,nofun,trivial,trivial⟩
 refine B0.gc 0 rfl (Mc (n:=5) H.ok (k:=0) (by decide) rfl (F0 H 0 1 rfl rfl (by decide) (K0 (Nat.ble_eq_true_of_le (Nat.le_trans (Nat.le_of_lt few) (by decide))) (C0 16 rfl ⟨17,rfl,.inr (i5 _ rfl ?_ ?_ hq)⟩))))
 ·exact ⟨nc,⟨nc,⟨trivial,trivial,trivial,⟨trivial,trivial,trivial⟩,trivial,trivial,trivial,⟨trivial,trivial⟩,trivial,trivial⟩,trivial⟩,nofun,nofun,trivial⟩
 ·exact ⟨.inl rfl,.inl rfl,.inl rfl,.inl rfl,.inl rfl,.inl rfl,.inl rfl,.inl rfl,.inl rfl,.inl rfl,.inl rfl,.inl rfl,.inl rfl,.inl rfl,.inl rfl,.inl rfl,.inr bp,.inr trivial,.inl rfl,Sf.refl _⟩
theorem Pu(H:V2 C)(HF:z7 C)(G:F8 g.J g.rv P)(h1:g.r16=none)(h2:g.r17=none)(hS:g.sv=Ha S)(nS:S≠[])(hs1:∀ s∈S,s<1000)
  (ok:∀ met',Lq P S met'→Q (.ref 16) (Kk g met' [] b m s)) (fl:∀ met' Wt',Wm P S→X (Kk g met' Wt' b m s)) :
  B0 C 20 (.g 29) [VE (P.map Rw.o),.a .tup [PB]] (Wr (g.w none none) b m s) Q X:=by
 have ho:∀ p∈P,U3 p∨p=rn J0:=fun p hp=>by
  obtain ⟨i,hi,e⟩:=List.mem_iff_getElem.mp hp
  refine A0 (G.row i p (by rw [List.getElem?_eq_getElem hi,e])) ?_;intro v _ hv
  exact hv.or
 have hro:(P.map Rw.o).length=P.length:=List.length_map _
 refine F0 H 16 0 rfl rfl (by decide) ((Qq H h1 h2 (Zo ho) (hro.symm▸G.few) ?_).le (by decide))
 refine f0 (hro ..) (f0 (JB ..) ?_)
 exact RB (g:=g) (b:=b) (m:=m) (s:=s) H HF G hS nS hs1 ok fl
end
section
variable{C:Cx}{n N:Nat}{σ:y0}{Q R:X0}{X:y0→Prop}{b:Bx}{m k i j d:Nat}{v:V}{p:Rw}{g:Gk}{s:Sl}{t:Nat}{met:List (Option Nat)}{Wt S S0 E:List Nat}{P:List Rw}{a:V}{x:Int}{ro zs:List V}{NN:y0→y0→Prop}{o1 o2 o3:Option V}
theorem dh{J:y0}{f:y0→y0→(Option V→y0→Prop)→Prop}{ρ:y0}{G:y0→Prop→Prop}{i:Nat}{Q:List V→y0→Prop}(hG:∀ K:Prop,K→G σ K)(hf:∀ v p,K3 J v p→∀ K:Option V→y0→Prop,K (some p.o) σ→f (R2 ρ i (some v)) σ K) :
  ∀ {xs:List V} {P:List Rw} {acc:List V},xs.length=P.length→(∀ (i:Nat) p,P[i]?=some p→∃ v,nth xs i=some v∧K3 J v p)→Q (acc++P.map Rw.o) σ→Z4 f ρ [i] false G xs σ acc Q
 | [],[],acc,_,_,q=>hG _ (List.append_nil acc▸q)
 | [],_::_,_,e,_,_=>nomatch e
 | _::_,[],_,e,_,_=>nomatch e
 | x::xs,p::P,acc,e,h,q=>hG _ (by
   refine A0 (h 0 p rfl) fun v ev hv=>?_
   obtain rfl:=Option.some.inj ev
   exact hf x p hv _ (dh hG hf (P:=P) (Nat.succ.inj e) (fun i q eq=>h (i+1) q eq) (by refine f0 (List.append_assoc ..) ?_;exact q)))
theorem ZE{u:V}{met:List (Option Nat)}{wt:List Nat}(h1:g.r16=none)(h2:g.r17=none)(hv:Rf 17 (.a .lst (Ha wt)) u=u)(q:Q (Rf 16 (.a .lst (met.map ov)) u) (Wr (g.w none none) b m s)) :
  GC 17 (Wr (g.w none none) b m s) (GC 16 (Wr (g.w none none) b m s) Q) u (Kk g met wt b m s):=by
 obtain ⟨z,h,rv,sv,r16,r17,r18,J⟩:=g
 subst h1
 subst h2
 refine .inr (i5 _ rfl Ou ?_ (.inr (i5 (.a .lst (met.map ov)) rfl (O7 met) ?_ (hv.symm▸q))))
 ·exact ⟨.inl rfl,.inl rfl,.inl rfl,.inl rfl,.inl rfl,.inl rfl,.inl rfl,.inl rfl,.inl rfl,.inl rfl,.inl rfl,.inl rfl,.inl rfl,.inl rfl,.inl rfl,.inl rfl,.inr (O7 met),.inl rfl,.inl rfl,Sf.refl _⟩
 ·exact Sf.refl _
set_option maxHeartbeats 1000000 in
theorem Ji(H:V2 C)(HF:z7 C)(G:F8 g.J g.rv P)(h1:g.r16=none)(h2:g.r17=none)(hS:g.sv=Ha S)(nS:S≠[])(hs1:∀ s∈S,s<1000)
  (ok:∀ met',Lq P S met'→Q (.a .lst (met'.map ov)) (Wr (g.w none none) b m s)) (bad:Wm P S→Q .none (Wr (g.w none none) b m s)) :
  B0 C 25 (.g 82) [.ref 12,.ref 13] (Wr (g.w none none) b m s) Q X:=by
 refine B0.gc 16 h1 (B0.gc 17 h2 (F0 H 20 1 rfl rfl (by decide) ?_))
 refine dh (J:=g.J) (fun K k=>⟨rfl,k⟩) (fun v p hv K k=>?_) G.len G.row ?_
 ·induction hv using K3.casesOn with
  | fz h e=>exact k
  | lv=>exact k
  | rg i kk t e1 e2 =>
   have hd:=L9 (g:=g) (b:=b) (m:=m) (s:=s) e2
   exact Z3 hd rfl (Z3 hd rfl (Z3 hd rfl (Z3 hd rfl k)))
 ·refine (Pu H HF G h1 h2 hS nS hs1 (fun met so=>?_) fun met wt hb=>?_).le (by decide)
  ·exact ZE (wt:=[]) h1 h2 rfl (ok met so)
  ·exact ZE h1 h2 rfl (bad hb)
end
section
variable{C:Cx}{n N:Nat}{σ:y0}{Q R:X0}{X:y0→Prop}{b:Bx}{m k i j d:Nat}{v:V}{p:Rw}{g:Gk}{s:Sl}{NN:y0→y0→Prop}{τ:y0}{zs:List V}
theorem Qu(x:Int){y:Int}(h:0<y):∃ n:Nat,x % y=Int.ofNat n:=⟨_,(Int.toNat_of_nonneg (Int.emod_nonneg x (Int.ne_of_gt h))).symm⟩
theorem XB{a:Bool}:(a||true)=true:=Bool.or_true a
noncomputable abbrev xρ(l:List V)(a b:Nat)(o:Option V):y0:=[some (.a .lst l),some (.int (Int.ofNat a)),some (.int (Int.ofNat b)),o]
theorem kI:(0:Int)<10 ^ 90:=by decide
theorem Ek(H:V2 C){sc:List V}(q:∀ a s o,s<10007→NN (xρ sc a s o) σ):∀ {xs:List V} {a s:Nat} {o:Option V},(∀ x∈xs,∃ i,x=V.int i)→s<10007 →
  P3 (fun ρ σ N=>I4 (cO C 0) X z6.body.tl.hd.fb ρ σ N R) [3] false (R8 none zs) xs (xρ sc a s o) σ NN
 | [],a,s,o,_,hs=>q a s o hs
 | x::xs,a,s,o,h,hs=>by
  obtain ⟨i,rfl⟩:=h x (.head _)
  have seed:∀ a,I4 (cO C 0) X z6.body.tl.hd.fb.tl (xρ sc a s (some (.int i))) σ (fun ρ σ=>P3 (fun ρ σ N=>I4 (cO C 0) X z6.body.tl.hd.fb ρ σ N R) [3] false (R8 none zs) xs ρ σ NN) R:=fun a=>by
   refine A0 (Ob (m:=10007) (Int.ofNat s*1009+i*31+17) (by decide)) fun d hd e=>?_
   refine K0 (mi (Nat.lt_trans hs (by decide))) (K0 XB ?_)
   show P3 _ [3] false (R8 none zs) xs [some (.a .lst sc),some (.int (Int.ofNat a)),some (.int ((Int.ofNat s*1009+i*31+17) % Int.ofNat 10007)),some (.int i)] σ NN
   refine f0 (e ..) ?_
   exact Ek H q (fun x hx=>h x (.tail _ hx)) hd
  refine Y2 (fun Z=>Y2 (fun Z=>?_) fun Z=>seed a) fun Z=>seed a
  obtain ⟨n,e⟩:=Qu (i - 10 ^ Int.toNat 18) (y:=10 ^ Int.toNat 90) kI
  show I4 (cO C 0) X z6.body.tl.hd.fb.tl [some (.a .lst sc),some (.int ((i - 10 ^ Int.toNat 18) % 10 ^ Int.toNat 90)),some (.int (Int.ofNat s)),some (.int i)] σ (fun ρ σ=>P3 (fun ρ σ N=>I4 (cO C 0) X z6.body.tl.hd.fb ρ σ N R) [3] false (R8 none zs) xs ρ σ NN) R
  refine f0 (e ..) ?_
  exact seed n
noncomputable def ay(a:Option V)(τ:y0):y0:=none::a::none::none::none::none::none::none::none::none::none::none::τ
theorem YB(H:V2 C){sc:List V}(hs:∀ x∈sc,∃ i,x=V.int i)(q:∀ b z,b.c=0→b.s<10007→Q (.ref 1) (ay (Ix b z) [])):B0 C 4 (.g 63) [.a .lst sc] (ay none []) Q X:=by
 refine F0 H 0 0 rfl rfl (by decide) ?_
 refine Ek (zs:=sc.take (clipAt sc.length 24)) (NN:=fun ρ σ=>I4 (cO C 0) X z6.body.tl.tl ρ σ (fun Z σ=>Q .none σ) Q) H (fun a s o hs'=>?_) (xs:=sc.take (clipAt sc.length 24)) (a:=0) (s:=1) (o:=none) (fun x hx=>hs x (List.mem_of_mem_take hx)) (by decide)
 induction sc using List.casesOn with
 | nil=>exact Exists.intro 1 ⟨rfl,q ⟨a,s,0⟩ true rfl hs'⟩
 | cons x sc =>
  obtain ⟨i,rfl⟩:=hs x (.head _)
  induction sc using List.casesOn with
  | nil=>exact C0 1 rfl (q ⟨a,s,0⟩ _ rfl hs')
  | cons y sc=>exact Exists.intro 1 ⟨rfl,q ⟨a,s,0⟩ false rfl hs'⟩
theorem Ru(H:V2 C)(HT:Fn C (.m 3 0) O4){x:Option V}(q:Q bk (none::x::none::none::none::some (.a (.ds []) [])::none::none::none::none::none::none::[])):B0 C 6 (.g 3) [.int 3,.none] (ay x []) Q X:=by
 refine B0.gc 0 rfl (Mc (n:=5) H.ok (k:=0) (by decide) rfl (ii (n:=4) H.ok (Lv.self C 4) HT (K0 rfl (C0 5 rfl (.inr (i5 _ rfl ?_ ?_ q))))))
 ·exact ⟨trivial,trivial,nofun,trivial,trivial,trivial,trivial⟩
 ·exact ⟨.inl rfl,.inl rfl,.inl rfl,.inl rfl,.inl rfl,.inr trivial,Sf.refl _⟩
end
section
variable{C:Cx}{n N:Nat}{σ:y0}{Q R:X0}{X:y0→Prop}{b:Bx}{m k i j d:Nat}{v:V}{p:Rw}{g:Gk}{s:Sl}{NN:y0→y0→Prop}{τ:y0}{zs:List V}{z h:Bool}{sc:List V}{met:List (Option Nat)}
theorem nw(H:V2 C){c:Nat}{l:List V}(e:fB (.g c) l=some v)(q:Q v (none::τ)):B0 C 3 (.g c) l (none::τ) Q X:=ji H.ok H.T (.g c) l v e τ Q X q
theorem dp:∀ {met:List (Option Nat)},K4 (n8 19) (met.map ov)=true∧Z6 (Q8 19) (met.map ov) (met.map ov)=true
 | []=>⟨rfl,rfl⟩
 | none::l=>dp (met:=l)
 | some d::l=>⟨(dp (met:=l)).1,by show (Int.ofNat d==Int.ofNat d&&_)=true;refine f0 (beq_self_eq_true ..) ?_;exact (dp (met:=l)).2⟩
theorem Su:cg (.a .lst (met.map ov)) (.a .lst (met.map ov))=some true:=by
 obtain ⟨h1,h2⟩:=dp (met:=met)
 have e:N9 (.a .lst (met.map ov)) (.a .lst (met.map ov))=false:=by show ((met.map ov).length !=(met.map ov).length)=false;exact bne_self_eq_false _
 have e2:n8 20 (.a .lst (met.map ov))=true:=h1
 have e3:Q8 20 (.a .lst (met.map ov)) (.a .lst (met.map ov))=true:=h2
 unfold cg
 refine f0 (e ..) (f0 (e2 ..) (f0 (e3 ..) ?_))
 rfl
noncomputable abbrev lρ(sc:List V)(f st:Int)(o7 o8 o9 o10:Option V):y0:=[some (.a .lst sc),some (.ref 1),some bk,some (.ref 2),some (.a .lst ((D3++K1).map V.str)),some (.int f),some (.int st),o7,o8,o9,o10]
theorem lI{bo r:Mine.S}{f st:Int}{w:Wk}{o7 o8 o9 o10:Option V}(h:∀ xs:List V,(∀ x∈xs,∃ i:Int,x=V.int i∧i.natAbs<1000)→xs.length≤14→P3 (fun ρ σ N=>I4 (cO C n) X bo ρ σ N R) [7] false (R8 none xs) xs (lρ sc f st o7 o8 o9 o10) (Wr w b m s) fun ρ σ=>I4 (Li C n 0) X r ρ σ NN R) :
  I4 (Li C n 0) X (.cons (.fr [7] false .range (.cons (.ite (.op .sub (.cons (.loc 1) (.cons (.k (.int 3)) .nil))) (.k (.int 3)) (.k (.int 14))) .nil) bo) r) (lρ sc f st o7 o8 o9 o10) (Wr w b m s) NN R:=by
 have hr:∀ n:Nat,n<1000→∀ x∈L4 0 n,∃ i:Int,x=V.int i∧i.natAbs<1000:=fun n hn x hx=>by
  refine A0 (List.mem_map.mp hx) ?_;intro i hi rI;obtain rfl:=rI
  have:=List.mem_range.mp hi
  exact C0 _ rfl (f0 (congrArg Int.natAbs (Int.zero_add _)) (Nat.lt_trans this hn))
 have a:=h (L4 0 3) (hr 3 (by decide)) (by decide)
 have c:=h (L4 0 14) (hr 14 (by decide)) (by decide)
 exact Y2 (b:=w.z) (A:=P3 (fun ρ σ N=>I4 (cO C n) X bo ρ σ N R) [7] false (R8 none (L4 0 3)) (L4 0 3) (lρ sc f st o7 o8 o9 o10) (Wr w b m s) fun ρ σ=>I4 (Li C n 0) X r ρ σ NN R) (B:=P3 (fun ρ σ N=>I4 (cO C n) X bo ρ σ N R) [7] false (R8 none (L4 0 14)) (L4 0 14) (lρ sc f st o7 o8 o9 o10) (Wr w b m s) fun ρ σ=>I4 (Li C n 0) X r ρ σ NN R) (fun Z=>a) (fun Z=>c)
end
section
variable{C:Cx}{n N:Nat}{σ:y0}{Q R:X0}{X:y0→Prop}{b:Bx}{m k i j d:Nat}{v:V}{p:Rw}{g:Gk}{s:Sl}{NN:y0→y0→Prop}{τ:y0}{zs:List V}{z h:Bool}{sc:List V}{met:List (Option Nat)}{o7 o8 o9 o10:Option V}{f st:Int}{w:Wk}
theorem cy{op:Str}(e:nth (D3++K1) i=some op):j6 J0 op=false:=P1 (P:=fun op=>j6 J0 op=false) (l:=D3++K1) ⟨rfl,rfl,rfl,rfl,rfl,rfl,rfl,rfl,rfl,rfl,rfl,rfl,rfl,rfl,rfl,rfl,rfl,rfl,rfl,rfl,rfl,rfl,rfl,trivial⟩ e
theorem aH{r:Rw}(h:RK r):O0 r.op=2→tgt r≠1000:=by
 induction h using RK.casesOn with
 | c i e =>
  have a:Ze (fun r=>O0 r.op≠2) oi:=by
   unfold oi;repeat (first|exact trivial|refine ⟨nofun,?_⟩)
  exact fun z=>absurd z (P1 a e)
 | j i e t ht=>exact fun Z z=>Nat.ne_of_lt ht (Int.ofNat.inj (show Int.ofNat t=Int.ofNat 1000 from z))
set_option maxHeartbeats 1000000 in
theorem Fk(H:V2 C){m0:Nat}(q:∀ b' m' s' o,m0≤m'→T4 m' s'→b'.lt k→NN (lρ sc f st o o8 o9 o10) (Wr w b' m' s')):∀ {xs:List V} {b:Bx} {m:Nat} {s:Sl} {o7:Option V},(∀ x∈xs,∃ i:Int,x=V.int i∧i.natAbs<1000)→m0≤m→3≤m→T4 m s→b.lt (k+17*xs.length) →
  P3 (fun ρ σ N=>I4 (cO C 35) X xo.body.tl.tl.tl.tl.tl.tl.hd.fb ρ σ N R) [7] false (R8 none zs) xs (lρ sc f st o7 o8 o9 o10) (Wr w b m s) NN
 | [],b,m,s,o7,_,h0,_,hs,hb=>q b m s o7 h0 hs hb
 | x::xs,b,m,s,o7,h,h0,h3,hs,hb=>by
  refine A0 (h x (.head _)) ?_;intro i rI hi;obtain rfl:=rI
  have hb:b.lt (k+17*xs.length+15+2):=hb
  refine A0 (Ob (m:=23) (f+i*st) (by decide)) fun d hd e=>?_
  refine A0 (Zb (f:=V.str) (l:=D3++K1) hd) fun op eo eo'=>?_
  have ei:ga ((D3++K1).map V.str) ((f+i*st) % 23)=some (.str op):=by
   refine f0 (show (f+i*st) % 23=Int.ofNat d from e) ?_;exact eo'
  refine E8 (K0 (mi (Nat.lt_trans hi (by decide))) (M0 ei ((Zj eo C H b w.z (k+17*xs.length+15) none _ _ X hb fun r b1 hr ho hb1=>?_).le (by decide))))
  have hf:U3 r:=(yE hr).elim id fun e=>by
   have z:=cy eo
   rw [←ho,e] at z
   exact Bool.noConfusion z
  refine (zk (k:=k+17*xs.length) (w:=w) (m:=m) (s:=s) H hf (.fz hf) h3 hs hb1 (aH hr) fun b2 m2 s2 hm hs2 hb2=>?_).le (by decide)
  exact Fk H q (fun x hx=>h x (.tail _ hx)) (Nat.le_trans h0 hm) (Nat.le_trans h3 hm) hs2 hb2
set_option maxHeartbeats 1000000 in
theorem dy(H:V2 C)(HF:z7 C){P:List Rw}{S:List Nat}{x8 x9:V}(h8:x8 = .ref 12)(h9:x9 = .ref 13)(G:F8 g.J g.rv P)(nb:Wm P S→False)(hS:g.sv=Ha S)(nS:S≠[])(hl:S.length≤4)(hs1:∀ s∈S,s<1000)(h0:0<P.length)(few:P.length≤160)(h16:g.r16=none)(h17:g.r17=none)(h3:3≤m)(hs:T4 m s)(hb:b.lt 3000) :
  I4 (cO C 35) X xo.body.tl.tl.tl.tl.tl.tl.tl.tl (lρ sc f st o7 (some x8) (some x9) o10) (Wr (g.w none none) b m s) (fun Z σ=>(fun v Z=>v=V.bool true:X0) .none σ) (fun v Z=>v=V.bool true):=by
 subst h8
 subst h9
 refine (So (k:=2000) H G hS (ak hl (by simp +arith)) h3 hs (Bx.le hb (ak few (ak few (ak few (ak few (ak few (by simp +arith))))))) (fun Z Z Z hB=>(nb hB).elim) fun met b1 m1 s1 so hi hm1 hs1' hb1=>?_).le (by decide)
 refine (Ji H HF G h16 h17 hS nS hs1 (fun met' so'=>?_) fun hB=>(nb hB).elim).le (by decide)
 obtain rfl:=so'.uniq so
 refine M0 Su ?_
 refine (bh (k:=1800) H G so hi hS nS (ak hl (by simp +arith)) (Nat.le_trans h3 hm1) hs1' (Bx.le hb1 (by decide)) fun b2 m2 s2 hm2 hs2 hb2=>?_).le (by decide)
 refine (Yx (k:=1700) H G h0 (ak few (by simp +arith)) hS nS hs1 (ak hl (by simp +arith)) (Bx.le hb2 (by decide)) fun g' P' S' b3 e1 e2 e3 e4 G' lP hS' nS' hs1'' lS hb3=>?_).le (by decide)
 have h3':3≤m2:=Nat.le_trans (Nat.le_trans h3 hm1) hm2
 refine (So (k:=500) H G' hS' (ak hl (ak lS (by simp +arith))) h3' hs2 (Bx.le hb3 (ak lP (ak lP (ak lP (ak lP (ak lP (ak few (ak few (ak few (ak few (ak few (by simp +arith)))))))))))) (fun b4 m4 s4 hB hm4 hs4 hb4=>?_) fun met b4 m4 s4 so hi hm4 hs4 hb4=>?_).le (by decide)
 ·refine (Ji H HF G' (e3.trans h16) (e4.trans h17) hS' nS' hs1'' (fun met' so'=>(hB.no so'.start so'.go).elim) fun Z=>?_).le (by decide)
  exact rfl
 ·refine (Ji H HF G' (e3.trans h16) (e4.trans h17) hS' nS' hs1'' (fun met' so'=>?_) fun hB=>(hB.no so.start so.go).elim).le (by decide)
  obtain rfl:=so'.uniq so
  refine M0 Su ?_
  exact (bh (k:=100) H G' so hi hS' nS' (ak hl (ak lS (by simp +arith))) (Nat.le_trans h3' hm4) hs4 (Bx.le hb4 (by decide)) fun b2 m2 s2 hm2 hs2 hb2=>rfl).le (by decide)
end
section
variable{C:Cx}{n N:Nat}{σ:y0}{Q R:X0}{X:y0→Prop}{b:Bx}{m k i j d:Nat}{v:V}{p:Rw}{g:Gk}{s:Sl}{NN:y0→y0→Prop}{τ:y0}{zs:List V}{z h:Bool}{sc:List V}{met:List (Option Nat)}{o7 o8 o9 o10:Option V}{f st:Int}{w:Wk}
set_option maxHeartbeats 1000000 in
theorem ZB(H:V2 C)(HF:z7 C)(HT:Fn C (.m 3 0) O4)(hs:∀ x∈sc,∃ i,x=V.int i):B0 C 39 (.g 84) [.a .lst sc] (ay none []) (fun v Z=>v = .bool true) X:=by
 refine F0 H 35 0 rfl rfl (by decide) ((YB H hs fun b z hc hb=>?_).le (by decide))
 refine (Ru H HT ?_).le (by decide)
 refine (nw H rfl ?_).le (by decide)
 refine (nw H rfl ?_).le (by decide)
 refine C0 2 rfl ((Ed H ((M6 H ?_).le (by decide))).le (by decide))
 have hb:b.lt (9000+1+1+1):=⟨by refine f0 (hc ..) ?_;decide,hb⟩
 refine (J7 (m:=23) H hb (by decide) (by decide) fun d1 b1 yC hb1=>?_).le (by decide)
 refine (J7 (m:=22) H hb1 (by decide) (by decide) fun d2 b2 gH hb2=>?_).le (by decide)
 refine C0 3 rfl ⟨4,rfl,(nw H rfl ((nw H rfl ?_).le (by decide))).le (by decide)⟩
 refine (J7 (m:=2) H hb2 (by decide) (by decide) fun d3 b3 hH hb3=>?_).le (by decide)
 refine A0 (K7 (P:=fun y=>∃ h,y=uE h) (l:=[bk,.int 7]) ⟨⟨true,rfl⟩,⟨false,rfl⟩,trivial⟩ hH) ?_;(repeat clear y);intro y ey rI;obtain ⟨h,rfl⟩:=rI
 refine M0 ey ((nw H rfl ?_).le (by decide))
 have s0:T4 3 ⟨.int 5,.int 6,.int 8,.int 9⟩:=fun i j=>by induction i using Bool.casesOn<;>induction j using Bool.casesOn<;>exact ⟨_,.p rfl⟩
 refine lI (w:=⟨z,h,[]⟩) (b:=b3) (m:=3) (s:=⟨.int 5,.int 6,.int 8,.int 9⟩) (sc:=sc) (f:=Int.ofNat d1) (st:=1+Int.ofNat d2) fun xs hx hl=>?_
 refine Fk (k:=8000) (m0:=3) (w:=⟨z,h,[]⟩) H (NN:=fun ρ σ=>I4 (Li C 35 0) X xo.body.tl.tl.tl.tl.tl.tl.tl ρ σ (fun Z σ=>(fun v Z=>v=V.bool true:X0) .none σ) fun v Z=>v=V.bool true) (fun b4 m4 s4 o h3 hs4 hb4=>?_) hx (Nat.le_refl 3) (Nat.le_refl 3) s0 (Bx.le hb3 (by omega))
 refine Xx (k:=7000) (z:=z) (hh:=h) H (Bx.le hb4 (by decide)) fun g P S b5 e1 e2 G nb hS nS hl hs1 h0 few h16 h17 hb5=>?_
 exact dy H HF rfl rfl G nb hS nS hl hs1 h0 few h16 h17 h3 hs4 (Bx.le hb5 (by decide))
end
noncomputable def gp:FuncBody→Option (List Stmt)
 | .stmts b=>some b
 | _=>none
noncomputable def LF:List Str→Bool
 | []=>true
 | x::r=>!r.contains x&&LF r
noncomputable def aF(ns:List Str)(sc:Scope):M5:=⟨sc,(ns++((sc.names.filter fun x=>x.2 == .local||x.2 == .cell).map (·.1)).filter fun x=>!ns.contains x).zipIdx,(ns++((sc.names.filter fun x=>x.2 == .local||x.2 == .cell).map (·.1)).filter fun x=>!ns.contains x).length⟩
noncomputable def Rq(P:List Str→M5→List Stmt→Bool)(df:List V)(q:Iz):Bool:=m9 q.1&&(gp q.2.1).any fun body=>LF (q.1.args.map (·.arg))&&((q.1.args.map (·.arg)).all fun x=>Y6 ((aF (q.1.args.map (·.arg)) q.2.2).kd x))&&!q.2.2.isCoroutine&&!q.2.2.isGenerator&&q.2.2.kind == .function&&Nat.ble df.length (q.1.args.map (·.arg)).length &&
 P (q.1.args.map (·.arg)) (aF (q.1.args.map (·.arg)) q.2.2) body
noncomputable def CH(fd:FD)(ns:List Str)(b:M5)(body:List Stmt):Bool:=Nat.beq ns.length fd.ar&&(VD fd.body).2 b body
noncomputable def MF:List (V×FD):=(yq++yx).map (fun p=>(.g p.1,p.2))++((zq++zx).map (fun p=>(.m (p.1 / 16) (p.1 % 16),p.2))++[(.m 3 0,O4)])
theorem fy:MF.map (fun p=>(p.1,p.2.df))=UC:=rfl
theorem Hk{α β δ:Type}{f:α→β→Bool}{g:δ→α}:∀ {l:List δ} {m:List β},jb f (l.map g) m=jb (fun x y=>f (g x) y) l m
 | [],[]=>rfl
 | [],_::_=>rfl
 | _::_,[]=>rfl
 | x::l,y::m=>congrArg (f (g x) y&&·) (Hk (l:=l) (m:=m))
theorem Tu{γ:Gt}(h:Xf γ=true):jb (fun (p:V×FD) k=>(VC γ p.1).any (ie γ k p.2.df)) MF kL=true:=by
 unfold Xf at h
 rw [←fy,Hk] at h
 exact h
theorem N6{v:Value}{a:Addr}:I8 v=some a→v = .ref a:=by
 induction v using Value.casesOn with|ref b=>exact fun h=>(Option.some.inj h)▸rfl|_=>exact nn
theorem Uu{v:Value}{a:Int}:xy v=some a→∃ t,v = .int a t:=by
 induction v using Value.casesOn with|int b t=>exact fun h=>⟨t,(Option.some.inj h)▸rfl⟩|_=>exact nn
theorem dc{v:Value}{a:Str}:jd v=some a→∃ t,v = .str a t:=by
 induction v using Value.casesOn with|str b t=>exact fun h=>⟨t,(Option.some.inj h)▸rfl⟩|_=>exact nn
theorem gy{α:Type}{o:Option (Option α)}{a:α}:o.join=some a→o=some (some a):=by
 induction o using Option.casesOn with
 | none=>exact nn
 | some o=>exact fun h=>congrArg some h
noncomputable abbrev CC(w:World)(γ:Gt)(B:Heap):Cx:=⟨w,Kg γ,B⟩
noncomputable def A7(γ:Gt):Prop:=(kc γ).map (fun e=>jd e.key)=Sk.map some
theorem ip:∀ {l:List DictEntry} {ns:List Str},l.map (fun e=>jd e.key)=ns.map some→∀ x:Str,l.find? (·.key.isStr x)=(ns.findIdx? (·==x)).bind (fun p=>l[p]?)∧l.any (·.refKey)=false
 | [],ns,h,x=>by induction ns using List.casesOn with
  | nil=>exact ⟨rfl,rfl⟩
  | cons=>exact nomatch h
 | e::l,ns,h,x=>by induction ns using List.casesOn with
  | nil=>exact nomatch h
  | cons n ns =>
   obtain ⟨h1,h2⟩:=List.cons.inj h
   obtain ⟨w1,w2⟩:=ip h2 x
   obtain ⟨t,ek⟩:=dc h1
   have es:e.key.isStr x=(n==x):=by refine f0 (ek ..) ?_;rfl
   have er:e.refKey=false:=by unfold DictEntry.refKey;exact f0 (ek ..) rfl
   refine ⟨?_,by refine f0 (List.any_cons ..) (f0 (er ..) (f0 (w2 ..) ?_));rfl⟩
   rw [List.find?_cons,es,List.findIdx?_cons]
   cases n==x with
   | true=>rfl
   | false =>
    refine w1.trans ?_
    cases ns.findIdx? (·==x)<;>rfl
section
variable{γ:Gt}{x:Str}{p:Nat}{v:Value}
theorem Ki(hk:A7 γ):nsIn (Kg γ) mainGlobals x=match (Sk.findIdx? (·==x)).bind (fun p=>(kc γ)[p]?) with|some e=>some (some e.val)|none=>some none:=by
 unfold A7 at hk
 cases h:γ mainGlobals with
 | none =>
  have:kc γ=[]:=by unfold kc;refine f0 (h ..) ?_;rfl
  rw [this] at hk
  exact nomatch hk
 | some o =>
  obtain ⟨c,d,dt,sl⟩:=o
  have key:∀ {dt'},dt=dt'→OC ⟨c,d,dt',sl⟩=none→False:=fun e z=>by
   have:kc γ=[]:=by unfold kc;refine f0 (h ..) (f0 (e ..) (f0 (Option.bind_some ..) (f0 (z ..) ?_)));rfl
   rw [this] at hk
   exact nomatch hk
  induction dt using Data.casesOn with
  | dict es n =>
   have e1:kc γ=es.toList:=by unfold kc;refine f0 (h ..) ?_;rfl
   rw [e1] at hk ⊢
   obtain ⟨w1,w2⟩:=ip hk x
   have e2:(Kg γ).lookup mainGlobals=some ⟨c,d,.dict es n,sl⟩:=by
    show some ((γ mainGlobals).getD default)=_
    refine f0 (h ..) ?_;rfl
   unfold nsIn
   refine f0 (e2 ..) ?_
   dsimp only
   refine f0 (w1 ..) (f0 (w2 ..) ?_)
   cases (Sk.findIdx? (·==x)).bind (fun p=>es.toList[p]?)<;>rfl
  | _=>exact (key rfl rfl).elim
theorem yz(hk:A7 γ)(h:Sk.findIdx? (·==x)=none):nsIn (Kg γ) mainGlobals x=some none:=by refine f0 (Ki hk ..) (f0 (h ..) ?_);rfl
theorem Vu(hk:A7 γ)(h:Sk.findIdx? (·==x)=some p)(hv:Qk γ (some p)=some v):nsIn (Kg γ) mainGlobals x=some (some v):=by
 refine A0 (Option.map_eq_some_iff.mp hv) ?_;intro e e1 rI;obtain rfl:=rI
 rw [Ki hk,h,Option.bind_some,show (kc γ)[p]?=some e from e1]
theorem zz(hk:A7 γ)(h:Sk.findIdx? (·==x)=some p)(hv:nsIn (Kg γ) mainGlobals x=some (some v)):Qk γ (some p)=some v:=by
 rw [Ki hk,h,Option.bind_some] at hv
 show ((kc γ)[p]?).map (·.val)=some v
 cases e:(kc γ)[p]? with
 | none=>rw [e] at hv;exact nomatch Option.some.inj hv
 | some e'=>rw [e] at hv;exact Option.some.inj hv
theorem jp:∀ i,i<gS.length→Sk.findIdx? (·==gN i)=kr[i]?∧kr[i]?.isSome=true:=by
 have h:(List.range gS.length).all (fun i=>Sk.findIdx? (·==gN i)==kr[i]?&&kr[i]?.isSome)=true:=by kernel_rfl
 exact fun i hi=>(b2 (List.all_eq_true.mp h i (List.mem_range.mpr hi))).imp eq_of_beq id
theorem iy:∀ i,i<cV.length→Sk.findIdx? (·==nm cS i)=Ti[i]?∧Ti[i]?.isSome=true:=by
 have h:(List.range cV.length).all (fun i=>Sk.findIdx? (·==nm cS i)==Ti[i]?&&Ti[i]?.isSome)=true:=by kernel_rfl
 exact fun i hi=>(b2 (List.all_eq_true.mp h i (List.mem_range.mpr hi))).imp eq_of_beq id
theorem jy:∀ i,i<bS.length→Sk.findIdx? (·==bN i)=none:=by
 have h:(List.range bS.length).all (fun i=>Sk.findIdx? (·==bN i)==none)=true:=by kernel_rfl
 exact fun i hi=>eq_of_beq (List.all_eq_true.mp h i (List.mem_range.mpr hi))
theorem lp:Sk.findIdx? (·==("BadRows":Str))=some 11:=by kernel_rfl
theorem ly:Sk.findIdx? (·==gN gS.length)=none:=by kernel_rfl
theorem Mi{i:Nat}{a:Addr}(hk:A7 γ)(hi:i<gS.length)(h:mc γ i=some a):nsIn (Kg γ) mainGlobals (gN i)=some (some (.ref a)):=by
 refine A0 (Option.bind_eq_some_iff.mp h) ?_;(repeat clear h);intro v e h
 obtain ⟨h1,h2⟩:=jp i hi
 obtain ⟨p,ep⟩:=Option.isSome_iff_exists.mp h2
 rw [ep] at h1 e
 exact N6 h▸Vu hk h1 e
theorem qp{i:Nat}{a:Addr}(hk:A7 γ)(hi:i<gS.length)(h:nsIn (Kg γ) mainGlobals (gN i)=some (some (.ref a))):mc γ i=some a:=by
 obtain ⟨h1,h2⟩:=jp i hi
 obtain ⟨p,ep⟩:=Option.isSome_iff_exists.mp h2
 rw [ep] at h1
 have:=zz hk h1 h
 unfold mc
 refine f0 (ep ..) (f0 (this ..) ?_);rfl
end
theorem Ik{o:Obj}{its:Array Value}(h:mr o=some its):o.cls = .type "tuple"∧∃ n,o.data = .seq its n:=by
 obtain ⟨c,d,dt,sl⟩:=o
 induction dt using Data.casesOn with
 | seq xs n=>obtain ⟨z,rfl⟩:=Dc h;exact ⟨eq_of_beq z,n,rfl⟩
 | _=>exact nn h
theorem Wu{o:Obj}{es:Array DictEntry}(h:Bn o=some es):o.ExactDict∧∃ n,o.data = .dict es n:=by
 obtain ⟨c,d,dt,sl⟩:=o
 induction dt using Data.casesOn with
 | dict xs n =>
  obtain ⟨z,rfl⟩:=Dc h
  obtain ⟨z,h3⟩:=b2 z
  obtain ⟨h1,h2⟩:=b2 z
  exact ⟨(V0 (eq_of_beq h1) (Option.isNone_iff_eq_none.mp h2) (eq_of_beq h3)),n,rfl⟩
 | _=>exact nn h
theorem Xu{o:Obj}{f:FuncData}(h:qr o=some f):o.data = .func f:=by
 obtain ⟨c,d,dt,sl⟩:=o
 induction dt using Data.casesOn with
 | func g=>exact congrArg Data.func (Option.some.inj h)
 | _=>exact nn h
theorem Yu{o:Obj}{f:ClassData}(h:yy o=some f):o.data = .cls f:=by
 obtain ⟨c,d,dt,sl⟩:=o
 induction dt using Data.casesOn with
 | cls g=>exact congrArg Data.cls (Option.some.inj h)
 | _=>exact nn h
theorem Zu{o:Obj}{f:Array Value}(h:zy o=some f):o.data = .fields f:=by
 obtain ⟨c,d,dt,sl⟩:=o
 induction dt using Data.casesOn with
 | fields g=>exact congrArg Data.fields (Option.some.inj h)
 | _=>exact nn h
theorem av{f:FuncBody}{b:List Stmt}(h:gp f=some b):f = .stmts b:=by
 induction f using FuncBody.casesOn with
 | stmts g=>exact congrArg FuncBody.stmts (Option.some.inj h)
 | _=>exact nn h
theorem pn:∀ {l:List Str},LF l=true→l.Nodup
 | [],_ => .nil
 | x::l,h=>List.nodup_cons.mpr ⟨fun m=>by
   have:=(b2 h).1
   rw [List.contains_iff_mem.mpr m] at this
   exact Bool.noConfusion this,pn (b2 h).2⟩
section
variable{w:World}{γ:Gt}{B:Heap}{t:St}{h:Heap}
theorem sp{b:Addr}:¬Jy.foot b:=fun f=>f.elim id fun f=>f.elim fun k z=>z.1.elim fun v e=>by cases k<;>exact nn e.symm.symm
theorem bv(hk:A7 γ){v:V}{r:Value}(e:tF γ v r=true):G0 (CC w γ B) t h v r:=by
 induction v using V.casesOn with
 | none=>exact eq_of_beq e
 | bool b=>exact eq_of_beq e
 | int i=>refine A0 (P0 e) fun j e1 e2=>?_;obtain rfl:=eq_of_beq e2;exact Uu e1
 | str s=>refine A0 (P0 e) fun j e1 e2=>?_;obtain rfl:=eq_of_beq e2;exact dc e1
 | g x =>
  obtain ⟨e1,e⟩:=b2 e
  refine A0 (P0 e) fun a e2 e3=>?_
  have hl:=Nat.le_of_ble_eq_true e1
  exact ⟨hl,N6 e2▸Mi hk hl (eq_of_beq e3)⟩
 | _=>exact Bool.noConfusion e
theorem be{f:V→Value→Bool}(hf:∀ v r,f v r=true→G0 (CC w γ B) t h v r):∀ {xs:List V} {rs:List Value},jb f xs rs=true→E0 (CC w γ B) t h xs rs
 | [],[],_=>rfl
 | [],_::_,e=>Bool.noConfusion e
 | _::_,[],e=>Bool.noConfusion e
 | x::xs,r::rs,e=>L1 r rs rfl (hf x r (b2 e).1) (be hf (b2 e).2)
theorem ce(hk:A7 γ)(hg:∀ a o,γ a=some o→B.get? a=some o){v:V}{r:Value}(e:Jv γ v r=true):G0 (CC w γ B) Jy B v r:=by
 induction v using V.casesOn with
 | a A xs=>induction A using Ag.casesOn with
  | tup =>
   refine A0 (P0 e) ?_;(repeat clear e);intro a e1 e
   refine A0 (P0 e) ?_;(repeat clear e);intro o e2 e
   refine A0 (P0 e) ?_;(repeat clear e);intro its e3 e
   obtain ⟨e4,e5⟩:=b2 e
   obtain ⟨c,uI⟩:=Ik e3;obtain ⟨n,d⟩:=uI
   exact W8 a a its.toList (N6 e1) sp sp ⟨rfl,its,(A2 o (hg _ _ e2) c ⟨n,d⟩),rfl,Nat.le_of_ble_eq_true e5⟩ (be (fun Z Z=>bv hk) e4)
  | _=>exact Bool.noConfusion e
 | _=>exact bv hk e
end
section
variable{w:World}{γ:Gt}{B:Heap}{t:St}{h:Heap}
theorem vp:∀ {ss:List Str} {es:List DictEntry},jb (fun s e=>(jd (DictEntry.key e)).any (·==s)) ss es=true→es.map (·.hash)=ss.map (hashStr w) →
  (∀ e∈es,∃ k,(strKind pw w).is k e.key=true∧e.hash=(strKind pw w).hash k)∧Pairs (strKind pw w) es (ss.zip (es.map (·.val)))∧(ss.zip (es.map (·.val))).map (·.1)=ss∧(ss.zip (es.map (·.val))).map (·.2)=es.map (·.val)
 | [],es=>by induction es using List.casesOn with
  | nil=>exact fun Z Z=>E3 (fun Z h=>(List.not_mem_nil h).elim) .nil rfl rfl
  | cons=>exact fun e=>Bool.noConfusion e
 | s::ss,es=>by induction es using List.casesOn with
  | nil=>exact fun e=>Bool.noConfusion e
  | cons e es =>
  intro q hh
  obtain ⟨q1,q2⟩:=b2 q
  refine A0 (P0 q1) fun k e1 e2=>?_
  obtain rfl:=eq_of_beq e2
  obtain ⟨tk,ek⟩:=dc e1
  obtain ⟨h1,h2⟩:=List.cons.inj hh
  refine R7 (vp q2 h2) fun w1 w2 w3 w4=>?_
  have hk:(strKind pw w).is k e.key=true:=by refine f0 (ek ..) ?_;exact strKind_is pw w k tk
  exact E3 (fun e' he=>(List.mem_cons.mp he).elim (fun z=>z▸(C0 k hk h1)) (w1 e')) (.cons hk rfl w2) (congrArg (_::·) w3) (congrArg (_::·) w4)
theorem aC(hk:A7 γ)(hg:∀ a o,γ a=some o→B.get? a=some o){v:V}{r:Value}(hn:∀ ss xs,v = .a (.ds ss) xs→ss.Nodup)(hh:∀ ss xs a,v = .a (.ds ss) xs→r = .ref a→∀ o es,γ a=some o→Bn o=some es→es.toList.map (·.hash)=ss.map (hashStr w))(e:kH γ v r=true):G0 (CC w γ B) Jy B v r:=by
 induction v using V.casesOn with
 | a A xs=>induction A using Ag.casesOn with
  | ds ss =>
   refine A0 (P0 e) ?_;(repeat clear e);intro a e1 e
   obtain ⟨e0,e⟩:=b2 e
   refine A0 (P0 e) ?_;(repeat clear e);intro o e2 e
   refine A0 (P0 e) ?_;(repeat clear e);intro es e3 e
   obtain ⟨e4,e5⟩:=b2 e
   have er:=N6 e1
   obtain ⟨ex,wI⟩:=Wu e3;obtain ⟨n,d⟩:=wI
   refine R7 (vp (w:=w) e4 (hh ss xs a rfl er o es e2 e3)) fun w1 w2 w3 w4=>?_
   exact W8 a a (es.toList.map (·.val)) er sp sp (V0 rfl (by refine P5 (Bool.not_eq_true' ..) ?_;exact e0) ⟨_,(Zq o es n (hg _ _ e2) ex d (fun e he=>w1 e (Array.mem_toList_iff.mpr he)) w2 (w3.symm▸hn ss xs rfl)),w3,w4⟩) (be (fun Z Z=>ce hk hg) e5)
  | _=>exact ce hk hg e
 | _=>exact ce hk hg e
theorem zl:∀ {l:List Str} {k:Nat} {x:Str} {i:Nat},(l.zipIdx k).lookup x=some i→k≤i∧l[i - k]?=some x
 | [],_,_,_,e=>nn e
 | y::l,k,x,i,e=>by
  rw [List.zipIdx_cons,List.lookup_cons] at e
  cases z:x==y with
  | true=>rw [z] at e;obtain rfl:=Option.some.inj e;exact ⟨Nat.le_refl _,by refine f0 (Nat.sub_self ..) (f0 (beq_iff_eq.mp z ..) ?_);rfl⟩
  | false =>
   rw [z] at e
   obtain ⟨h1,h2⟩:=zl e
   exact ⟨Nat.le_of_succ_le h1,by exact P5 (Nat.sub_add_cancel (n:=i - k) (m:=1) (Nat.sub_pos_of_lt h1)) h2⟩
theorem zp:∀ {l r:List Str} {k j:Nat} {x:Str},l.Nodup→l[j]?=some x→((l++r).zipIdx k).lookup x=some (k+j)
 | [],_,_,_,_,_,e=>nn e
 | y::l,r,k,0,x,nd,e=>by
  obtain rfl:=Option.some.inj e
  refine f0 (List.cons_append ..) (f0 (List.zipIdx_cons ..) (f0 (List.lookup_cons_self ..) ?_));rfl
 | y::l,r,k,j+1,x,nd,e=>by
  obtain ⟨n1,n2⟩:=List.nodup_cons.mp nd
  have ne:(x==y)=false:=beq_eq_false_iff_ne.mpr fun q=>n1 (q▸List.mem_of_getElem? (show l[j]?=some x from e))
  refine f0 (List.cons_append ..) (f0 (List.zipIdx_cons ..) (f0 (List.lookup_cons ..) (f0 (ne ..) ?_)))
  exact (zp n2 e).trans (congrArg some (Nat.add_right_comm ..))
theorem gv{o:Option NameKind}(h:Y6 o=true):o=some .local∨o=some .cell:=by
 induction o using Option.casesOn with
 | none=>exact Bool.noConfusion h
 | some k=>induction k using NameKind.casesOn with
  | «local»=>exact .inl rfl
  | cell=>exact .inr rfl
  | _=>exact Bool.noConfusion h
theorem bC(hk:A7 γ)(hg:∀ a o,γ a=some o→B.get? a=some o){df:List V}{d:Value}(e:SC γ df d=true):(d = .none∧df=[])∨∃ T its,d = .ref T∧IsTup B T its∧E0 (CC w γ B) Jy B df its.toList:=by
 rcases Bool.or_eq_true_iff.mp e with e|e
 ·exact .inl ⟨eq_of_beq (b2 e).1,List.isEmpty_iff.mp (b2 e).2⟩
 ·refine A0 (P0 e) ?_;(repeat clear e);intro a e1 e
  refine A0 (P0 e) ?_;(repeat clear e);intro o e2 e
  refine A0 (P0 e) ?_;(repeat clear e);intro its e3 e
  obtain ⟨c,yI⟩:=Ik e3;obtain ⟨n,d⟩:=yI
  exact .inr (L1 a its (N6 e1) (A2 o (hg _ _ e2) c ⟨n,d⟩) (be (fun Z Z=>ce hk hg) e))
theorem cF(hk:A7 γ)(hg:∀ a o,γ a=some o→B.get? a=some o){fv:V}{a:Addr}{df:List V}{q:Iz}{P:List Str→M5→List Stmt→Bool}(hv:∀ t h r,G0 (CC w γ B) t h fv r→r = .ref a)(e:lH γ df a=true)(eb:rh γ a=some q)(hP:Rq P df q=true):∃ names b body,gp q.2.1=some body∧n9 (CC w γ B) fv names df b body∧P names b body=true:=by
 refine A0 (P0 e) ?_;(repeat clear e);intro o e1 e
 refine A0 (P0 e) ?_;(repeat clear e);intro f e2 e
 obtain ⟨e,g6⟩:=b2 e
 obtain ⟨e,g4⟩:=b2 e
 obtain ⟨e,g3⟩:=b2 e
 obtain ⟨g1,g2⟩:=b2 e
 have eq:q=(f.params,f.body,f.scope):=by
  unfold rh at eb
  rw [e1,Option.bind_some,e2] at eb
  exact (Option.some.inj eb).symm
 subst eq
 obtain ⟨g5,hP⟩:=b2 hP
 refine A0 (P0 hP) fun body e3 e=>?_
 obtain ⟨e,h7⟩:=b2 e
 obtain ⟨e,h6⟩:=b2 e
 obtain ⟨e,h5⟩:=b2 e
 obtain ⟨e,h4⟩:=b2 e
 obtain ⟨e,h3⟩:=b2 e
 obtain ⟨h1,h2⟩:=b2 e
 refine A0 (P0 g4) fun c c1 e=>?_
 refine A0 (P0 e) ?_;(repeat clear e);intro oc c2 e
 refine A0 (P0 e) ?_;(repeat clear e);intro vs c3 e
 refine A0 (P0 e) ?_;(repeat clear e);intro v c4 e
 refine A0 (P0 e) fun q c5 c6=>?_
 obtain ⟨tk,c7⟩:=dc c5
 have nd:=pn h1
 refine Gv _ _ body e3 ⟨fun t h r x=>⟨a,o,f,hv t h r x,hg _ _ e1,Xu e2,eq_of_beq g1,eq_of_beq g2,List.isEmpty_iff.mp g3,av e3,rfl,(Df c oc vs tk (N6 c1) (hg _ _ c2) (Zu c3) (by exact f0 (c4 ..) (f0 (c7 ..) (f0 (eq_of_beq c6 ..) rfl)))),g5,rfl,bC hk hg g6⟩,nd,
  fun x hx=>gv (List.all_eq_true.mp h2 x hx),by refine P5 (Bool.not_eq_true' ..) ?_;exact h3,by refine P5 (Bool.not_eq_true' ..) ?_;exact h4,eq_of_beq h5,fun x y i hx hy=>Option.some.inj ((zl hx).2.symm.trans (zl hy).2),fun j x hx=>(zp nd hx).trans (congrArg some (Nat.zero_add j)),Nat.le_of_ble_eq_true h6⟩ h7
end
noncomputable def bH(ns:List Str)(b:M5)(body:List Stmt):Bool:=ns==(["self","reason"]:List Str)&&b.isG bS 12 "ValueError"&&b.kd "self"==some .local&&b.kd "reason"==some .local
noncomputable def cH:E := .op (.bin .add) (.cons (.op (.bin .add) (.cons (.op (.bin .add) (.cons (.op (.bin .add) (.cons (.op (.bf .str) (.cons (.op (.attr 6) (.cons (.op (.attr 14) (.cons (.loc 0) .nil)) .nil)) .nil)) (.cons (.k (.str " row ")) .nil))) (.cons (.op (.bf .str) (.cons (.loc 1) .nil)) .nil))) (.cons (.k (.str ": ")) .nil))) (.cons (.loc 2) .nil))
noncomputable def cC(s:Stmt):Option Expr:=dite (s.ctorIdx=16) (fun h=>Stmt.Raise.elim s h fun x Z Z=>x) fun Z=>none
noncomputable def dF(e:Expr):Option (List Expr):=dite (e.ctorIdx=16) (fun h=>Expr.Call.elim e h fun Z a Z Z=>some a) fun Z=>none
noncomputable def cb(k:Nat):List Stmt:=((Ay[k]?).bind fun q=>gp q.2.1).getD []
noncomputable def jv:Expr:=((((Ef (cb 28)).bind cC).bind dF).bind Ef).getD (.Name "" ⟨0,0,0,0⟩)
noncomputable def gF(ns:List Str)(b:M5)(_:List Stmt):Bool:=ns==(["self","place","reason"]:List Str)&&b.kd "BadRows"==some .globalImplicit&&Q4 jv&&(ck cH).1 b jv
theorem dC:cb 1=bz:=by kernel_rfl
theorem my:cb 28=[.Raise (some (.Call (.Name "BadRows" ⟨146,14,146,21⟩) [jv] [] ⟨146,14,146,81⟩)) none ⟨146,8,146,81⟩]:=by kernel_rfl
noncomputable def dH:Bool:=jb (fun (p:V×FD) k=>(Ay[k]?).any (Rq (CH p.2) p.2.df)) MF kL
theorem eC:dH=true:=by kernel_rfl
theorem nv:(Ay[28]?).any (Rq gF [])=true:=by kernel_rfl
theorem ny:(Ay[1]?).any (Rq bH [.str ""])=true:=by kernel_rfl
noncomputable def vn(γ:Gt):Prop:=Gz.map (rh γ)=Ay.map some
theorem fh{α β:Type}{f g:α→β→Bool}:∀ {l:List α} {m:List β},jb f l m=true→jb g l m=true→∀ x∈l,∃ y,f x y=true∧g x y=true
 | [],_,_,_,_,h=>(List.not_mem_nil h).elim
 | x::l,m,h1,h2,z,hz=>by induction m using List.casesOn with
  | nil=>exact Bool.noConfusion h1
  | cons y m=>exact (List.mem_cons.mp hz).elim (fun e=>C0 y (e▸(b2 h1).1) (e▸(b2 h2).1)) (fh (b2 h1).2 (b2 h2).2 z)
section
variable{w:World}{γ:Gt}{B:Heap}{t:St}{h:Heap}
theorem fc:∀ {l:List (Nat×FD)} {x:Nat} {fd:FD},Em l x=some fd→(x,fd)∈l
 | [],_,_,e=>nn e.symm.symm
 | p::r,x,fd,e=>by
  have e:(match Nat.beq p.1 x with|true=>some p.2|false=>Em r x)=some fd:=e
  cases z:Nat.beq p.1 x with
  | true =>
   rw [z] at e
   obtain rfl:=Nat.eq_of_beq_eq_true z
   obtain rfl:=Option.some.inj e
   exact .head _
  | false=>rw [z] at e;exact .tail _ (fc e)
theorem wp{α:Type}{a b:Option α}{x:α}(h:a.or b=some x):a=some x∨b=some x:=by
 induction a using Option.casesOn with
 | some y=>exact .inl h
 | none=>exact .inr h
theorem P8.gA(hk:A7 γ){c:Nat}{a:Addr}(h:P8 (CC w γ B) c a):mc γ c=some a:=qp hk (Nat.lt_trans h.1 (by decide)) h.2
theorem mI(hk:A7 γ){x:Nat}{a:Addr}(e:mc γ x=some a):∀ t h r,G0 (CC w γ B) t h (.g x) r→r = .ref a:=fun t h r z=>by
 have:=z.2.symm.trans (Mi hk z.1 e)
 cases this;rfl
theorem Ni{γ:Gt}{a f:Addr}{x:Str}(h:Kv γ a x=some f):findIn (Kg γ) (.ref a) x=some (some (.ref f)):=by
 refine A0 (Option.bind_eq_some_iff.mp h) ?_;intro v e3 e4
 exact N6 e4▸gy e3
theorem oy{c x:Nat}(h:oh c x=true):c<11∧x<16:=by
 by_cases hc:c<11
 ·refine ⟨hc,?_⟩
  have a:∀ l∈Si,∀ y∈l,y<16:=by decide
  have e:Si.getD c []∈Si:=by
   rw [List.getD_eq_getElem?_getD,List.getElem?_eq_getElem (show c<Si.length from hc)]
   exact List.getElem_mem _
  exact a _ e x (List.contains_iff_mem.mp h)
 ·have e:Si.getD c []=[]:=by rw [List.getD_eq_getElem?_getD,List.getElem?_eq_none (show Si.length≤c from Nat.le_of_not_lt hc)];rfl
  unfold oh at h
  rw [e] at h
  exact Bool.noConfusion h
theorem eH(hk:A7 γ){c x:Nat}{f:Addr}(e:VC γ (.m c x)=some f):∀ t h r,G0 (CC w γ B) t h (.m c x) r→r = .ref f:=fun t h r z=>by
 obtain ⟨_,AI⟩:=z;refine A0 AI ?_;(repeat clear AI);intro a' k q
 refine A0 (Option.bind_eq_some_iff.mp e) ?_;intro a e1 e2
 cases (k.gA hk).symm.trans e1
 cases (Ni e2).symm.trans q
 rfl
theorem uv(hk:A7 γ)(hg:∀ a o,γ a=some o→B.get? a=some o)(hb:vn γ){k:Nat}{fv:V}{a:Addr}{df:List V}{P:List Str→M5→List Stmt→Bool}(hv:∀ t h r,G0 (CC w γ B) t h fv r→r = .ref a)(e:ie γ k df a=true)(hP:(Ay[k]?).any (Rq P df)=true):∃ names b,n9 (CC w γ B) fv names df b (cb k)∧P names b (cb k)=true:=by
 obtain ⟨e1,e2⟩:=b2 e
 refine A0 (P0 e1) ?_;intro a' ea eb
 obtain rfl:=Nat.eq_of_beq_eq_true eb
 refine A0 (P0 hP) ?_;(repeat clear hP);intro q eq hP
 have:=congrArg (·[k]?) hb
 simp only [List.getElem?_map,ea,eq,Option.map_some] at this
 refine nh (cF hk hg hv e2 (Option.some.inj this) hP) ?_;intro names b body es F
 have:cb k=body:=by unfold cb;refine f0 (eq ..) (f0 (Option.bind_some ..) (f0 (es ..) ?_));rfl
 exact V8 names b (this▸F)
theorem iF(hk:A7 γ)(hg:∀ a o,γ a=some o→B.get? a=some o)(hb:vn γ){k:Nat}{fv:V}{a:Addr}{fd:FD}(hv:∀ t h r,G0 (CC w γ B) t h fv r→r = .ref a)(e:ie γ k fd.df a=true)(hP:(Ay[k]?).any (Rq (CH fd) fd.df)=true):Fn (CC w γ B) fv fd:=by
 refine Y1 (uv hk hg hb hv e hP) ?_;intro names b F q
 exact Gv names b _ F (Nat.eq_of_beq_eq_true (b2 q).1) ((b2 q).2)
theorem wn(hk:A7 γ)(hg:∀ a o,γ a=some o→B.get? a=some o)(hb:vn γ)(e:Xf γ=true){v:V}{fd:FD}(h:(v,fd)∈MF):∃ a,VC γ v=some a∧∀ fv,(∀ t h r,G0 (CC w γ B) t h fv r→r = .ref a)→Fn (CC w γ B) fv fd:=by
 refine A0 (fh (Tu e) eC _ h) ?_;intro k e1 e2
 refine A0 (P0 e1) ?_;intro a ea q
 exact C0 a ea (fun fv hv=>iF hk hg hb hv q e2)
theorem fC(hk:A7 γ)(hg:∀ a o,γ a=some o→B.get? a=some o)(hb:vn γ)(e:Xf γ=true):YA (CC w γ B) Aq∧Fn (CC w γ B) (.m 3 0) O4:=by
 refine ⟨fun f fd q=>?_,?_⟩
 ·induction f using V.casesOn with
  | g x =>
   have m:(x,fd)∈yq++yx:=(wp (show (Em yq x).or (Em yx x)=some fd from q)).elim (fun q=>List.mem_append_left _ (fc q)) fun q=>List.mem_append_right _ (fc q)
   obtain ⟨a,ea,F⟩:=wn hk hg hb e (v := .g x) (List.mem_append_left _ (List.mem_map.mpr (C0 _ m rfl)))
   exact F _ (mI hk ea)
  | m c x =>
   have m:(16*c+x,fd)∈zq++zx:=(wp (show (Em zq (16*c+x)).or (Em zx (16*c+x))=some fd from q)).elim (fun q=>List.mem_append_left _ (fc q)) fun q=>List.mem_append_right _ (fc q)
   obtain ⟨a,ea,F⟩:=wn hk hg hb e (v := .m ((16*c+x) / 16) ((16*c+x) % 16)) (List.mem_append_right _ (List.mem_append_left _ (List.mem_map.mpr (C0 _ m rfl))))
   refine F _ fun t h r z=>?_
   obtain ⟨_,hx⟩:=oy z.1
   rw [(Nat.mul_add_div (by decide) c x).trans (congrArg (c+·) (Nat.div_eq_of_lt hx)),(Nat.mul_add_mod 16 c x).trans (Nat.mod_eq_of_lt hx)] at ea
   exact eH hk ea t h r z
  | _=>exact nn q
 ·obtain ⟨a,ea,F⟩:=wn hk hg hb e (v := .m 3 0) (fd:=O4) (List.mem_append_right _ (List.mem_append_right _ (.head _)))
  exact F _ (eH hk ea)
end
section
variable{w:World}{γ:Gt}{B:Heap}{t:St}{h:Heap}
theorem gh{n:Nat}{f:Nat→Bool}(h:(List.range n).all f=true){x:Nat}(hx:x<n):f x=true:=List.all_eq_true.mp h x (List.mem_range.mpr hx)
theorem jF{o:Option (Option Value)}(h:PC o=true):o=some none:=by
 induction o using Option.casesOn with
 | none=>exact Bool.noConfusion h
 | some o=>induction o using Option.casesOn with
  | none=>rfl
  | some _=>exact Bool.noConfusion h
theorem kF{f:Addr}{o:Option CFound}(h:RC f o=true):o=some (.val (.ref f)):=by
 induction o using Option.casesOn with
 | none=>exact Bool.noConfusion h
 | some o=>induction o using W.CFound.casesOn with
  | val v=>exact (eq_of_beq h)▸rfl
  | get=>exact Bool.noConfusion h
theorem xp{α:Type}:∀ {l:List α} {k x:Nat} {v:α},l[x]?=some v→(v,k+x)∈l.zipIdx k
 | _::_,k,0,_,e=>by obtain rfl:=Option.some.inj e;exact .head _
 | _::l,k,x+1,_,e => .tail _ (by exact f0 (Nat.add_right_comm k x 1:k+(x+1)=k+1+x) (xp (l:=l) e))
theorem lF{w:World}{γ:Gt}(h:YC γ=XC w){x:Nat}{v:V}{ss:List Str}(e:cV[x]?=some v)(ev:qC v=some ss):Kz γ Ti[x]?=ss.map (hashStr w):=by
 have:=congrArg (·[x]?) h
 unfold YC XC at this
 simp only [List.getElem?_map,List.getElem?_zipIdx,e,Option.map_some,ev] at this
 rw [Nat.zero_add] at this
 exact Option.some.inj this
theorem mF:∀ v∈cV,∀ ss,qC v=some ss→ss.Nodup:=by
 have h:cV.all (fun v=>(qC v).all LF)=true:=by kernel_rfl
 exact fun v hv ss e=>pn (by have:=List.all_eq_true.mp h v hv;rw [e] at this;exact this)
theorem nF(hk:A7 γ)(hK:(Kg γ).In B)(hg:∀ a o,γ a=some o→B.get? a=some o)(lim:B.NoLimit)(mg:∃ m,B.Ns mainGlobals m)(mb:∃ m,B.Ns builtinsNs m∧∀ x,x<bS.length→m (bN x)=bootBuiltins (bN x))(hh:YC γ=XC w)(e:uh γ=true):(CC w γ B).Ok:=by
 obtain ⟨e,f7⟩:=b2 e
 obtain ⟨e,f6⟩:=b2 e
 obtain ⟨e,f5⟩:=b2 e
 obtain ⟨e,f4⟩:=b2 e
 obtain ⟨e,f3⟩:=b2 e
 obtain ⟨e,f2⟩:=b2 e
 obtain ⟨e,p3⟩:=b2 e
 obtain ⟨p1,p2⟩:=b2 e
 have cls:∀ c a,P8 (CC w γ B) c a→(Ld (Kg γ) a=true∧makesIn (Kg γ) a=true∧readsIn (Kg γ) a (.type "type")=true∧specialIn (Kg γ) (.ref a) "__getattribute__"=some (some (.builtin "type.__getattribute__"))) ∧
   ∀ x,oh c x=true→∃ f,findIn (Kg γ) (.ref a) (mN x)=some (some (.ref f))∧isFn (Kg γ) (.ref f)=true∧keepIn (Kg γ) (.ref f)=true∧findCls (Kg γ) (.ref a) (.type "type") (mN x)=some (.val (.ref f)):=fun c a k=>by
  refine A0 (P0 (gh f2 k.1)) fun a' ea q=>?_
  cases (k.gA hk).symm.trans ea
  obtain ⟨q,q5⟩:=b2 q
  obtain ⟨q,q4⟩:=b2 q
  obtain ⟨q,q3⟩:=b2 q
  obtain ⟨q1,q2⟩:=b2 q
  refine ⟨(E3 q1 q2 q3 (eq_of_beq q4)),fun x hx=>?_⟩
  refine A0 (P0 (List.all_eq_true.mp q5 x (List.contains_iff_mem.mp hx))) fun f e1 q=>?_
  obtain ⟨q,q3⟩:=b2 q
  obtain ⟨q1,q2⟩:=b2 q
  exact i5 f (Ni e1) q1 q2 (kF q3)
 have isi:∀ c a,P8 (CC w γ B) c a→((jc.all (fun T=>kitOne (Kg γ) (.type T) (.ref a)==some false)=true∧qh.all (fun U=>kitOne (Kg γ) (.ref a) (.type U)==some false)=true)∧(List.range 11).all (fun y=>(mc γ y).any fun b=>kitOne (Kg γ) (.ref a) (.ref b)==some (Iv c y))=true) ∧
   (plainGet (Kg γ) a "__class__"=true∧hasDictIn (Kg γ) a=true∧findIn (Kg γ) (.ref a) "__class__"=some (some (.builtin "object.__class__"))∧mroIn (Kg γ) a (.type "object")=some true):=fun c a k=>by
  refine A0 (P0 (gh f3 k.1)) fun a' ea q=>?_
  cases (k.gA hk).symm.trans ea
  obtain ⟨q,q7⟩:=b2 q
  obtain ⟨q,q6⟩:=b2 q
  obtain ⟨q,q5⟩:=b2 q
  obtain ⟨q,q4⟩:=b2 q
  obtain ⟨q,q3⟩:=b2 q
  exact Yq ⟨b2 q,q3⟩ q4 q5 (eq_of_beq q6) (eq_of_beq q7)
 refine ⟨hK,lim,mg,mb,fun x hx=>?_,fun x hx=>?_,fun x v ex=>?_,fun c a k=>⟨(cls c a k).1.1,(cls c a k).1.2.1⟩,fun c a x k hm=>((cls c a k).2 x hm).imp fun Z z=>V0 z.1 z.2.1 z.2.2.1,fun c a x k hm=>V0 ((cls c a k).1.2.2.1) ((cls c a k).1.2.2.2) (((cls c a k).2 x hm).imp fun Z z=>⟨z.1,z.2.2.2⟩),?_,?_,fun a k=>?_⟩
 ·refine A0 (P0 (gh p1 hx)) fun a ea q=>?_
  exact C0 a (Mi hk hx ea) ((b2 q).1)
 ·exact ⟨yz hk (jy x hx),P0 (gh p2 hx)⟩
 ·refine A0 (P0 (List.all_eq_true.mp p3 (v,x) (by have:=xp (k:=0) ex;rw [Nat.zero_add] at this;exact this))) fun r er q=>?_
  obtain ⟨h1,h2⟩:=iy x (List.getElem?_eq_some_iff.mp ex).1
  obtain ⟨p,ep⟩:=Option.isSome_iff_exists.mp h2
  rw [ep] at h1
  refine C0 r (Vu hk h1 (by have:=er;rw [ep] at this;exact this)) (aC hk hg (fun ss xs ev=>mF v (List.mem_of_getElem? ex) ss (by refine f0 (ev ..) ?_;rfl)) (fun ss xs a ev ea o es h1 h2=>?_) q)
  have:=lF hh ex (show qC v=some ss by refine f0 (ev ..) ?_;rfl)
  unfold Kz at this
  rw [show Qk γ Ti[x]?=some r from er,ea,Option.bind_some] at this
  rw [show (I8 (.ref a)).bind (fun a=>γ a)=some o from h1,Option.bind_some,h2] at this
  exact this
 ·obtain ⟨o,e⟩:=Option.isSome_iff_exists.mp f4
  exact ⟨o,hg _ _ e⟩
 ·refine ⟨fun x a T k hT=>?_,fun x a U k hU=>?_,fun x y a b k k'=>?_,fun x a k=>(isi x a k).2,fun x a hx ea=>?_⟩
  ·exact eq_of_beq (List.all_eq_true.mp (isi x a k).1.1.1 T (List.contains_iff_mem.mp hT))
  ·exact eq_of_beq (List.all_eq_true.mp (isi x a k).1.1.2 U (List.contains_iff_mem.mp hU))
  ·refine A0 (P0 (gh (isi x a k).1.2 k'.1)) fun b' eb q=>?_
   cases (k'.gA hk).symm.trans eb
   exact eq_of_beq q
  ·by_cases hl:x<gS.length
   ·refine A0 (P0 (gh p1 hl)) fun a' e1 q=>?_
    cases (qp hk hl ea).symm.trans e1
    rcases Bool.or_eq_true_iff.mp (b2 q).2 with q|q
    ·exact absurd (Nat.le_of_ble_eq_true q) (Nat.not_lt.mpr hx)
    ·exact (P0 q).imp fun o z=>⟨z.1,eq_of_beq z.2⟩
   ·have e:gN x=gN gS.length:=by
     unfold gN nm
     rw [List.getD_eq_getElem?_getD,List.getD_eq_getElem?_getD,List.getElem?_eq_none (Nat.le_of_not_lt hl),List.getElem?_eq_none (Nat.le_refl _)]
    rw [e,yz hk ly] at ea
    exact nomatch ea
 ·refine A0 (P0 f7) fun a' ea q=>?_
  have k:=zz hk lp k
  unfold ZC at ea
  rw [k] at ea
  obtain rfl:=Option.some.inj ea
  obtain ⟨q,_⟩:=b2 q
  obtain ⟨q,_⟩:=b2 q
  obtain ⟨q,_⟩:=b2 q
  obtain ⟨q,_⟩:=b2 q
  obtain ⟨q,_⟩:=b2 q
  exact eq_of_beq (b2 q).2
end
section
variable{w:World}{γ:Gt}{B:Heap}{t:St}{h:Heap}
@[elab_as_elim] theorem Sq{α:Type}{n:Nat}{P:List α→Prop}{l:List α}(h:l.length=n+1)(k:∀ a t,t.length=n→P (a::t)):P l:=by
 induction l using List.casesOn with
 | nil=>exact nomatch h
 | cons a t=>exact k a t (Nat.succ.inj h)
theorem nI{α:Type}{l:Array α}{x:α}(h1:l.size=6)(h2:l[4]?=some x):∃ k0 k1 k2 k3 k5,l=#[k0,k1,k2,k3,x,k5]:=by
 obtain ⟨l⟩:=l
 have h2:l[4]?=some x:=List.getElem?_toArray▸h2
 revert h2
 refine Sq (show l.length=5+1 from h1) fun a l g=>Sq g fun b l g=>Sq g fun c l g=>Sq g fun d l g=>Sq g fun e l g=>Sq g fun f l g h=>?_
 obtain rfl:=Option.some.inj h
 obtain rfl:=List.eq_nil_of_length_eq_zero g
 exact QF a b c d f rfl
theorem gC{o:Obj}{cd:ClassData}{cls G:Addr}{k0 k1 k2 k3 k5:Option Value}(h1:o.cls = .type "type")(h2:o.data = .cls cd)(h3:cd.mro = .ref cls :: .ref G::pC)(h4:cd.hasDict=true)(h5:cd.hasDel=false)(h6:o.slots=#[k0,k1,k2,k3,some (.builtin "ValueError.__new__"),k5]) :
  o=XD.o ⟨cd.name,cd.qualname,cd.ns,G,cd.bases,cd.slotNames,cd.subclasses,cd.abstract,cd.collection,o.dict,k0,k1,k2,k3,k5⟩ cls:=by
 show (⟨o.cls,o.dict,o.data,o.slots⟩:Obj)=_
 rw [h1,h2,h6]
 show (⟨_,_,.cls ⟨cd.name,cd.bases,cd.mro,cd.ns,cd.qualname,cd.hasDict,cd.slotNames,cd.subclasses,cd.abstract,cd.collection,cd.hasDel⟩,_⟩:Obj)=_
 rw [h3,h4,h5]
theorem iC{cls:Addr}(e:WC γ cls=true):∃ D,uo (CC w γ B) cls D:=by
 obtain ⟨e,f6⟩:=b2 e
 obtain ⟨e,f5⟩:=b2 e
 obtain ⟨e,f4⟩:=b2 e
 obtain ⟨e,f3⟩:=b2 e
 refine A0 (P0 f6) ?_;intro o eo q
 obtain ⟨q1,q⟩:=b2 q
 refine A0 (P0 q) ?_;(repeat clear q);intro cd ec q
 obtain ⟨q,q6⟩:=b2 q
 obtain ⟨q,q5⟩:=b2 q
 obtain ⟨q,q4⟩:=b2 q
 obtain ⟨q2,q3⟩:=b2 q
 refine A0 (P0 q4) ?_;intro G _ eG
 refine YF (nI (eq_of_beq q5) (eq_of_beq q6)) ?_;intro k0 k1 k2 k3 k5 es
 refine ⟨_,(b2 e).1,eo.trans (congrArg some (gC (eq_of_beq q1) (Yu ec) (eq_of_beq eG) q2 (by rw [←Bool.not_eq_true'];exact q3) es)),jF f3,eq_of_beq f4,?_⟩
 revert f5
 cases findCls (Kg γ) (.type "ValueError") (.type "type") "__init__" with
 | none=>exact Bool.noConfusion
 | some o=>cases o with
  | val v=>exact fun h=>(eq_of_beq h)▸rfl
  | get=>exact Bool.noConfusion
theorem oF{a:Addr}:∀ t h r,G0 (CC w γ B) t h (.raw a) r→r = .ref a:=fun Z Z Z z=>z
theorem jC(hk:A7 γ)(hg:∀ a o,γ a=some o→B.get? a=some o)(hb:vn γ){f:Addr}(e:ie γ 1 [.str ""] f=true):∃ b,xt (CC w γ B) b f:=by
 obtain ⟨ns,b,F,q⟩:=uv (fv := .raw f) hk hg hb oF e ny
 obtain ⟨q,q4⟩:=b2 q
 obtain ⟨q,q3⟩:=b2 q
 obtain ⟨q1,q2⟩:=b2 q
 exact ⟨b,dC▸(eq_of_beq q1:ns=_)▸F,q2,eq_of_beq q3,eq_of_beq q4⟩
theorem qy(hk:A7 γ)(hg:∀ a o,γ a=some o→B.get? a=some o)(hb:vn γ)(ok:(CC w γ B).Ok)(e:uh γ=true):z7 (CC w γ B):=by
 obtain ⟨e,f7⟩:=b2 e
 obtain ⟨e,f6⟩:=b2 e
 obtain ⟨cls,ec,q⟩:=P0 f7
 obtain ⟨q1,q⟩:=b2 q
 obtain ⟨f,ef,q⟩:=P0 q
 obtain ⟨q2,q3⟩:=b2 q
 have hini:=Ni ef
 obtain ⟨cv,ecv,er⟩:=Option.bind_eq_some_iff.mp ec
 have hx:Cp (CC w γ B) cls:=(Vu hk lp ecv).trans (congrArg (fun v=>some (some v)) (N6 er))
 obtain ⟨D,BO⟩:=iC (w:=w) (B:=B) q1
 obtain ⟨bg,G⟩:=jC (w:=w) hk hg hb q3
 obtain ⟨fl,efl,q⟩:=P0 f6
 obtain ⟨ns,b,F,q⟩:=uv (fv := .m 2 1) hk hg hb (eH hk efl) q nv
 obtain ⟨q,g3⟩:=b2 q
 obtain ⟨q,g2⟩:=b2 q
 obtain ⟨n1,w2⟩:=b2 q
 have F:=my▸(eq_of_beq n1:ns=_)▸F
 intro σ Q X ro i r hi hr hX
 refine (ix (n:=0) (te:=cH) ok hx BO G hini q2 F (eq_of_beq w2) ((gm (.self (CC w γ B) 1) cH).e b _ g3).se g2 rfl ?_).le (by decide)
 have le:∀ {n m:Nat},n≤m→m≤100000→Nat.ble n 100000=true:=fun h1 h2=>Nat.ble_eq_true_of_le (Nat.le_trans h1 h2)
 have l1:(Kb++(" row ":Str)).length≤100:=Nat.le_of_ble_eq_true rfl
 refine K0 (Nat.ble_eq_true_of_le (show i+1≤1000000 from hi)) fun s1 h1=>?_
 have l2:(Kb++(" row ":Str)++s1).length≤1100:=by rw [PySem.Str.length_append];exact Nat.add_le_add l1 h1
 have l3:(Kb++(" row ":Str)++s1++(": ":Str)).length≤1200:=by rw [PySem.Str.length_append];exact Nat.add_le_add l2 (show (": ":Str).length≤100 from Nat.le_of_ble_eq_true rfl)
 exact K0 (le h1 (by decide)) (K0 (le l2 (by decide)) (K0 rfl (K0 (le l3 (by decide)) (K0 (le hr (by decide)) ⟨⟨_,rfl⟩,hX⟩))))
end
theorem pF(s:SharedT):gT s=s.abs.heap.get?:=funext fun a=>by
 show _=By ((absHeap s.tree s.n s.life).objs[a]?)
 refine f0 (absHeap_at ..) ?_
 unfold gT
 by_cases h:a<s.n
 ·exact f0 (if_pos h ..) (f0 (show Nat.blt a s.n=true from Nat.ble_eq_true_of_le h) rfl)
 ·exact f0 (if_neg h ..) (f0 (show Nat.blt a s.n=false from Bool.eq_false_iff.mpr fun z=>h (Nat.le_of_ble_eq_true z)) rfl)
theorem Jk{h:Heap}:∀ {as:List Addr},as.all (fun a=>(h.get? a).isSome)=true→(rr h.get? as).In h
 | [],_,_,_,e=>nn e
 | b::as,z,a,o,e=>by
  obtain ⟨z1,z2⟩:=b2 z
  unfold rr at e
  rw [List.map_cons,List.lookup_cons] at e
  cases q:a==b with
  | true =>
   rw [q] at e
   obtain ⟨ob,eb⟩:=Option.isSome_iff_exists.mp z1
   refine f0 (beq_iff_eq.mp q ..) (f0 (eb ..) ?_)
   rw [eb] at e
   exact e
  | false=>rw [q] at e;exact Jk z2 a o e
noncomputable def Yf(s:Shared):Al:=Yg s.heap.get?
theorem ry:importedModules pw.main.body=[]:=by refine f0 (PySem.W.Fast.te5923862056798008813 ..) ?_;kernel_rfl
theorem wv:pw.main.body.any namesNumpy=false:=by refine f0 (PySem.W.Fast.te5458400290513866138 ..) ?_;kernel_rfl
theorem yv(s:Shared):fenceModules? pw s=some s:=by
 unfold fenceModules?
 refine f0 (ry ..) (f0 (wv ..) ?_)
 rfl
theorem uy{w:World}{sT:SharedT}(hl:Cy w sT=(true,openGood qv xa)) :
  (staticsOk (importedModules pw.main.body) (boot_heap w.params) sT.abs.heap&&namesBound pw sT.abs.heap&&gensDone sT.abs&&laidKept (boot_heap w.params) sT.abs.heap)=true ∧
  openSeen qv xa (importedModules pw.main.body) Xt true sT.abs=openGood qv xa:=by
 obtain ⟨h1,h2⟩:=Prod.mk.inj hl
 exact ⟨h1,by refine f0 (PySem.W.Fast.te4187177175401517315 ..) ?_;exact h2⟩
theorem xn:opening pw=plainProg pw.main.scope.names:=by kernel_rfl
theorem Tq(w:World):∃ os,fencedOpening treeTable pw w 20000=some ⟨boot_heap w.params,Array.mk [],boot_drawn,boot_toks,os⟩:=by
 have hb:=boot_open (p:=pw) (N:=20000) xn (by decide) yv w
 refine A0 (Option.map_eq_some_iff.mp hb) ?_;intro zI e e';obtain ⟨h,gs,d,k,os⟩:=zI
 simp only [Prod.mk.injEq] at e'
 refine R7 e' ?_;(repeat clear e');intro rI tI vI xI;obtain rfl:=rI;obtain rfl:=tI;obtain rfl:=vI;obtain rfl:=xI
 exact ⟨os,e⟩
theorem yn{w:World}{os:OsState}{s₁:Shared}(r:topRun treeTable pw w 11 (some (.ref 6)) 20000 ⟨boot_heap w.params,Array.mk [],boot_drawn,boot_toks,os⟩ (topStub pw)=some s₁)
  (l1:(staticsOk (importedModules pw.main.body) (boot_heap w.params) s₁.heap&&namesBound pw s₁.heap&&gensDone s₁&&laidKept (boot_heap w.params) s₁.heap)=true) :
  topFrom treeTable pw w 20000 ⟨boot_heap w.params,Array.mk [],boot_drawn,boot_toks,os⟩=some s₁:=by
 obtain ⟨z1,z3⟩:=Prod.mk.inj (PF w.params)
 unfold topFrom
 simp only [z1,z3,AC,r,Option.bind_some,l1]
theorem kC{w:World}{os:OsState}{sT:SharedT}(hf:K5 w os=some sT) :
  topRun treeTable pw w 11 (some (.ref 6)) 20000 ⟨boot_heap w.params,Array.mk [],boot_drawn,boot_toks,os⟩ (topStub pw)=some sT.abs:=by
 have r:=Vf (tb:=treeTable) (p:=pw) (w:=w) (by rw [Az];exact hf)
 have e0:(⟨T0 w.params,11,(boot_heap w.params).life,Array.mk [],boot_drawn,boot_toks,os⟩:SharedT).abs=⟨boot_heap w.params,Array.mk [],boot_drawn,boot_toks,os⟩:=by
  unfold SharedT.abs;exact f0 (OF ..) rfl
 rw [e0] at r
 exact r
theorem vy(H1:∀ w,qc w)(H2:∀ w,uc w):LeftO pw qv xa Xt Yf Ya 20000:=fun w=>by
 obtain ⟨os,e⟩:=Tq w
 refine A0 (Option.map_eq_some_iff.mp (H1 w os)) fun sT hf hl=>?_
 obtain ⟨l1,l2⟩:=uy hl
 have l3:Yf sT.abs=Ya w:=by
  have h:=H2 w os
  rw [hf] at h
  have h:Yg (gT sT)=Ya w:=Option.some.inj h
  rw [pF] at h
  exact h
 unfold openEnds
 exact f0 (e ..) (f0 (Option.bind_some ..) (f0 (yn (kC hf) l1 ..) (f0 (Option.map_some ..) (f0 (l2 ..) (f0 (l3 ..) rfl)))))
noncomputable def YP(w:World)(h:Heap):Prop:=∃ γ:Gt,(∀ a o,γ a=some o→h.get? a=some o)∧(Kg γ).In h∧uh γ=true∧YC γ=XC w∧vn γ∧A7 γ
theorem qF(w:World)(s:Shared)(e:Yf s=Ya w):YP w s.heap:=by
 obtain ⟨e1,e2⟩:=Prod.mk.inj e
 obtain ⟨h1,h2⟩:=b2 e1
 obtain ⟨e2,e3⟩:=Prod.mk.inj e2
 obtain ⟨e3,e4⟩:=Prod.mk.inj e3
 exact ⟨s.heap.get?,fun Z Z e=>e,Jk h1,h2,e2,e3,e4⟩
theorem wy(w:World)(h h':Heap)(x:YP w h)(k:∀ b o,h.get? b=some o→h'.get? b=some o):YP w h':=x.imp fun γ z=>V0 (fun a o e=>k a o (z.1 a o e)) (z.2.1.keeps k) z.2.2
theorem zv{P:Params}{h:Heap}:∀ (xs:List WData) {vs:List Value},WShape.hasItems [] xs .int=true→WellAll P h vs xs→∀ v∈vs,∃ i t,v=Value.int i t :=
 List.rec (fun Z W v m=>by cases W;exact (List.not_mem_nil m).elim) fun x xs ih vs hp W v m=>by
  have hp:(WShape.has [] x .int&&WShape.hasItems [] xs .int)=true:=hp
  refine Z0 (wellAll_cons_inv W) ?_;intro v' vs' yI hv hr;obtain rfl:=yI
  rcases List.mem_cons.mp m with rfl|m
  ·have h1:=bl hp
   revert h1
   induction hv using Well.casesOn with
   | int i t=>exact fun Z=>V8 i t rfl
   | _=>exact Bool.noConfusion
  ·exact ih (br hp) hr v m
theorem Av{P:Params}{h:Heap}:∀ (xs:List WData) {vs:List Value},WellAll P h vs xs→xs.length=vs.length :=
 List.rec (fun W=>by cases W;rfl) fun x xs ih vs W=>by
  refine Z0 (wellAll_cons_inv W) ?_;intro v' vs' AI Z hr;obtain rfl:=AI
  exact congrArg (·+1) (ih hr)
theorem lC{xs:List WData}(h:WTm.holds [] row.toRowW.pre { args:=[.list xs] }=true):xs.length≤63:=by
 refine Nat.le_of_not_lt fun q=>?_
 have e:WTm.value [] row.toRowW.pre { args:=[.list xs] }=some (.bool false):=by
  have e0:decide ((63:Int)<(xs.length:Int))=true:=decide_eq_true (Int.ofNat_lt.mpr q)
  have e1:WTm.value [] (.lt (.lit (.int 63)) (.len (.arg 0))) { args:=[.list xs] }=some (.bool true):=by
   show some (WData.bool (decide ((63:Int)<(xs.length:Int))))=_
   rw [e0]
  have e2:WTm.value [] (.not (.lt (.lit (.int 63)) (.len (.arg 0)))) { args:=[.list xs] }=some (.bool false):=by
   unfold WTm.value;rw [e1];rfl
  show WTm.value [] (.and (.not (.lt (.lit (.int 63)) (.len (.arg 0)))) (.lit (.bool true))) { args:=[.list xs] }=some (.bool false)
  unfold WTm.value
  rw [e2]
 unfold WTm.holds at h
 rw [e] at h
 exact Bool.noConfusion h
theorem mC{P:Params}{h:Heap}{args:List WData}{vals:List Value}(hp:row.toRowW.claim.pre args=true)(W:WellAll P h vals args) :
  ∃ l vs,vals=[.ref l]∧h.get? l=some { cls := .type "list",data := .seq (List.toArray vs) }∧(∀ v∈vs,∃ i t,v=Value.int i t)∧vs.length≤63:=by
 obtain ⟨h1,h2⟩:=b2 (show (WShape.hasAll [] args [.list .int]&&WTm.holds [] row.toRowW.pre { args:=args })=true from hp)
 cases args with
 | nil=>exact Bool.noConfusion h1
 | cons d ds =>
  have h1:(WShape.has [] d (.list .int)&&WShape.hasAll [] ds [])=true:=h1
  cases ds with
  | cons Z Z=>exact Bool.noConfusion (br h1)
  | nil =>
   refine Z0 (wellAll_cons_inv W) ?_;intro v' vs' DI hv hr;obtain rfl:=DI
   cases hr
   have h3:=bl h1
   clear W h1 hp
   revert h2 h3
   induction hv using Well.casesOn with
   | list e wa =>
    intro h2 h3
    exact aa _ _ rfl e (zv _ ((Bool.or_false _).symm.trans h3) wa) (Av _ wa▸lC h2)
   | _=>exact fun Z=>Bool.noConfusion
noncomputable def iV:Value→V
 | .int i _ => .int i
 | _ => .none
theorem Lk{C:Cx}{t:St}{h:Heap}:∀ {vs:List Value},(∀ v∈vs,∃ i t,v=Value.int i t)→E0 C t h (vs.map iV) vs∧∀ x∈vs.map iV,∃ i,x=V.int i
 | [],_=>⟨rfl,(fun Z h=>(List.not_mem_nil h).elim)⟩
 | v::vs,hv=>by
  refine jh (hv v (.head _)) ?_;intro i tk tI;obtain rfl:=tI
  obtain ⟨h1,h2⟩:=Lk (C:=C) (t:=t) (h:=h) fun v m=>hv v (.tail _ m)
  exact ⟨(L1 _ _ rfl ⟨tk,rfl⟩ h1),List.forall_mem_cons.mpr ⟨⟨i,rfl⟩,h2⟩⟩
noncomputable def tS:St:=⟨fun Z=>0,fun Z=>0,ay none [],no,no⟩
theorem Mk:∀ {k:Nat} {v:V},A1 (ay none []) k=some v→False:=fun {k v} e=>by
 iterate 12 (cases k with|zero=>exact nn e.symm.symm|succ k=>?_)
 exact nn e.symm.symm
theorem yp{k:Nat}:¬tS.live k:=fun l=>l.elim fun Z e=>Mk e
theorem de{b:Addr}:¬tS.foot b:=fun f=>f.elim id fun f=>f.elim fun k z=>yp z.1
theorem nC{w:World}{K:Frag}{h:Heap}:Y0 ⟨w,K,h⟩ tS h :=
 ⟨fun k v e=>(Mk e).elim,fun b f=>(de f).elim,fun k Z l=>(yp l).elim,fun Z f=>f.elim,fun Z Z e=>e,fun Z f=>f⟩
theorem fH:∀ x,x<bS.length→bN x≠"__name__":=by
 have:∀ x∈List.range bS.length,(bN x==("__name__":Str))=false:=by decide +kernel
 exact fun x hx e=>by have:=this x (List.mem_range.mpr hx);rw [e] at this;exact Bool.noConfusion ((beq_self_eq_true _).symm.trans this)
theorem oC:gN 84=row.name:=by kernel_rfl
theorem An:∀ d kwd,defOf qv row.name=some (d,kwd)→WalkO qv xa (XL qv []) YP row.toRowW d kwd fun f vs=>PySem.call f vs:=by
 intro d kwd hd w s₀ s₁ mg mb G Y a o pm cd doc dV kV ha hdat hcr hdf hmg hg args vals as hp hl R W low
 refine TF Y ?_;(repeat clear Y);intro γ hγ hK hf hh hb hk
 have ok:(CC w γ s₁.heap).Ok:=nF hk hK hγ G.T.nolimit ⟨mg,G.T.g⟩ (C0 mb G.T.b (fun x hx=>G.T.builtins _ (fH x hx))) hh hf
 have hfn:Xf γ=true:=(b2 (b2 (b2 hf).1).1).2
 obtain ⟨tok,HT⟩:=fC (w:=w) (B:=s₁.heap) hk hγ hb hfn
 have HF:z7 (CC w γ s₁.heap):=qy hk hγ hb ok hf
 refine lh (mC hp W) ?_;intro l vs rI el hv hlen;obtain rfl:=rI
 obtain ⟨vr,hsc⟩:=Lk (C:=CC w γ s₁.heap) (t:=tS) (h:=s₁.heap) hv
 refine A0 (ok.gl 84 (by decide)) fun a' ea Z=>?_
 have eg:=mg_of hK G.T.g ea
 rw [oC,←defOf_name hd,hmg] at eg
 cases eg
 refine enter_call (codeAny_mono ((ZB (X:=fun Z=>False) ⟨ok,tok⟩ HF HT hsc).run (.ref a) [.ref l] callerA [] tS s₁ rfl ⟨by decide,ea⟩ (L1 _ _ rfl (W8 l l vs rfl de de ⟨rfl,vs.toArray,0,el,rfl,Nat.le_trans hlen (by decide)⟩ vr) rfl) nC (fun Z f=>f.elim) ⟨rfl,by decide +kernel,rfl,by decide +kernel⟩ fun Z h=>(List.not_mem_nil h).elim) fun res s' p=>?_)
 cases res with
 | error e=>exact p.elim fun Z p=>p.elim fun Z p=>p.elim fun Z p=>p.elim fun Z p=>p.elim fun Z p=>p.2.2.1.elim
 | ok f=>cases f with
  | ret v =>
   refine Z0 p ?_;(repeat clear p);intro t' v' x vr' q
   subst q
   obtain rfl:=(show v = .bool true from vr')
   exact E3 (.inl (W8 _ (.bool true) [] rfl (fun Z=>rfl) (.bool true) (by kernel_rfl) (fun Z=>⟨.nil,fun Z h=>(List.not_mem_nil h).elim⟩))) (.of_keep fun b o e=>(x.tr.keep b o e (fun f=>de (.inr f)) id).elim fun o' z=>z.2.1 id▸z.1) x.os (.of_eq (x.gens.trans hg))
  | _=>exact p.elim
theorem yC:(defOf qv row.name).isSome=true:=by kernel_rfl
theorem gH:row.prog.theDef row.name=(defOf qv row.name).map fun x=>(x.1.params,x.1.body,x.1.scope):=by kernel_rfl
theorem hH:(defOf qv row.name).map (fun x=>kwWritten? x.1.params.kwonlyargs x.1.params.kw_defaults)=(defOf qv row.name).map (fun x=>some x.2):=by kernel_rfl
theorem rF:row.prog.bare:=by
 refine ⟨?_,?_,?_,?_,?_,?_⟩<;>kernel_rfl
theorem zC:(chainsOk qv&&opensWell row.prog&&(frees row.toRowW&&row.toRowW.within.isEmpty))=true:=by kernel_rfl
theorem sF:row.promised:=by w_witness2
theorem holds_main(H1:∀ w,qc w)(H2:∀ w,uc w):PySem.Challenge.rw_sm0026_01.Holds:=by
 refine holds_law gG fun hs=>?_
 obtain ⟨⟨d,kwd⟩,hd⟩:=Option.isSome_iff_exists.mp yC
 have h2:=gH
 have h3:=hH
 rw [hd,Option.map_some] at h2
 rw [hd,Option.map_some,Option.map_some] at h3
 exact W.holds_open (q:=qv) (loose:=xa) (Xt:=Xt) (XP:=XL qv []) (Yf:=Yf) (Ya:=Ya) (YP:=YP) (N:=20000) (vy H1 H2) qF wy
  (fun s e=>xl_of s (Bool.and_eq_true_iff.mp e).1) XL.keeps hd h2 (Option.some.inj h3) (fun s e=>recFacts_of (Bool.and_eq_true_iff.mp e).2) (by kernel_rfl) hs zC rF sF (An d kwd hd)
end Mine
theorem PySem.Challenge.cw_sm0026_01_holds : PySem.Challenge.rw_sm0026_01.Holds :=
 Mine.holds_main Mine.heavy1 Mine.heavy2
