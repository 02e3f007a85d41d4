import PyProof.Rows.All
import KE.KBytesWalk
import KE.KDictObj
import KE.KDictAnyGet
import KE.KPop
import KE.KIsBytes
import PyProof.Rows.MaxTwoN
import PyProof.Rows.Range3
import PyProof.Rows.GenSrcRange
import KE.LcTurns
import KE.KLam
import KE.KTryMore
import PyProof.ExcBaseAll.Exception
import PyProof.ExcClass3
import PyProof.InstStoreFacts
import PyProof.FitsInt
import PyProof.StrLawsRepr
import PyProof.ReprReads
import PyProof.CallFns
import PyProof.TableCode
import Wide.All
import OpenK.AllK
import Wide.FinOn
import PySem.Challenge.RW_nn0231_01
set_option Elab.async false
set_option linter.unusedVariables false
set_option linter.unusedSimpArgs false
set_option maxRecDepth 100000
section
namespace Mine
set_option genSizeOf false
theorem mR {α:Type} {b:α} (l:List α) {r:List α} (h:b∈r):b∈l++r:=List.mem_append_right l h
theorem mL {α:Type} {b:α} {l:List α} (r:List α) (h:b∈l):b∈l++r:=List.mem_append_left r h
theorem mQ {α:Type} {b:α} {l:List α}:b∈b::l:=List.mem_cons_self
theorem mC {α:Type} {b:α} (y:α) {l:List α} (h:b∈l):b∈y::l:=List.mem_cons_of_mem y h
theorem mP {α:Type} {b:α} {l r:List α} (h:b∈l++r):b∈l∨b∈r:=List.mem_append.mp h
theorem mN {α:Type} {b y:α} {l:List α} (h:b∈y::l):b=y∨b∈l:=List.mem_cons.mp h
theorem oAA {p0:Prop} {p1:Prop} {p2:Prop} {P:Prop} (h:p0∧p1∧p2) (k:p0→p1→p2→P):P:=k h.1 h.2.1 h.2.2
theorem oAAA {p0:Prop} {p1:Prop} {p2:Prop} {p3:Prop} {P:Prop} (h:p0∧p1∧p2∧p3) (k:p0→p1→p2→p3→P):P:=k h.1 h.2.1 h.2.2.1 h.2.2.2
theorem zxH {p0:Prop} {p1:Prop} {p2:Prop} {p3:Prop} {p4:Prop} {P:Prop} (h:p0∧p1∧p2∧p3∧p4) (k:p0→p1→p2→p3→p4→P):P:=k h.1 h.2.1 h.2.2.1 h.2.2.2.1 h.2.2.2.2
theorem oAAAAA {p0:Prop} {p1:Prop} {p2:Prop} {p3:Prop} {p4:Prop} {p5:Prop} {P:Prop} (h:p0∧p1∧p2∧p3∧p4∧p5) (k:p0→p1→p2→p3→p4→p5→P):P:=k h.1 h.2.1 h.2.2.1 h.2.2.2.1 h.2.2.2.2.1 h.2.2.2.2.2
theorem oAAEA {α:Type} {p0:Prop} {p1:Prop} {p2:α→Prop} {p3:α→Prop} {P:Prop} (h:p0∧p1∧∃ a:α,p2 a∧p3 a) (k:p0→p1→∀ a:α,p2 a→p3 a→P):P:=h.2.2.elim fun a h2=>k h.1 h.2.1 a h2.1 h2.2
theorem oAEA {α:Type} {p0:Prop} {p1:α→Prop} {p2:α→Prop} {P:Prop} (h:p0∧∃ a:α,p1 a∧p2 a) (k:p0→∀ a:α,p1 a→p2 a→P):P:=h.2.elim fun a h1=>k h.1 a h1.1 h1.2
theorem zbI {α:Type} {p0:Prop} {p1:α→Prop} {p2:α→Prop} {p3:α→Prop} {p4:α→Prop} {P:Prop} (h:p0∧∃ a:α,p1 a∧p2 a∧p3 a∧p4 a) (k:p0→∀ a:α,p1 a→p2 a→p3 a→p4 a→P):P:=h.2.elim fun a h1=>k h.1 a h1.1 h1.2.1 h1.2.2.1 h1.2.2.2
theorem oAEEA {α β:Type} {p0:Prop} {p1:α→β→Prop} {p2:α→β→Prop} {P:Prop} (h:p0∧∃ a:α,∃ b:β,p1 a b∧p2 a b) (k:p0→∀ a:α,∀ b:β,p1 a b→p2 a b→P):P:=h.2.elim fun a h1=>h1.elim fun b h2=>k h.1 a b h2.1 h2.2
theorem zbH {α β:Type} {p0:Prop} {p1:α→β→Prop} {p2:α→β→Prop} {p3:α→β→Prop} {P:Prop} (h:p0∧∃ a:α,∃ b:β,p1 a b∧p2 a b∧p3 a b) (k:p0→∀ a:α,∀ b:β,p1 a b→p2 a b→p3 a b→P):P:=h.2.elim fun a h1=>h1.elim fun b h2=>k h.1 a b h2.1 h2.2.1 h2.2.2
theorem oAEEEA {α β γ:Type} {p0:Prop} {p1:α→β→γ→Prop} {p2:α→β→γ→Prop} {P:Prop} (h:p0∧∃ a:α,∃ b:β,∃ c:γ,p1 a b c∧p2 a b c) (k:p0→∀ a:α,∀ b:β,∀ c:γ,p1 a b c→p2 a b c→P):P:=h.2.elim fun a h1=>h1.elim fun b h2=>h2.elim fun c h3=>k h.1 a b c h3.1 h3.2
theorem oEA {α:Type} {p0:α→Prop} {p1:α→Prop} {P:Prop} (h:∃ a:α,p0 a∧p1 a) (k:∀ a:α,p0 a→p1 a→P):P:=h.elim fun a h0=>k a h0.1 h0.2
theorem oEAA {α:Type} {p0:α→Prop} {p1:α→Prop} {p2:α→Prop} {P:Prop} (h:∃ a:α,p0 a∧p1 a∧p2 a) (k:∀ a:α,p0 a→p1 a→p2 a→P):P:=h.elim fun a h0=>k a h0.1 h0.2.1 h0.2.2
theorem ymG {α:Type} {p0:α→Prop} {p1:α→Prop} {p2:α→Prop} {p3:α→Prop} {P:Prop} (h:∃ a:α,p0 a∧p1 a∧p2 a∧p3 a) (k:∀ a:α,p0 a→p1 a→p2 a→p3 a→P):P:=h.elim fun a h0=>k a h0.1 h0.2.1 h0.2.2.1 h0.2.2.2
theorem yoJ {α:Type} {p0:α→Prop} {p1:α→Prop} {p2:α→Prop} {p3:α→Prop} {p4:α→Prop} {P:Prop} (h:∃ a:α,p0 a∧p1 a∧p2 a∧p3 a∧p4 a) (k:∀ a:α,p0 a→p1 a→p2 a→p3 a→p4 a→P):P:=h.elim fun a h0=>k a h0.1 h0.2.1 h0.2.2.1 h0.2.2.2.1 h0.2.2.2.2
theorem znI {α β γ δ:Type} {p0:α→Prop} {p1:α→Prop} {p2:α→Prop} {p3:α→β→γ→δ→Prop} {p4:α→β→γ→δ→Prop} {p5:α→β→γ→δ→Prop} {P:Prop} (h:∃ a:α,p0 a∧p1 a∧p2 a∧∃ b:β,∃ c:γ,∃ d:δ,p3 a b c d∧p4 a b c d∧p5 a b c d) (k:∀ a:α,p0 a→p1 a→p2 a→∀ b:β,∀ c:γ,∀ d:δ,p3 a b c d→p4 a b c d→p5 a b c d→P):P:=h.elim fun a h0=>h0.2.2.2.elim fun b h4=>h4.elim fun c h5=>h5.elim fun d h6=>k a h0.1 h0.2.1 h0.2.2.1 b c d h6.1 h6.2.1 h6.2.2
theorem oEAAE {α β:Type} {p0:α→Prop} {p1:α→Prop} {p2:α→β→Prop} {P:Prop} (h:∃ a:α,p0 a∧p1 a∧∃ b:β,p2 a b) (k:∀ a:α,p0 a→p1 a→∀ b:β,p2 a b→P):P:=h.elim fun a h0=>h0.2.2.elim fun b h3=>k a h0.1 h0.2.1 b h3
theorem zpI {α β:Type} {p0:α→Prop} {p1:α→Prop} {p2:α→β→Prop} {p3:α→β→Prop} {p4:α→β→Prop} {p5:α→β→Prop} {P:Prop} (h:∃ a:α,p0 a∧p1 a∧∃ b:β,p2 a b∧p3 a b∧p4 a b∧p5 a b) (k:∀ a:α,p0 a→p1 a→∀ b:β,p2 a b→p3 a b→p4 a b→p5 a b→P):P:=h.elim fun a h0=>h0.2.2.elim fun b h3=>k a h0.1 h0.2.1 b h3.1 h3.2.1 h3.2.2.1 h3.2.2.2
theorem ziC {α β γ:Type} {p0:α→Prop} {p1:α→Prop} {p2:α→β→γ→Prop} {p3:α→β→γ→Prop} {p4:α→β→γ→Prop} {P:Prop} (h:∃ a:α,p0 a∧p1 a∧∃ b:β,∃ c:γ,p2 a b c∧p3 a b c∧p4 a b c) (k:∀ a:α,p0 a→p1 a→∀ b:β,∀ c:γ,p2 a b c→p3 a b c→p4 a b c→P):P:=h.elim fun a h0=>h0.2.2.elim fun b h3=>h3.elim fun c h4=>k a h0.1 h0.2.1 b c h4.1 h4.2.1 h4.2.2
theorem oEE {α β:Type} {p0:α→β→Prop} {P:Prop} (h:∃ a:α,∃ b:β,p0 a b) (k:∀ a:α,∀ b:β,p0 a b→P):P:=h.elim fun a h0=>h0.elim fun b h1=>k a b h1
theorem oEEA {α β:Type} {p0:α→β→Prop} {p1:α→β→Prop} {P:Prop} (h:∃ a:α,∃ b:β,p0 a b∧p1 a b) (k:∀ a:α,∀ b:β,p0 a b→p1 a b→P):P:=h.elim fun a h0=>h0.elim fun b h1=>k a b h1.1 h1.2
theorem zcE {α β:Type} {p0:α→β→Prop} {p1:α→β→Prop} {p2:α→β→Prop} {P:Prop} (h:∃ a:α,∃ b:β,p0 a b∧p1 a b∧p2 a b) (k:∀ a:α,∀ b:β,p0 a b→p1 a b→p2 a b→P):P:=h.elim fun a h0=>h0.elim fun b h1=>k a b h1.1 h1.2.1 h1.2.2
theorem xC {α β:Type} {p0:α→β→Prop} {p1:α→β→Prop} {p2:α→β→Prop} {p3:α→β→Prop} {P:Prop} (h:∃ a:α,∃ b:β,p0 a b∧p1 a b∧p2 a b∧p3 a b) (k:∀ a:α,∀ b:β,p0 a b→p1 a b→p2 a b→p3 a b→P):P:=h.elim fun a h0=>h0.elim fun b h1=>k a b h1.1 h1.2.1 h1.2.2.1 h1.2.2.2
theorem xJ {α β:Type} {p0:α→β→Prop} {p1:α→β→Prop} {p2:α→β→Prop} {p3:α→β→Prop} {p4:α→β→Prop} {P:Prop} (h:∃ a:α,∃ b:β,p0 a b∧p1 a b∧p2 a b∧p3 a b∧p4 a b) (k:∀ a:α,∀ b:β,p0 a b→p1 a b→p2 a b→p3 a b→p4 a b→P):P:=h.elim fun a h0=>h0.elim fun b h1=>k a b h1.1 h1.2.1 h1.2.2.1 h1.2.2.2.1 h1.2.2.2.2
theorem zaI {α β:Type} {p0:α→β→Prop} {p1:α→β→Prop} {p2:α→β→Prop} {p3:α→β→Prop} {p4:α→β→Prop} {p5:α→β→Prop} {P:Prop} (h:∃ a:α,∃ b:β,p0 a b∧p1 a b∧p2 a b∧p3 a b∧p4 a b∧p5 a b) (k:∀ a:α,∀ b:β,p0 a b→p1 a b→p2 a b→p3 a b→p4 a b→p5 a b→P):P:=h.elim fun a h0=>h0.elim fun b h1=>k a b h1.1 h1.2.1 h1.2.2.1 h1.2.2.2.1 h1.2.2.2.2.1 h1.2.2.2.2.2
theorem wQ {α β γ:Type} {p0:α→β→γ→Prop} {p1:α→β→γ→Prop} {P:Prop} (h:∃ a:α,∃ b:β,∃ c:γ,p0 a b c∧p1 a b c) (k:∀ a:α,∀ b:β,∀ c:γ,p0 a b c→p1 a b c→P):P:=h.elim fun a h0=>h0.elim fun b h1=>h1.elim fun c h2=>k a b c h2.1 h2.2
theorem zY {α β γ:Type} {p0:α→β→γ→Prop} {p1:α→β→γ→Prop} {p2:α→β→γ→Prop} {P:Prop} (h:∃ a:α,∃ b:β,∃ c:γ,p0 a b c∧p1 a b c∧p2 a b c) (k:∀ a:α,∀ b:β,∀ c:γ,p0 a b c→p1 a b c→p2 a b c→P):P:=h.elim fun a h0=>h0.elim fun b h1=>h1.elim fun c h2=>k a b c h2.1 h2.2.1 h2.2.2
theorem z0 {α β γ:Type} {p0:α→β→γ→Prop} {p1:α→β→γ→Prop} {p2:α→β→γ→Prop} {p3:α→β→γ→Prop} {P:Prop} (h:∃ a:α,∃ b:β,∃ c:γ,p0 a b c∧p1 a b c∧p2 a b c∧p3 a b c) (k:∀ a:α,∀ b:β,∀ c:γ,p0 a b c→p1 a b c→p2 a b c→p3 a b c→P):P:=h.elim fun a h0=>h0.elim fun b h1=>h1.elim fun c h2=>k a b c h2.1 h2.2.1 h2.2.2.1 h2.2.2.2
theorem ybE {α β γ:Type} {p0:α→β→γ→Prop} {p1:α→β→γ→Prop} {p2:α→β→γ→Prop} {p3:α→β→γ→Prop} {p4:α→β→γ→Prop} {P:Prop} (h:∃ a:α,∃ b:β,∃ c:γ,p0 a b c∧p1 a b c∧p2 a b c∧p3 a b c∧p4 a b c) (k:∀ a:α,∀ b:β,∀ c:γ,p0 a b c→p1 a b c→p2 a b c→p3 a b c→p4 a b c→P):P:=h.elim fun a h0=>h0.elim fun b h1=>h1.elim fun c h2=>k a b c h2.1 h2.2.1 h2.2.2.1 h2.2.2.2.1 h2.2.2.2.2
theorem zuA {α β γ:Type} {p0:α→β→γ→Prop} {p1:α→β→γ→Prop} {p2:α→β→γ→Prop} {p3:α→β→γ→Prop} {p4:α→β→γ→Prop} {p5:α→β→γ→Prop} {P:Prop} (h:∃ a:α,∃ b:β,∃ c:γ,p0 a b c∧p1 a b c∧p2 a b c∧p3 a b c∧p4 a b c∧p5 a b c) (k:∀ a:α,∀ b:β,∀ c:γ,p0 a b c→p1 a b c→p2 a b c→p3 a b c→p4 a b c→p5 a b c→P):P:=h.elim fun a h0=>h0.elim fun b h1=>h1.elim fun c h2=>k a b c h2.1 h2.2.1 h2.2.2.1 h2.2.2.2.1 h2.2.2.2.2.1 h2.2.2.2.2.2
theorem zfF {α β γ:Type} {p0:α→β→γ→Prop} {p1:α→β→γ→Prop} {p2:α→β→γ→Prop} {p3:α→β→γ→Prop} {p4:α→β→γ→Prop} {p5:α→β→γ→Prop} {p6:α→β→γ→Prop} {P:Prop} (h:∃ a:α,∃ b:β,∃ c:γ,p0 a b c∧p1 a b c∧p2 a b c∧p3 a b c∧p4 a b c∧p5 a b c∧p6 a b c) (k:∀ a:α,∀ b:β,∀ c:γ,p0 a b c→p1 a b c→p2 a b c→p3 a b c→p4 a b c→p5 a b c→p6 a b c→P):P:=h.elim fun a h0=>h0.elim fun b h1=>h1.elim fun c h2=>k a b c h2.1 h2.2.1 h2.2.2.1 h2.2.2.2.1 h2.2.2.2.2.1 h2.2.2.2.2.2.1 h2.2.2.2.2.2.2
theorem oEEEE {α β γ δ:Type} {p0:α→β→γ→δ→Prop} {P:Prop} (h:∃ a:α,∃ b:β,∃ c:γ,∃ d:δ,p0 a b c d) (k:∀ a:α,∀ b:β,∀ c:γ,∀ d:δ,p0 a b c d→P):P:=h.elim fun a h0=>h0.elim fun b h1=>h1.elim fun c h2=>h2.elim fun d h3=>k a b c d h3
theorem zcD {α β γ δ:Type} {p0:α→β→γ→δ→Prop} {p1:α→β→γ→δ→Prop} {p2:α→β→γ→δ→Prop} {P:Prop} (h:∃ a:α,∃ b:β,∃ c:γ,∃ d:δ,p0 a b c d∧p1 a b c d∧p2 a b c d) (k:∀ a:α,∀ b:β,∀ c:γ,∀ d:δ,p0 a b c d→p1 a b c d→p2 a b c d→P):P:=h.elim fun a h0=>h0.elim fun b h1=>h1.elim fun c h2=>h2.elim fun d h3=>k a b c d h3.1 h3.2.1 h3.2.2
theorem zeB {α β γ δ:Type} {p0:α→β→γ→δ→Prop} {p1:α→β→γ→δ→Prop} {p2:α→β→γ→δ→Prop} {p3:α→β→γ→δ→Prop} {P:Prop} (h:∃ a:α,∃ b:β,∃ c:γ,∃ d:δ,p0 a b c d∧p1 a b c d∧p2 a b c d∧p3 a b c d) (k:∀ a:α,∀ b:β,∀ c:γ,∀ d:δ,p0 a b c d→p1 a b c d→p2 a b c d→p3 a b c d→P):P:=h.elim fun a h0=>h0.elim fun b h1=>h1.elim fun c h2=>h2.elim fun d h3=>k a b c d h3.1 h3.2.1 h3.2.2.1 h3.2.2.2
theorem oEEEEAAAA {α β γ δ:Type} {p0:α→β→γ→δ→Prop} {p1:α→β→γ→δ→Prop} {p2:α→β→γ→δ→Prop} {p3:α→β→γ→δ→Prop} {p4:α→β→γ→δ→Prop} {P:Prop} (h:∃ a:α,∃ b:β,∃ c:γ,∃ d:δ,p0 a b c d∧p1 a b c d∧p2 a b c d∧p3 a b c d∧p4 a b c d) (k:∀ a:α,∀ b:β,∀ c:γ,∀ d:δ,p0 a b c d→p1 a b c d→p2 a b c d→p3 a b c d→p4 a b c d→P):P:=h.elim fun a h0=>h0.elim fun b h1=>h1.elim fun c h2=>h2.elim fun d h3=>k a b c d h3.1 h3.2.1 h3.2.2.1 h3.2.2.2.1 h3.2.2.2.2
theorem zkC {α β γ δ ε:Type} {p0:α→β→γ→δ→ε→Prop} {p1:α→β→γ→δ→ε→Prop} {p2:α→β→γ→δ→ε→Prop} {p3:α→β→γ→δ→ε→Prop} {p4:α→β→γ→δ→ε→Prop} {p5:α→β→γ→δ→ε→Prop} {P:Prop} (h:∃ a:α,∃ b:β,∃ c:γ,∃ d:δ,∃ e:ε,p0 a b c d e∧p1 a b c d e∧p2 a b c d e∧p3 a b c d e∧p4 a b c d e∧p5 a b c d e) (k:∀ a:α,∀ b:β,∀ c:γ,∀ d:δ,∀ e:ε,p0 a b c d e→p1 a b c d e→p2 a b c d e→p3 a b c d e→p4 a b c d e→p5 a b c d e→P):P:=h.elim fun a h0=>h0.elim fun b h1=>h1.elim fun c h2=>h2.elim fun d h3=>h3.elim fun e h4=>k a b c d e h4.1 h4.2.1 h4.2.2.1 h4.2.2.2.1 h4.2.2.2.2.1 h4.2.2.2.2.2
noncomputable def On {α:Type} (o:Option α) (P:α→Prop):Prop:=@Option.rec α (fun _=>Prop) True (fun a=>P a) o
theorem On.get {α:Type} {o:Option α} {P:α→Prop} {r:α} (h:On o P) (e:o=some r):P r:=Eq.mp (congrArg (On · P) e) h
theorem On.ite {α:Type} {c:Prop} [i:Decidable c] {x:α} {P:α→Prop} (h:c→P x):On (if c then some x else none) P:=by
 cases i with
 |isTrue q=>exact h q
 |isFalse q=>exact trivial
theorem On.ite' {α:Type} {c:Prop} [i:Decidable c] {o:Option α} {P:α→Prop} (h:c→On o P):On (if c then o else none) P:=by
 cases i with
 |isTrue q=>exact h q
 |isFalse q=>exact trivial
theorem On.iteN {α:Type} {c:Prop} [i:Decidable c] {x:α} {P:α→Prop} (h:¬ c→P x):On (if c then none else some x) P:=by
 cases i with
 |isTrue q=>exact trivial
 |isFalse q=>exact h q
theorem On.map {α β:Type} {f:α→β} {o:Option α} {P:β→Prop} (h:On o fun a=>P (f a)):On (o.map f) P:=by cases o <;> exact h
theorem On.bind {α β:Type} {f:α→Option β} {o:Option α} {P:β→Prop} (h:On o fun a=>On (f a) P):On (o.bind f) P:=by cases o <;> exact h
theorem On.of {α:Type} {o:Option α} {P:α→Prop} (h:∀ r,o=some r→P r):On o P:=by
 cases o with
 |none=>exact trivial
 |some r=>exact h r rfl
noncomputable def SZ:Nat:=65536
inductive PV where
 |none|bool (b:Bool)|int (i:Int)|str (l:List Nat)|bytes (l:List Nat)|ref (i:Nat)
 |tup (vs:List PV)|lst (vs:List PV)|dicI (ks:List Int) (vs:List PV)|dicS (ks:List (List Nat)) (vs:List PV)
 |obj (C:Nat) (ks:List Nat) (vs:List PV)|exc (C:Nat)|cls (C:Nat)|typ (t:Nat)|rng (a b c:Int)
inductive PO where
 |lst (vs:List PV)|dicI (ks:List Int) (vs:List PV)|dicS (ks:List (List Nat)) (vs:List PV)|att (C:Nat) (ks:List Nat) (vs:List PV)|dead
noncomputable abbrev Loc:=List (Option PV)
noncomputable abbrev Hp:=List PO
inductive Rs (α:Type) where
 |ok (a:α) (H:Hp)|exc (C:Nat) (H:Hp)|bad
noncomputable def Rs.bind {α β:Type} (r:Rs α) (f:α→Hp→Rs β):Rs β:=match r with
 | .ok a H=>f a H | .exc C H=>.exc C H | .bad=>.bad
noncomputable def zC {α:Type} (r:Option α) (H:Hp):Rs α:=match r with
 |some a=>.ok a H|none=>.bad
noncomputable def OnR {α:Type} (r:Rs α) (P:α→Hp→Prop):Prop:=@Rs.rec α (fun _=>Prop) (fun a H=>P a H) (fun _ _=>False) True r
theorem OnR.get {α:Type} {r:Rs α} {P:α→Hp→Prop} (h:OnR r P) (hn:r≠ .bad):∃ a H,r= .ok a H∧P a H:=by
 cases r with
 |ok a H=>exact ⟨a,H,rfl,h⟩
 |exc=>exact h.elim
 |bad=>exact absurd rfl hn
theorem OnR.ite {α:Type} {c:Prop} [i:Decidable c] {r:Rs α} {P:α→Hp→Prop} (h:c→OnR r P):OnR (if c then r else .bad) P:=by
 cases i with
 |isTrue q=>exact h q
 |isFalse q=>exact trivial
theorem OnR.bindO {α β:Type} {o:Option α} {f:α→Hp→Rs β} {P:β→Hp→Prop} (h:On o fun a=>OnR (f a H) P):OnR ((zC o H).bind f) P:=by cases o <;> exact h
inductive Fl where
 |next (loc:Loc)|ret (v:PV)|cont (loc:Loc)
set_option genCtorIdx false
set_option genInjectivity false
mutual
inductive E where
 |cst (v:PV)|var (i:Nat)|glo (g:Nat)|clsE (C:Nat)|ty (t:Nat)|attr (e:E) (k:Nat)|idx (a b:E)|slc (a lo hi:E)|neg (a:E)|bin (op:Nat) (a b:E)
 |cmp (op:Nat) (a b:E)|chain (op1 op2:Nat) (a b c:E)|and (es:Es)|or (es:Es)|not (a:E)|ife (t a b:E)
 |tup (es:Es)|lst (es:Es)|dct (isI:Bool) (es:Es)
 |lcomp (i:Nat) (it:E) (isIf:Bool) (cond elt:E)|dcomp (i:Nat) (it:E) (cond key val:E)
 |isin (a b:E)|callC (f:Nat) (es:Es)|callO (f:Nat) (es:Es)|new (C:Nat) (es:Es)|methC (k:Nat) (a:E) (es:Es)|methO (k:Nat) (a:E) (es:Es)
 |bi (b:Nat) (a:E)|dic (isI:Bool) (a:E)|min2 (a b:E)|rng1 (a:E)|rng3 (a b c:E)
 |append (a b:E)|extend (a b:E)|pop (a:E)|dget (a b:E)|dget2 (a b c:E)|dpop (a b:E)|join (a b:E)|enc (a b:E)
 |reprEq (a b:E)|tried (a:E)|frz (a:E)
inductive Es where
 |nil|cons (e:E) (es:Es)
end
set_option genCtorIdx true
mutual
inductive S where
 |asg (i:Nat) (e:E)|asgT (is:List Nat) (e:E)|asgA (a:E) (k:Nat) (e:E)|asgI (a b e:E)|expr (e:E)|ret (e:E)|retN
 |if_ (c:E) (a b:Ss)|while_ (c:E) (a:Ss)|for_ (i:Nat) (e:E) (a:Ss)|raise (C:Nat) (es:Es)|cont|frz (i:Nat)|bad
inductive Ss where
 |nil|cons (s:S) (ss:Ss)
end
set_option genCtorIdx true
set_option genInjectivity true
structure FnR where
 np:Nat
 defs:List PV
 nl:Nat
 body:Ss
noncomputable def zS {κ:Type} [DecidableEq κ]:List κ→List PV→κ→Option PV
 |k::ks,v::vs,x=>if k=x then some v else zS ks vs x
 |_,_,_=>none
noncomputable def setK {κ:Type} [DecidableEq κ]:List κ→List PV→κ→PV→List κ×List PV
 |k::ks,v::vs,x,w=>if k=x then (k::ks,w::vs) else let r:=setK ks vs x w; (k::r.1,v::r.2)
 |_,_,x,w=>([x],[w])
noncomputable def delK {κ:Type} [DecidableEq κ]:List κ→List PV→κ→List κ×List PV
 |k::ks,v::vs,x=>if k=x then (ks,vs) else let r:=delK ks vs x; (k::r.1,v::r.2)
 |_,_,_=>([],[])
noncomputable def zF {α:Type}:List α→Nat→α→List α
 |_::r,0,x=>x::r
 |y::r,n+1,x=>y::zF r n x
 |[],_,_=>[]
noncomputable def zA (H:Hp) (i:Nat):PO:=match H[i]? with
 |some o=>o|none=>.dead
noncomputable def okL:List (Nat×Nat):=[(3,2),(3,3),(4,4),(5,5),(5,6),(6,7),(6,5),(7,8),(7,9),(8,10),(8,11),(9,10),(9,11),(10,12),(10,1),(10,13),(11,14),(11,15),(12,12),(12,16),(12,17),(13,18),(13,19),(13,20)]
noncomputable def okA (C k:Nat):Bool:=okL.contains (C,k)
noncomputable def ymA (k:Nat) (o:PO):Option PV:=match o with
 | .att C ks vs=>if okA C k then zS ks vs k else none
 |_=>none
noncomputable def zaE (v:PV) (k:Nat) (H:Hp):Option PV:=match v with
 | .obj C ks vs=>if okA C k then zS ks vs k else none
 | .ref i=>ymA k (zA H i)
 |_=>none
noncomputable def clsO (o:PO):Option Nat:=match o with
 | .att C _ _=>some C
 |_=>none
noncomputable def clsV (v:PV) (H:Hp):Option Nat:=match v with
 | .obj C _ _=>some C
 | .ref i=>clsO (zA H i)
 |_=>none
noncomputable def lstO' (o:PO):Option (List PV):=match o with
 | .lst vs=>some vs
 |_=>none
noncomputable def lstV (v:PV) (H:Hp):Option (List PV):=match v with
 | .lst vs=>some vs
 | .ref i=>lstO' (zA H i)
 |_=>none
noncomputable def atI (vs:List PV) (i:Int):Option PV:=match i with
 | .ofNat n=>vs[n]?
 | .negSucc n=>if n<vs.length then vs[vs.length-1-n]? else none
noncomputable def idxO (o:PO) (w:PV):Option PV:=match o,w with
 | .lst vs,.int i=>atI vs i
 | .dicI ks vs,.int i=>zS ks vs i
 | .dicS ks vs,.str i=>zS ks vs i
 |_,_=>none
noncomputable def idxV (v w:PV) (H:Hp):Option PV:=match v,w with
 | .tup vs,.int i=>atI vs i
 | .lst vs,.int i=>atI vs i
 | .bytes l,.int (.ofNat n)=>(l[n]?).map fun x=>.int (.ofNat x)
 | .dicI ks vs,.int i=>zS ks vs i
 | .dicS ks vs,.str i=>zS ks vs i
 | .ref j,w=>idxO (zA H j) w
 |_,_=>none
noncomputable def cutL {α:Type} (l:List α) (lo hi:PV):Option (List α):=match lo,hi with
 | .none,.int (.ofNat b)=>some (l.take b)
 | .int (.ofNat a),.none=>some (l.drop a)
 | .int (.ofNat a),.int (.ofNat b)=>some ((l.take b).drop a)
 |_,_=>none
noncomputable def slcV (v lo hi:PV):Option PV:=match v with
 | .bytes l=>(cutL l lo hi).map .bytes
 | .lst l=>(cutL l lo hi).map .lst
 |_=>none
noncomputable def binI (op:Nat) (x y:Int):Option PV:=match op with
 |0=>some (.int (x+y))
 |1=>some (.int (x-y))
 |2=>if x.natAbs≤1000 then some (.int (x*y)) else none
 |3=>if 0<y∧y≤10 ^ 40 then some (.int (Int.fdiv x y)) else none
 |4=>if 0<y∧y≤10 ^ 40 then some (.int (Int.fmod x y)) else none
 |5=>if x=10∧y=38 then some (.int 100000000000000000000000000000000000000) else none
 |_=>none
noncomputable def binV (op:Nat) (a b:PV):Option PV:=match a,b with
 | .int x,.int y=>binI op x y
 | .bytes x,.bytes y=>if op=0∧(x++y).length≤SZ then some (.bytes (x++y)) else none
 | .str x,.str y=>if op=0∧(x++y).length≤SZ then some (.str (x++y)) else none
 | .tup x,.tup y=>if op=0∧(x++y).length≤SZ then some (.tup (x++y)) else none
 | .lst x,.lst y=>if op=0∧(x++y).length≤SZ then some (.lst (x++y)) else none
 |_,_=>none
noncomputable def lenO (o:PO):Option Nat:=match o with
 | .lst vs=>some vs.length
 |_=>none
noncomputable def lenV (v:PV) (H:Hp):Option Nat:=match v with
 | .bytes l=>some l.length
 | .lst vs=>some vs.length
 | .tup vs=>some vs.length
 | .ref i=>lenO (zA H i)
 |_=>none
mutual
noncomputable def yeJ:PV→PV→Bool
 | .tup a,.tup b=>w0 a b
 | .str a,.str b=>a==b
 | .int a,.int b=>a==b
 |_,_=>false
noncomputable def w0:List PV→List PV→Bool
 |[],[]=>true
 |a::as,b::bs=>yeJ a b&&w0 as bs
 |_,_=>false
end
mutual
noncomputable def zX:PV→Nat
 | .tup vs=>z8 vs+1
 |_=>0
noncomputable def z8:List PV→Nat
 |[]=>0
 |v::vs=>max (zX v) (z8 vs)
end
noncomputable def eqO (o o':PO):Option Bool:=match o,o' with
 | .lst x,.lst []=>some x.isEmpty
 | .dicS ks _,.dicS [] _=>some ks.isEmpty
 |_,_=>none
noncomputable def eqD (ks:List (List Nat)) (o:PO):Option Bool:=match o with
 | .dicS [] _=>some ks.isEmpty
 |_=>none
noncomputable def eqV (a b:PV) (H:Hp):Option Bool:=match a,b with
 | .int x,.int y=>some (decide (x=y))
 | .str x,.str y=>some (decide (x=y))
 | .bytes x,.bytes y=>some (decide (x=y))
 | .bool x,.bool y=>some (decide (x=y))
 | .tup x,.tup y=>if w0 x y=true∧z8 x≤20 then some true else none
 | .ref i,.ref j=>eqO (zA H i) (zA H j)
 | .dicS ks _,.ref j=>eqD ks (zA H j)
 |_,_=>none
noncomputable def zaB:List PV→Option (List Int)
 |[]=>some []
 | .int i::r=>(zaB r).map (i:: ·)
 |_=>none
noncomputable def zhD:List PV→Option (List (List Nat))
 |[]=>some []
 | .str i::r=>(zhD r).map (i:: ·)
 |_=>none
noncomputable def zyB:List PV→Option (List (List Nat))
 |[]=>some []
 | .bytes i::r=>(zyB r).map (i:: ·)
 |_=>none
noncomputable def inO (x:Int) (o:PO):Option Bool:=match o with
 | .dicI ks _=>some (decide (x∈ks))
 |_=>none
noncomputable def inV (a b:PV) (H:Hp):Option Bool:=match a,b with
 | .int x,.tup ys=>(zaB ys).map fun l=>decide (x∈l)
 | .bytes x,.tup ys=>(zyB ys).map fun l=>decide (x∈l)
 | .int x,.dicI ks _=>some (decide (x∈ks))
 | .int x,.ref i=>inO x (zA H i)
 |_,_=>none
noncomputable def isNone:PV→Bool
 | .none=>true
 |_=>false
noncomputable def cmpN (op:Nat) (x y:Int):Option Bool:=match op with
 |2=>some (decide (x<y))
 |3=>some (decide (x≤y))
 |4=>some (decide (y<x))
 |5=>some (decide (y≤x))
 |_=>none
noncomputable def cmpI (op:Nat) (a b:PV):Option Bool:=match a,b with
 | .int x,.int y=>cmpN op x y
 |_,_=>none
noncomputable def cmpV (op:Nat) (a b:PV) (H:Hp):Option Bool:=match op with
 |0=>eqV a b H
 |1=>(eqV a b H).map (!·)
 |6=>if isNone b then some (isNone a) else none
 |7=>if isNone b then some (!isNone a) else none
 |8=>inV a b H
 |9=>(inV a b H).map (!·)
 |op=>cmpI op a b
noncomputable def sub (C D:Nat):Bool:=C==D||(D==0&&(C==1||C==2))||(D==8&&C==9)
noncomputable def isO (D:Nat) (o:PO):Option Bool:=match o with
 | .att C _ _=>if 3≤C∧C<14 then some (sub C D) else none
 | .dead=>none
 |_=>some false
noncomputable def isC (D:Nat) (v:PV) (H:Hp):Option Bool:=match v with
 | .obj C _ _=>if 3≤C∧C<14 then some (sub C D) else none
 | .exc C=>if C=D then some true else none
 | .ref i=>isO D (zA H i)
 | .cls _ | .typ _ | .rng _ _ _=>none
 |_=>some false
noncomputable def isT (t:Nat) (v:PV):Option Bool:=match v with
 | .bool _=>some (decide (t<2))
 | .int _=>some (decide (t=1))
 | .lst _=>some (decide (t=2))
 | .dicI _ _ | .dicS _ _=>some (decide (t=3))
 | .none | .str _ | .bytes _ | .tup _=>some false
 | .obj C _ _=>if 3≤C∧C<14 then some false else none
 |_=>none
noncomputable def zuH (v c:PV) (H:Hp):Option Bool:=match c with
 | .cls D=>if D<14 then isC D v H else none
 | .typ t=>if t<4 then isT t v else none
 |_=>none
noncomputable def yG (i:Int):List Nat:=match i with
 | .ofNat n=>(Nat.toDigits 10 n).map Char.toNat
 | .negSucc n=>45::(Nat.toDigits 10 (n+1)).map Char.toNat
noncomputable def insI (x:Int):List Int→List Int
 |[]=>[x]
 |y::r=>if x<y then x::y::r else y::insI x r
noncomputable def zxB:List Int→List Int
 |[]=>[]
 |x::r=>insI x (zxB r)
noncomputable def ltS:List Nat→List Nat→Bool
 |_,[]=>false
 |[],_::_=>true
 |a::r,b::s=>if a<b then true else if a=b then ltS r s else false
noncomputable def insS (x:List Nat):List (List Nat)→List (List Nat)
 |[]=>[x]
 |y::r=>if ltS x y then x::y::r else y::insS x r
noncomputable def wC:List (List Nat)→List (List Nat)
 |[]=>[]
 |x::r=>insS x (wC r)
noncomputable def zhB:List PV→Option (List Nat)
 |[]=>some []
 | .int (.ofNat n)::r=>if n<256 then (zhB r).map (n:: ·) else none
 |_=>none
noncomputable def biStr (v:PV):Option PV:=match v with
 | .int i=>if i.natAbs≤10 ^ 60 then some (.str (yG i)) else none
 |_=>none
noncomputable def biChr (v:PV):Option PV:=match v with
 | .int (.ofNat n)=>if n<256 then some (.str [n]) else none
 |_=>none
noncomputable def biByt (v:PV) (H:Hp):Option PV:=match v with
 | .bytes l=>some (.bytes l)
 |v=>(lstV v H).bind fun vs=>(zhB vs).map .bytes
noncomputable def biSrt (v:PV):Option PV:=match v with
 | .dicI ks _=>if ks.length<64 then some (.lst ((zxB ks).map .int)) else none
 | .dicS ks _=>if ks.length<64 then some (.lst ((wC ks).map .str)) else none
 |_=>none
noncomputable def biV (b:Nat) (v:PV) (H:Hp):Option PV:=match b with
 |0=>(lenV v H).map fun n=>.int (.ofNat n)
 |1=>biStr v
 |2=>biChr v
 |3=>biByt v H
 |4=>(lstV v H).map .tup
 |5=>biSrt v
 |_=>none
noncomputable def zgJ:List PV→Option (List Int×List PV)
 |[]=>some ([],[])
 | .tup [.int k,v]::r=>(zgJ r).bind fun q=>if k∈q.1 then none else some (k::q.1,v::q.2)
 |_=>none
noncomputable def zgI:List PV→Option (List (List Nat)×List PV)
 |[]=>some ([],[])
 | .tup [.str k,v]::r=>(zgI r).bind fun q=>if k∈q.1 then none else some (k::q.1,v::q.2)
 |_=>none
noncomputable def dicV (isI:Bool) (v:PV):Option PO:=match v with
 | .dicI ks vs=>if isI then some (.dicI ks vs) else none
 | .dicS ks vs=>if isI then none else some (.dicS ks vs)
 | .lst vs=>if isI then (zgJ vs).map fun q=>.dicI q.1 q.2 else (zgI vs).map fun q=>.dicS q.1 q.2
 |_=>none
noncomputable def zyA (vs:List PV):Option (List Nat):=(zhD vs).bind fun ls=>if ls.all (fun l=>decide (l.length≤16)) then some ls.flatten else none
noncomputable def rngL (a b c:Int):List PV:=match c with
 | .ofNat (c+1)=>(List.range ((b-a+(c:Int)).toNat / (c+1))).map fun (i:Nat)=>.int (a+(i:Int)*((c:Int)+1))
 |_=>[]
noncomputable def yS:PV→Option (List PV)
 | .lst vs=>some vs
 | .bytes l=>some (l.map fun x=>.int (.ofNat x))
 | .rng a b c=>if 0<c∧(a.natAbs≤1000000∧b.natAbs≤1000000∧c.natAbs≤1000)∧(rngL a b c).length≤SZ then some (rngL a b c) else none
 | .dicI ks _=>some (ks.map .int)
 | .dicS ks _=>some (ks.map .str)
 |_=>none
noncomputable def frO (i:Nat) (H:Hp) (o:PO):Option (PV×Hp):=match o with
 | .lst vs=>some (.lst vs,zF H i .dead)
 | .dicI ks vs=>some (.dicI ks vs,zF H i .dead)
 | .dicS ks vs=>some (.dicS ks vs,zF H i .dead)
 |_=>none
noncomputable def xV (v:PV) (H:Hp):Option (PV×Hp):=match v with
 | .ref i=>frO i H (zA H i)
 |v=>some (v,H)
noncomputable def ycJ:List PV→Hp→Option (List PV×Hp)
 |[],H=>some ([],H)
 |v::r,H=>(xV v H).bind fun q=>(ycJ r q.2).map fun p=>(q.1::p.1,p.2)
noncomputable def fvO (i:Nat) (H:Hp) (o:PO):Option (PV×Hp):=match o with
 | .att C ks vs=>(ycJ vs (zF H i .dead)).map fun q=>(.obj C ks q.1,q.2)
 |_=>xV (.ref i) H
noncomputable def frzV (v:PV) (H:Hp):Option (PV×Hp):=match v with
 | .ref i=>fvO i H (zA H i)
 |v=>some (v,H)
mutual
noncomputable def closed:PV→Bool
 | .ref _=>false
 | .tup vs | .lst vs | .dicI _ vs | .dicS _ vs | .obj _ _ vs=>zO vs
 |_=>true
noncomputable def zO:List PV→Bool
 |[]=>true
 |v::vs=>closed v&&zO vs
end
mutual
noncomputable def wO:PV→PV→Bool
 | .tup a,.tup b=>znD a b
 | .str a,.str b=>a==b
 | .bytes a,.bytes b=>a==b
 | .int a,.int b=>a==b
 |_,_=>false
noncomputable def znD:List PV→List PV→Bool
 |[],[]=>true
 |a::as,b::bs=>wO a b&&znD as bs
 |_,_=>false
end
mutual
noncomputable def okR:PV→Bool
 | .tup vs=>okRs vs
 | .str l=>l.all (· < 4294967296)
 | .bytes _=>true
 | .int i=>decide (i.natAbs<10 ^ 60)
 |_=>false
noncomputable def okRs:List PV→Bool
 |[]=>true
 |v::vs=>okR v&&okRs vs
end
mutual
noncomputable def szR:PV→Nat
 | .tup vs=>szRs vs+3
 | .str l=>10*l.length+2
 | .bytes l=>4*l.length+3
 | .int _=>61
 |_=>0
noncomputable def szRs:List PV→Nat
 |[]=>0
 |v::vs=>szR v+2+szRs vs
end
noncomputable def compLoop {α:Type} (f:PV→Hp→Rs (Option α)):List PV→Hp→Rs (List α)
 |[],H=>.ok [] H
 |v::vs,H=>(f v H).bind fun r H=>(compLoop f vs H).bind fun rs H=>.ok (match r with
  |some x=>x::rs
  |none=>rs) H
noncomputable def zfH {α:Type} (r:Rs α):Rs α:=match r with
 | .exc _ _=>.bad
 |r=>r
noncomputable abbrev Call:=Nat→List PV→Hp→Rs PV
structure Tab where
 fns:Nat→Option FnR
 meth:Nat→Nat→Option Nat
 init:Nat→Option Nat
 glo:Nat→Option PV
@[irreducible] noncomputable def closedCall (c:Call) (f:Nat) (vs:List PV) (H:Hp):Rs PV:=if zO vs then match c f vs [] with
 | .ok v _=>if closed v then .ok v H else .bad
 | .exc C _=>.exc C H
 | .bad=>.bad
 else .bad
noncomputable def zM (v:PV):Option Bool:=match v with
 | .bool b=>some b
 |_=>none
noncomputable def y9 (isI:Bool) (ks vs:List PV):Option PV:=match isI with
 |true=>(zaB ks).bind fun l=>if l.Nodup then some (.dicI l vs) else none
 |false=>(zhD ks).bind fun l=>if l.Nodup then some (.dicS l vs) else none
noncomputable def alt:List PV→List PV×List PV
 |k::v::r=>(k::(alt r).1,v::(alt r).2)
 |_=>([],[])
noncomputable def refO (i:Nat) (o:PO):Option (Nat×List PV):=match o with
 | .lst vs=>some (i,vs)
 |_=>none
noncomputable def yD (v:PV) (H:Hp):Option (Nat×List PV):=match v with
 | .ref i=>refO i (zA H i)
 |_=>none
noncomputable def zV (b:Bool) (H:Hp):Rs Unit:=if b then .ok () H else .bad
noncomputable def isL (v:PV) (H:Hp):Bool:=(yD v H).isSome
noncomputable def isDO (o:PO):Bool:=match o with
 | .dicI _ _=>true
 |_=>false
noncomputable def isD (v:PV) (H:Hp):Bool:=match v with
 | .ref i=>isDO (zA H i)
 |_=>false
noncomputable def isDS (v:PV):Bool:=match v with
 | .dicS _ _=>true
 |_=>false
noncomputable def isDI (v:PV):Bool:=match v with
 | .dicI _ _=>true
 |_=>false
noncomputable def isS (v:PV):Bool:=match v with
 | .str _=>true
 |_=>false
theorem rb1 {α β:Type} {a:α} {f:α→Hp→Rs β}:(Rs.ok a H).bind f=f a H:=rfl
set_option genCtorIdx false in
set_option genInjectivity false in
inductive KZ where
 |attr (k:Nat)|idx (v:PV)|slc (v w:PV)|neg|bin (op:Nat) (v:PV)|cmp (op:Nat) (v:PV)|not|isin (v:PV)|bi (b:Nat)|dic (isI:Bool)|min2 (v:PV)|rng1|rng3 (v w:PV)|append (v:PV)|extend (v:PV)|pop
 |dget (v:PV)|dget2 (v w:PV)|dpop (v:PV)|join (v:PV)|enc (v:PV)|repr (v:PV)|frz|new (n:Nat)
noncomputable def negZ (v:PV) (H:Hp):Rs PV:=match v with
 | .int i=>.ok (.int (-i)) H
 |_=>.bad
noncomputable def minZ (v w:PV) (H:Hp):Rs PV:=match v,w with
 | .int x,.int y=>.ok (.int (if y<x then y else x)) H
 |_,_=>.bad
noncomputable def rngZ (v:PV) (H:Hp):Rs PV:=match v with
 | .int x=>.ok (.rng 0 x 1) H
 |_=>.bad
noncomputable def rnZ (v w x:PV) (H:Hp):Rs PV:=match v,w,x with
 | .int i,.int j,.int k=>if i.natAbs≤1000000∧j.natAbs≤1000000∧0<k∧k≤1000 then .ok (.rng i j k) H else .bad
 |_,_,_=>.bad
noncomputable def apZ (q:Option (Nat×List PV)) (w:PV) (H:Hp):Rs PV:=match q with
 |some (i,vs)=>if vs.length<SZ then .ok .none (zF H i (.lst (vs++[w]))) else .bad
 |none=>.bad
noncomputable def exZ (q:Option (Nat×List PV)) (r:Option (List PV)) (H:Hp):Rs PV:=match q,r with
 |some (i,vs),some ws=>if (vs++ws).length≤SZ then .ok .none (zF H i (.lst (vs++ws))) else .bad
 |_,_=>.bad
noncomputable def poL (i:Nat) (vs:List PV) (o:Option PV) (H:Hp):Rs PV:=match o with
 |some x=>.ok x (zF H i (.lst vs.dropLast))
 |none=>.bad
noncomputable def poZ (q:Option (Nat×List PV)) (H:Hp):Rs PV:=match q with
 |some (i,vs)=>poL i vs vs.getLast? H
 |none=>.bad
noncomputable def dpL (i:Nat) (ks:List Int) (vs:List PV) (k:Int) (o:Option PV) (H:Hp):Rs PV:=match o with
 |some x=>let q:=delK ks vs k; .ok x (zF H i (.dicI q.1 q.2))
 |none=>.bad
noncomputable def dpZ (i:Nat) (k:Int) (o:PO) (H:Hp):Rs PV:=match o with
 | .dicI ks vs=>dpL i ks vs k (zS ks vs k) H
 |_=>.bad
noncomputable def joZ (o:Option (List Nat)) (H:Hp):Rs PV:=match o with
 |some l=>if l.length≤SZ then .ok (.str l) H else .bad
 |none=>.bad
noncomputable def fzZ (o:Option (PV×Hp)):Rs PV:=match o with
 |some (v,H)=>.ok v H
 |none=>.bad
noncomputable def dgZ (v w:PV) (H:Hp):Rs PV:=match v,w with
 | .dicS ks vs,.str k=>.ok ((zS ks vs k).getD .none) H
 |_,_=>.bad
noncomputable def dhZ (v w x:PV) (H:Hp):Rs PV:=match v,w with
 | .dicI ks vs,.int k=>.ok ((zS ks vs k).getD x) H
 |_,_=>.bad
noncomputable def dpV (v w:PV) (H:Hp):Rs PV:=match v,w with
 | .ref i,.int k=>dpZ i k (zA H i) H
 |_,_=>.bad
noncomputable def jnZ (v:PV) (o:Option (List Nat)) (H:Hp):Rs PV:=match v with
 | .str []=>joZ o H
 |_=>.bad
noncomputable def enZ (v w:PV) (H:Hp):Rs PV:=match v,w with
 | .str l,.str c=>if c=[97,115,99,105,105]∧l.all (· < 128)∧l.length≤SZ then .ok (.bytes l) H else .bad
 |_,_=>.bad
noncomputable def kZ:KZ→PV→Hp→Rs PV
 | .attr k,v,H=>zC (zaE v k H) H
 | .idx v,w,H=>zC (idxV v w H) H
 | .slc v w,x,H=>zC (slcV v w x) H
 | .neg,v,H=>negZ v H
 | .bin op v,w,H=>zC (binV op v w) H
 | .cmp op v,w,H=>zC ((cmpV op v w H).map .bool) H
 | .not,v,H=>zC ((zM v).map fun b=>.bool (!b)) H
 | .isin v,w,H=>zC ((zuH v w H).map .bool) H
 | .bi b,v,H=>zC (biV b v H) H
 | .dic isI,v,H=>(zC (dicV isI v) H).bind fun o H=>.ok (.ref H.length) (H++[o])
 | .min2 v,w,H=>minZ v w H
 | .rng1,v,H=>rngZ v H
 | .rng3 v w,x,H=>rnZ v w x H
 | .append v,w,H=>apZ (yD v H) w H
 | .extend v,w,H=>exZ (yD v H) (lstV w H) H
 | .pop,v,H=>poZ (yD v H) H
 | .dget v,w,H=>dgZ v w H
 | .dget2 v w,x,H=>dhZ v w x H
 | .dpop v,w,H=>dpV v w H
 | .join v,w,H=>jnZ v ((lstV w H).bind zyA) H
 | .enc v,w,H=>enZ v w H
 | .repr v,w,H=>if wO v w then .ok (.bool true) H else .bad
 | .frz,v,H=>fzZ (frzV v H)
 | .new n,r,H=>if isNone r then .ok (.ref n) H else .bad
set_option genCtorIdx false in
set_option genInjectivity false in
inductive KL where
 |tup|lst|dct (isI:Bool)|callC (f:Nat)|callO (f:Nat)|new (C:Nat)|methC (v:PV) (f:Nat)|methO (v:PV) (f:Nat)
noncomputable def nwZ (c:Call) (C:Nat) (vs:List PV) (o:Option Nat) (H:Hp):Rs PV:=match o with
 |some f=>(c f (.ref H.length::vs) (H++[.att C [] []])).bind (kZ (.new H.length))
 |none=>.bad
noncomputable def lsZ (vs:List PV) (H:Hp):Rs PV:=match vs with
 |[]=>.ok (.ref H.length) (H++[.lst []])
 |v::vs=>if (v::vs).length≤SZ then .ok (.lst (v::vs)) H else .bad
noncomputable def dcZ (isI:Bool) (q:List PV) (H:Hp):Rs PV:=match q with
 |[]=>.ok (.ref H.length) (H++[if isI then .dicI [] [] else .dicS [] []])
 |k::r=>if (k::r).length≤SZ then zC (y9 isI (alt (k::r)).1 (alt (k::r)).2) H else .bad
noncomputable def kL (T:Tab) (c:Call):KL→List PV→Hp→Rs PV
 | .tup,vs,H=>if vs.length≤SZ then .ok (.tup vs) H else .bad
 | .lst,vs,H=>lsZ vs H
 | .dct isI,q,H=>dcZ isI q H
 | .callC f,vs,H=>closedCall c f vs H
 | .callO f,vs,H=>c f vs H
 | .new C,vs,H=>nwZ c C vs (T.init C) H
 | .methC v f,vs,H=>closedCall c f (v::vs) H
 | .methO v f,vs,H=>c f (v::vs) H
noncomputable def kIf {α:Type} (a b:Hp→Rs α) (r:Bool) (H:Hp):Rs α:=if r then a H else b H
noncomputable def kB {α β:Type} (g:Hp→Rs α) (k:α→Hp→Rs β) (H:Hp):Rs β:=(g H).bind k
noncomputable def kU {α β:Type} (g:Hp→Rs α) (k:α→Hp→Rs β) (_:Unit) (H:Hp):Rs β:=(g H).bind k
noncomputable def kY (g:Hp→Rs PV) (z:PV→KZ) (v:PV) (H:Hp):Rs PV:=(g H).bind (kZ (z v))
noncomputable def kM (g:Hp→Rs (List PV)) (k:Nat→List PV→Hp→Rs PV) (f:Nat) (H:Hp):Rs PV:=(g H).bind (k f)
noncomputable def kI (i:Nat) (loc:Loc) (isIf:Bool) (cond elt:Loc→Hp→Rs PV) (x:PV) (H:Hp):Rs (Option PV):=let loc':=zF loc i (some x)
 if isIf then (cond loc' H).bind fun b H=>(zC (zM b) H).bind fun b H=>if b then (elt loc' H).bind fun v H=>.ok (some v) H else .ok none H
 else (elt loc' H).bind fun v H=>.ok (some v) H
noncomputable def kD (i:Nat) (loc:Loc) (cond key val:Loc→Hp→Rs PV) (x:PV) (H:Hp):Rs (Option (PV×PV)):=let loc':=zF loc i (some x)
 (cond loc' H).bind fun b H=>(zC (zM b) H).bind fun b H=>if b then (key loc' H).bind fun k H=>(val loc' H).bind fun v H=>.ok (some (k,v)) H else .ok none H
set_option genCtorIdx false in
set_option genInjectivity false in
inductive KX where
 |two (g:Hp→Rs PV) (z:PV→KZ)|three (g g2:Hp→Rs PV) (z:PV→PV→KZ)|gtwo (p:PV→Hp→Bool) (g:Hp→Rs PV) (z:PV→KZ)|gthree (p:PV→Hp→Bool) (g g2:Hp→Rs PV) (z:PV→PV→KZ)
 |ch (op:Nat) (g:Hp→Rs PV) (z:PV→PV→Hp→Rs PV)|chB (op:Nat) (v:PV) (op2:Nat) (g:Hp→Rs PV)|ife (g g2:Hp→Rs PV)|meth (m:Nat→Nat→Option Nat) (k:Nat) (g:Hp→Rs (List PV)) (z:PV→Nat→List PV→Hp→Rs PV)
 |lcomp (f:PV→Hp→Rs (Option PV))|dcomp (f:PV→Hp→Rs (Option (PV×PV)))
noncomputable def kX:KX→PV→Hp→Rs PV
 | .two g z,v,H=>(g H).bind (kZ (z v))
 | .three g g2 z,v,H=>(g H).bind (kY g2 (z v))
 | .gtwo p g z,v,H=>(zV (p v H) H).bind (kU g (kZ (z v)))
 | .gthree p g g2 z,v,H=>(zV (p v H) H).bind (kU g (kY g2 (z v)))
 | .ch _ g z,v,H=>(g H).bind (z v)
 | .chB op v op2 g,w,H=>(zC (cmpV op v w H) H).bind (kIf (kB g (kZ (.cmp op2 w))) (.ok (.bool false)))
 | .ife a b,v,H=>(zC (zM v) H).bind (kIf a b)
 | .meth m k g z,v,H=>(zC ((clsV v H).bind fun C=>m C k) H).bind (kM g (z v))
 | .lcomp f,v,H=>(zC (yS v) H).bind fun items H=>(zfH <| compLoop f items H).bind fun vs H=>.ok (.lst vs) H
 | .dcomp f,v,H=>(zC (yS v) H).bind fun items H=>(zfH <| compLoop f items H).bind fun vs H=>zC (y9 false (vs.map (·.1)) (vs.map (·.2))) H
noncomputable def kV (o:Option (Option PV)) (H:Hp):Rs PV:=match o with
 |some (some v)=>.ok v H
 |_=>.bad
noncomputable def kT (r:Rs PV):Rs PV:=match r with
 | .ok v H=>.ok (.tup [v,.none]) H
 | .exc C H=>if sub C 0 then .ok (.tup [.none,.exc C]) H else .bad
 | .bad=>.bad
noncomputable def kC (g:Hp→Rs (List PV)) (v:PV) (H:Hp):Rs (List PV):=(g H).bind fun vs H=>.ok (v::vs) H
mutual
noncomputable def evE (T:Tab) (c:Call):E→Loc→Hp→Rs PV
 | .cst v,_,H=>.ok v H
 | .var i,loc,H=>kV loc[i]? H
 | .glo g,_,H=>zC (T.glo g) H
 | .clsE C,_,H=>.ok (.cls C) H
 | .ty t,_,H=>.ok (.typ t) H
 | .attr e k,loc,H=>(evE T c e loc H).bind (kZ (.attr k))
 | .idx a b,loc,H=>(evE T c a loc H).bind (kX (.two (evE T c b loc) .idx))
 | .slc a b d,loc,H=>(evE T c a loc H).bind (kX (.three (evE T c b loc) (evE T c d loc) .slc))
 | .neg a,loc,H=>(evE T c a loc H).bind (kZ .neg)
 | .bin op a b,loc,H=>(evE T c a loc H).bind (kX (.two (evE T c b loc) (.bin op)))
 | .cmp op a b,loc,H=>(evE T c a loc H).bind (kX (.two (evE T c b loc) (.cmp op)))
 | .chain o1 o2 a b d,loc,H=>(evE T c a loc H).bind (kX (.ch 0 (evE T c b loc) (fun v=>kX (.chB o1 v o2 (evE T c d loc)))))
 | .and es,loc,H=>zlE T c es loc H
 | .or es,loc,H=>evOr T c es loc H
 | .not a,loc,H=>(evE T c a loc H).bind (kZ .not)
 | .ife t a b,loc,H=>(evE T c t loc H).bind (kX (.ife (evE T c a loc) (evE T c b loc)))
 | .tup es,loc,H=>(evEs T c es loc H).bind (kL T c .tup)
 | .lst es,loc,H=>(evEs T c es loc H).bind (kL T c .lst)
 | .dct isI es,loc,H=>(evEs T c es loc H).bind (kL T c (.dct isI))
 | .lcomp i it isIf cond elt,loc,H=>(evE T c it loc H).bind (kX (.lcomp (kI i loc isIf (evE T c cond) (evE T c elt))))
 | .dcomp i it cond key val,loc,H=>(evE T c it loc H).bind (kX (.dcomp (kD i loc (evE T c cond) (evE T c key) (evE T c val))))
 | .isin a b,loc,H=>(evE T c a loc H).bind (kX (.two (evE T c b loc) .isin))
 | .callC f es,loc,H=>(evEs T c es loc H).bind (kL T c (.callC f))
 | .callO f es,loc,H=>(evEs T c es loc H).bind (kL T c (.callO f))
 | .new C es,loc,H=>(evEs T c es loc H).bind (kL T c (.new C))
 | .methC k a es,loc,H=>(evE T c a loc H).bind (kX (.meth T.meth k (evEs T c es loc) fun v f=>kL T c (.methC v f)))
 | .methO k a es,loc,H=>(evE T c a loc H).bind (kX (.meth T.meth k (evEs T c es loc) fun v f=>kL T c (.methO v f)))
 | .bi b a,loc,H=>(evE T c a loc H).bind (kZ (.bi b))
 | .dic isI a,loc,H=>(evE T c a loc H).bind (kZ (.dic isI))
 | .min2 a b,loc,H=>(evE T c a loc H).bind (kX (.two (evE T c b loc) .min2))
 | .rng1 a,loc,H=>(evE T c a loc H).bind (kZ .rng1)
 | .rng3 a b d,loc,H=>(evE T c a loc H).bind (kX (.three (evE T c b loc) (evE T c d loc) .rng3))
 | .append a b,loc,H=>(evE T c a loc H).bind (kX (.gtwo isL (evE T c b loc) .append))
 | .extend a b,loc,H=>(evE T c a loc H).bind (kX (.gtwo isL (evE T c b loc) .extend))
 | .pop a,loc,H=>(evE T c a loc H).bind (kZ .pop)
 | .dget a b,loc,H=>(evE T c a loc H).bind (kX (.gtwo (fun v _=>isDS v) (evE T c b loc) .dget))
 | .dget2 a b d,loc,H=>(evE T c a loc H).bind (kX (.gthree (fun v _=>isDI v) (evE T c b loc) (evE T c d loc) .dget2))
 | .dpop a b,loc,H=>(evE T c a loc H).bind (kX (.gtwo isD (evE T c b loc) .dpop))
 | .join a b,loc,H=>(evE T c a loc H).bind (kX (.gtwo (fun v _=>isS v) (evE T c b loc) .join))
 | .enc a b,loc,H=>(evE T c a loc H).bind (kX (.gtwo (fun v _=>isS v) (evE T c b loc) .enc))
 | .reprEq a b,loc,H=>(evE T c a loc H).bind (kX (.gtwo (fun v _=>okR v&&decide (szR v≤SZ)&&decide (zX v≤20)) (evE T c b loc) .repr))
 | .tried a,loc,H=>kT (evE T c a loc H)
 | .frz a,loc,H=>(evE T c a loc H).bind (kZ .frz)
noncomputable def evEs (T:Tab) (c:Call):Es→Loc→Hp→Rs (List PV)
 | .nil,_,H=>.ok [] H
 | .cons e es,loc,H=>(evE T c e loc H).bind (kC (evEs T c es loc))
noncomputable def zlE (T:Tab) (c:Call):Es→Loc→Hp→Rs PV
 | .nil,_,_=>.bad
 | .cons e .nil,loc,H=>evE T c e loc H
 | .cons e es,loc,H=>(evE T c e loc H).bind (kX (.ife (zlE T c es loc) (.ok (.bool false))))
noncomputable def evOr (T:Tab) (c:Call):Es→Loc→Hp→Rs PV
 | .nil,_,_=>.bad
 | .cons e .nil,loc,H=>evE T c e loc H
 | .cons e es,loc,H=>(evE T c e loc H).bind (kX (.ife (.ok (.bool true)) (evOr T c es loc)))
end
noncomputable def zZ:List Nat→List PV→Loc→Option Loc
 |[],[],loc=>some loc
 |i::is,v::vs,loc=>zZ is vs (zF loc i (some v))
 |_,_,_=>none
noncomputable def z4 (i:Nat) (f:Loc→Hp→Rs Fl):List PV→Loc→Hp→Rs Fl
 |[],loc,H=>.ok (.next loc) H
 |v::vs,loc,H=>(f (zF loc i (some v)) H).bind fun r H=>match r with
  | .next loc=>z4 i f vs loc H
  | .cont loc=>z4 i f vs loc H
  | .ret v=>.ok (.ret v) H
noncomputable def zL (t:Loc→Hp→Rs PV) (f:Loc→Hp→Rs Fl):Nat→Loc→Hp→Rs Fl
 |0,_,_=>.bad
 |n+1,loc,H=>(t loc H).bind fun v H=>(zC (zM v) H).bind fun b H=>if b then (f loc H).bind fun r H=>match r with
   | .next loc=>zL t f n loc H
   | .cont loc=>zL t f n loc H
   | .ret v=>.ok (.ret v) H
  else .ok (.next loc) H
noncomputable def fuel:Nat:=100
set_option genCtorIdx false in
set_option genInjectivity false in
inductive KS where
 |asg (i:Nat) (loc:Loc)|asgT (is:List Nat) (loc:Loc)|asgA (k:Nat) (w:PV) (loc:Loc)|asgI (w v:PV) (loc:Loc)|expr (loc:Loc)|ret
noncomputable def saZ (k:Nat) (w:PV) (loc:Loc) (i:Nat) (o:PO) (H:Hp):Rs Fl:=match o with
 | .att C ks vs=>if okA C k&&decide (ks.length<100) then let q:=setK ks vs k w; .ok (.next loc) (zF H i (.att C q.1 q.2)) else .bad
 |_=>.bad
noncomputable def siZ (w:PV) (i:Nat) (loc:Loc) (o:PO) (k:PV) (H:Hp):Rs Fl:=match o,k with
 | .dicI ks vs,.int k=>let q:=setK ks vs k w; if ks.length<SZ then .ok (.next loc) (zF H i (.dicI q.1 q.2)) else .bad
 | .dicS ks vs,.str k=>let q:=setK ks vs k w; if ks.length<SZ then .ok (.next loc) (zF H i (.dicS q.1 q.2)) else .bad
 |_,_=>.bad
noncomputable def stZ (is:List Nat) (loc:Loc) (v:PV) (H:Hp):Rs Fl:=match v with
 | .tup vs=>zC ((zZ is vs loc).map .next) H
 |_=>.bad
noncomputable def saV (k:Nat) (w:PV) (loc:Loc) (v:PV) (H:Hp):Rs Fl:=match v with
 | .ref i=>saZ k w loc i (zA H i) H
 |_=>.bad
noncomputable def siV (w v:PV) (loc:Loc) (k:PV) (H:Hp):Rs Fl:=match v with
 | .ref i=>siZ w i loc (zA H i) k H
 |_=>.bad
noncomputable def kS:KS→PV→Hp→Rs Fl
 | .asg i loc,v,H=>.ok (.next (zF loc i (some v))) H
 | .asgT is loc,v,H=>stZ is loc v H
 | .asgA k w loc,v,H=>saV k w loc v H
 | .asgI w v loc,k,H=>siV w v loc k H
 | .expr loc,_,H=>.ok (.next loc) H
 | .ret,v,H=>.ok (.ret v) H
noncomputable def kS2 (g:Hp→Rs PV) (z:PV→KS) (w:PV) (H:Hp):Rs Fl:=(g H).bind (kS (z w))
noncomputable def kS3 (g g2:Hp→Rs PV) (z:PV→PV→KS) (w:PV) (H:Hp):Rs Fl:=(g H).bind (kS2 g2 (z w))
noncomputable def kW (a b:Hp→Rs Fl) (v:PV) (H:Hp):Rs Fl:=(zC (zM v) H).bind (kIf a b)
noncomputable def kF (f:List PV→Hp→Rs Fl) (v:PV) (H:Hp):Rs Fl:=(zC (yS v) H).bind f
noncomputable def kN (g:Loc→Hp→Rs Fl) (r:Fl) (H:Hp):Rs Fl:=match r with
 | .next loc=>g loc H
 |r=>.ok r H
noncomputable def fsZ (i:Nat) (loc:Loc) (o:Option (PV×Hp)):Rs Fl:=match o with
 |some (v,H)=>.ok (.next (zF loc i (some v))) H
 |none=>.bad
noncomputable def kFz (i:Nat) (loc:Loc) (o:Option (Option PV)) (H:Hp):Rs Fl:=match o with
 |some (some v)=>fsZ i loc (frzV v H)
 |_=>.bad
mutual
noncomputable def evS (T:Tab) (c:Call):S→Loc→Hp→Rs Fl
 | .asg i e,loc,H=>(evE T c e loc H).bind (kS (.asg i loc))
 | .asgT is e,loc,H=>(evE T c e loc H).bind (kS (.asgT is loc))
 | .asgA a k e,loc,H=>(evE T c e loc H).bind (kS2 (evE T c a loc) fun w=>.asgA k w loc)
 | .asgI a b e,loc,H=>(evE T c e loc H).bind (kS3 (evE T c a loc) (evE T c b loc) fun w v=>.asgI w v loc)
 | .expr e,loc,H=>(evE T c e loc H).bind (kS (.expr loc))
 | .ret e,loc,H=>(evE T c e loc H).bind (kS .ret)
 | .retN,_,H=>.ok (.ret .none) H
 | .if_ t a b,loc,H=>(evE T c t loc H).bind (kW (evSs T c a loc) (evSs T c b loc))
 | .while_ t a,loc,H=>zL (evE T c t) (evSs T c a) fuel loc H
 | .for_ i e a,loc,H=>(evE T c e loc H).bind (kF fun items=>z4 i (evSs T c a) items loc)
 | .raise C es,loc,H=>(evEs T c es loc H).bind fun _ H=>.exc C H
 | .cont,loc,H=>.ok (.cont loc) H
 | .bad,_,_=>.bad
 | .frz i,loc,H=>kFz i loc loc[i]? H
noncomputable def evSs (T:Tab) (c:Call):Ss→Loc→Hp→Rs Fl
 | .nil,loc,H=>.ok (.next loc) H
 | .cons s ss,loc,H=>(evS T c s loc H).bind (kN (evSs T c ss))
end
noncomputable def wN (f:FnR) (vs:List PV):Option Loc :=
 if f.np≤vs.length+f.defs.length∧vs.length≤f.np then some ((vs++f.defs.drop (vs.length+f.defs.length-f.np)).map some++List.replicate (f.nl-f.np) none) else none
@[irreducible] noncomputable def callN (T:Tab):Nat→Call
 |0,_,_,_=>.bad
 |k+1,f,vs,H=>match T.fns f with
  |none=>.bad
  |some fr=>match wN fr vs with
   |none=>.bad
   |some loc=>(evSs T (callN T k) fr.body loc H).bind fun r H=>match r with
    | .ret v=>.ok v H
    | .next _=>.ok .none H
    | .cont _=>.bad
theorem callN_0 {T:Tab} {f:Nat} {vs:List PV} {H:Hp}:callN T 0 f vs H= .bad:=by with_unfolding_all rfl
theorem ylD {T:Tab} {k f:Nat} {vs:List PV} {H:Hp}:callN T (k+1) f vs H=match T.fns f with
  |none=>.bad
  |some fr=>match wN fr vs with
   |none=>.bad
   |some loc=>(evSs T (callN T k) fr.body loc H).bind fun r H=>match r with
    | .ret v=>.ok v H
    | .next _=>.ok .none H
    | .cont _=>.bad:=by with_unfolding_all rfl
theorem zeH {c:Call} {f:Nat} {vs:List PV} {H:Hp}:closedCall c f vs H=if zO vs then match c f vs [] with
 | .ok v _=>if closed v then .ok v H else .bad
 | .exc C _=>.exc C H
 | .bad=>.bad
 else .bad:=by with_unfolding_all rfl
noncomputable def g_MOST_FIGURES_decimals:PV:=(.int 40)
noncomputable def g_PLUS:PV:=(.int 43)
noncomputable def g_MINUS:PV:=(.int 45)
noncomputable def g_POINT:PV:=(.int 46)
noncomputable def g_ZERO:PV:=(.int 48)
noncomputable def g_MOST_HOPS:PV:=(.int 30)
noncomputable def g_WHITE:PV:=(.tup [(.int 0),(.int 9),(.int 10),(.int 12),(.int 13),(.int 32)])
noncomputable def g_DELIMITERS:PV:=(.tup [(.int 40),(.int 41),(.int 60),(.int 62),(.int 91),(.int 93),(.int 123),(.int 125),(.int 47),(.int 37)])
noncomputable def g_LINE_FEED:PV:=(.int 10)
noncomputable def g_RETURN:PV:=(.int 13)
noncomputable def g_COMMENT:PV:=(.int 37)
noncomputable def g_MOST_FIGURES_cursor:PV:=(.int 20)
noncomputable def g_PAREN:PV:=(.int 40)
noncomputable def g_CLOSE_PAREN:PV:=(.int 41)
noncomputable def g_LESS:PV:=(.int 60)
noncomputable def g_GREATER:PV:=(.int 62)
noncomputable def g_SLASH:PV:=(.int 47)
noncomputable def g_BACKSLASH:PV:=(.int 92)
noncomputable def g_HASH:PV:=(.int 35)
noncomputable def g_SIGNS:PV:=(.tup [(.int 91),(.int 93),(.int 123),(.int 125)])
noncomputable def g_MOST_DEPTH:PV:=(.int 40)
noncomputable def yN:PV:=(.tup [(.tup [(.bytes [110,117,108,108]),.none]),(.tup [(.bytes [116,114,117,101]),(.tup [(.str [116,114,117,116,104]),(.int 1)])]),(.tup [(.bytes [47,66,35,50,48]),(.tup [(.str [110,97,109,101]),(.str [66,32])])]),(.tup [(.bytes [40,97,40,98,41,92,53,49,41]),(.tup [(.str [115,116,114,105,110,103]),(.bytes [97,40,98,41,41])])]),(.tup [(.bytes [60,52,97,53,62]),(.tup [(.str [115,116,114,105,110,103]),(.bytes [74,80])])]),(.tup [(.bytes [45,49,46,53,48]),(.tup [(.str [114,101,97,108]),(.int (-15)),(.int 1)])]),(.tup [(.bytes [50,32,51,32,82]),(.tup [(.str [114,101,102]),(.int 2),(.int 3)])]),(.tup [(.bytes [91,49,32,110,117,108,108,47,67,93]),(.tup [(.str [97,114,114,97,121]),(.tup [(.str [105,110,116]),(.int 1)]),(.tup [(.str [110,117,108,108])]),(.tup [(.str [110,97,109,101]),(.str [67])])])]),(.tup [(.bytes [60,60,47,68,32,52,47,68,32,53,47,69,32,110,117,108,108,62,62]),(.tup [(.str [100,105,99,116]),(.tup [(.str [68]),(.tup [(.str [105,110,116]),(.int 5)])])])])])
noncomputable def wH:PV:=(.tup [(.tup [(.bytes [47,65]),(.str [65])]),(.tup [(.bytes [47,35,52,50]),(.str [66])]),(.tup [(.bytes [47,84,121,112,101]),(.str [84,121,112,101])]),(.tup [(.bytes [47]),(.str [])])])
noncomputable def yC:PV:=(.tup [(.tup [(.bytes [55,32,55]),(.bool false)]),(.tup [(.bytes [47,65]),(.bool false)]),(.tup [(.bytes [47,65,32,49,32,50]),(.bool false)]),(.tup [(.bytes []),(.bool false)]),(.tup [(.bytes [47,65,32,40]),(.bool true)]),(.tup [(.bytes [47,65,32,62,62]),(.bool true)]),(.tup [(.bytes [47,65,32,49,32,37,50]),.none])])
noncomputable abbrev b_0_0:Ss:=(.cons (.asg 1 (.bin 3 (.var 1) (.cst (.int 10)))) (.cons (.asg 2 (.bin 1 (.var 2) (.cst (.int 1)))) .nil))
noncomputable def s_0_1:S:=(.while_ (.and (.cons (.cmp 4 (.var 2) (.cst (.int 0))) (.cons (.cmp 0 (.bin 4 (.var 1) (.cst (.int 10))) (.cst (.int 0))) .nil))) b_0_0)
noncomputable abbrev f_0:FnR:={np:=3,defs:=[],nl:=3,body:=(.cons s_0_1 (.cons (.asgA (.var 0) 2 (.var 1)) (.cons (.asgA (.var 0) 3 (.var 2)) .nil)))}
noncomputable abbrev b_1_0:Ss:=(.cons (.if_ (.and (.cons (.cmp 0 (.var 5) (.glo 3)) (.cons (.cmp 2 (.var 4) (.cst (.int 0))) .nil))) (.cons (.asg 4 (.cst (.int 0))) .nil) (.cons (.if_ (.chain 3 3 (.glo 4) (.var 5) (.bin 0 (.glo 4) (.cst (.int 9)))) (.cons (.asg 2 (.bin 1 (.bin 0 (.bin 2 (.cst (.int 10)) (.var 2)) (.var 5)) (.glo 4))) (.cons (.asg 3 (.bin 0 (.var 3) (.cst (.int 1)))) (.cons (.if_ (.cmp 5 (.var 4) (.cst (.int 0))) (.cons (.asg 4 (.bin 0 (.var 4) (.cst (.int 1)))) .nil) .nil) .nil))) (.cons (.ret (.cst .none)) .nil)) .nil)) .nil)
noncomputable def s_1_1:S:=(.for_ 5 (.slc (.var 0) (.var 1) (.cst .none)) b_1_0)
noncomputable abbrev f_1:FnR:={np:=1,defs:=[],nl:=6,body:=(.cons (.asg 1 (.cst (.int 0))) (.cons (.if_ (.and (.cons (.cmp 4 (.bi 0 (.var 0)) (.cst (.int 0))) (.cons (.or (.cons (.cmp 0 (.idx (.var 0) (.cst (.int 0))) (.glo 1)) (.cons (.cmp 0 (.idx (.var 0) (.cst (.int 0))) (.glo 2)) .nil))) .nil))) (.cons (.asg 1 (.cst (.int 1))) .nil) .nil) (.cons (.asg 2 (.cst (.int 0))) (.cons (.asg 3 (.cst (.int 0))) (.cons (.asg 4 (.neg (.cst (.int 1)))) (.cons s_1_1 (.cons (.if_ (.or (.cons (.cmp 0 (.var 3) (.cst (.int 0))) (.cons (.cmp 4 (.var 3) (.glo 0)) .nil))) (.cons (.ret (.cst .none)) .nil) .nil) (.cons (.if_ (.cmp 0 (.idx (.var 0) (.cst (.int 0))) (.glo 2)) (.cons (.asg 2 (.neg (.var 2))) .nil) .nil) (.cons (.ret (.ife (.cmp 2 (.var 4) (.cst (.int 0))) (.var 2) (.frz (.new 3 (.cons (.var 2) (.cons (.var 4) .nil)))))) .nil)))))))))}
noncomputable abbrev f_2:FnR:={np:=2,defs:=[],nl:=2,body:=(.cons (.asgA (.var 0) 4 (.var 1)) .nil)}
noncomputable abbrev f_3:FnR:={np:=3,defs:=[(.bool false)],nl:=3,body:=(.cons (.asgA (.var 0) 5 (.var 1)) (.cons (.asgA (.var 0) 6 (.var 2)) .nil))}
noncomputable abbrev f_4:FnR:={np:=3,defs:=[],nl:=3,body:=(.cons (.asgA (.var 0) 8 (.var 1)) (.cons (.asgA (.var 0) 9 (.var 2)) .nil))}
noncomputable abbrev f_5:FnR:={np:=1,defs:=[],nl:=1,body:=(.cons (.if_ (.cmp 6 (.var 0) (.cst .none)) (.cons (.ret (.cst (.str [110,117,108,108]))) .nil) .nil) (.cons (.if_ (.isin (.var 0) (.ty 0)) (.cons (.ret (.cst (.str [116,114,117,116,104]))) .nil) .nil) (.cons (.if_ (.isin (.var 0) (.ty 1)) (.cons (.ret (.cst (.str [105,110,116]))) .nil) .nil) (.cons (.if_ (.isin (.var 0) (.clsE 3)) (.cons (.ret (.cst (.str [114,101,97,108]))) .nil) .nil) (.cons (.if_ (.isin (.var 0) (.clsE 4)) (.cons (.ret (.cst (.str [110,97,109,101]))) .nil) .nil) (.cons (.if_ (.isin (.var 0) (.clsE 5)) (.cons (.ret (.cst (.str [115,116,114,105,110,103]))) .nil) .nil) (.cons (.if_ (.isin (.var 0) (.ty 2)) (.cons (.ret (.cst (.str [97,114,114,97,121]))) .nil) .nil) (.cons (.if_ (.isin (.var 0) (.ty 3)) (.cons (.ret (.cst (.str [100,105,99,116]))) .nil) .nil) (.cons (.if_ (.isin (.var 0) (.clsE 6)) (.cons (.ret (.cst (.str [115,116,114,101,97,109]))) .nil) .nil) (.cons (.if_ (.isin (.var 0) (.clsE 7)) (.cons (.ret (.cst (.str [114,101,102]))) .nil) .nil) (.cons .bad .nil)))))))))))}
noncomputable abbrev f_6:FnR:={np:=2,defs:=[],nl:=2,body:=(.cons (.if_ (.cmp 0 (.var 0) (.cst (.str [110,117,108,108]))) (.cons (.ret (.tup (.cons (.cst (.str [110,117,108,108])) .nil))) .nil) .nil) (.cons (.if_ (.cmp 0 (.var 0) (.cst (.str [116,114,117,116,104]))) (.cons (.ret (.tup (.cons (.cst (.str [116,114,117,116,104])) (.cons (.ife (.var 1) (.cst (.int 1)) (.cst (.int 0))) .nil)))) .nil) .nil) (.cons (.if_ (.cmp 0 (.var 0) (.cst (.str [105,110,116]))) (.cons (.ret (.tup (.cons (.cst (.str [105,110,116])) (.cons (.var 1) .nil)))) .nil) .nil) (.cons (.if_ (.cmp 0 (.var 0) (.cst (.str [114,101,97,108]))) (.cons (.ret (.tup (.cons (.cst (.str [114,101,97,108])) (.cons (.attr (.var 1) 2) (.cons (.attr (.var 1) 3) .nil))))) .nil) .nil) (.cons (.if_ (.cmp 0 (.var 0) (.cst (.str [110,97,109,101]))) (.cons (.ret (.tup (.cons (.cst (.str [110,97,109,101])) (.cons (.attr (.var 1) 4) .nil)))) .nil) .nil) (.cons (.if_ (.cmp 0 (.var 0) (.cst (.str [115,116,114,105,110,103]))) (.cons (.ret (.tup (.cons (.cst (.str [115,116,114,105,110,103])) (.cons (.bi 3 (.attr (.var 1) 5)) .nil)))) .nil) .nil) (.cons (.ret (.tup (.cons (.cst (.str [114,101,102])) (.cons (.attr (.var 1) 8) (.cons (.attr (.var 1) 9) .nil))))) .nil)))))))}
noncomputable def e_7_0:E:=(.lcomp 2 (.var 0) false (.cst .none) (.callC 7 (.cons (.var 2) .nil)))
noncomputable def e_7_1:E:=(.lcomp 3 (.bi 5 (.var 0)) true (.cmp 7 (.idx (.var 0) (.var 3)) (.cst .none)) (.tup (.cons (.var 3) (.cons (.callC 7 (.cons (.idx (.var 0) (.var 3)) .nil)) .nil))))
noncomputable abbrev f_7:FnR:={np:=1,defs:=[],nl:=4,body:=(.cons (.asg 1 (.callC 5 (.cons (.var 0) .nil))) (.cons (.if_ (.cmp 0 (.var 1) (.cst (.str [97,114,114,97,121]))) (.cons (.ret (.bin 0 (.tup (.cons (.cst (.str [97,114,114,97,121])) .nil)) (.bi 4 e_7_0))) .nil) .nil) (.cons (.if_ (.cmp 0 (.var 1) (.cst (.str [100,105,99,116]))) (.cons (.ret (.bin 0 (.tup (.cons (.cst (.str [100,105,99,116])) .nil)) (.bi 4 e_7_1))) .nil) .nil) (.cons (.if_ (.cmp 0 (.var 1) (.cst (.str [115,116,114,101,97,109]))) (.cons (.ret (.tup (.cons (.cst (.str [115,116,114,101,97,109])) (.cons (.callC 7 (.cons (.attr (.var 0) 7) .nil)) (.cons (.bi 3 (.attr (.var 0) 5)) .nil))))) .nil) .nil) (.cons (.ret (.callC 6 (.cons (.var 1) (.cons (.var 0) .nil)))) .nil)))))}
noncomputable abbrev f_8:FnR:={np:=3,defs:=[.none,.none],nl:=3,body:=(.cons (.asgA (.var 0) 10 (.ife (.cmp 6 (.var 1) (.cst .none)) (.dct true .nil) (.var 1))) (.cons (.asgA (.var 0) 11 (.ife (.cmp 6 (.var 2) (.cst .none)) (.dct false .nil) (.var 2))) .nil))}
noncomputable abbrev b_9_0:Ss:=(.cons (.if_ (.not (.isin (.var 2) (.clsE 7))) (.cons (.ret (.var 2)) .nil) .nil) (.cons (.asgT [4,5] (.dget2 (.attr (.var 0) 10) (.attr (.var 2) 8) (.tup (.cons (.neg (.cst (.int 1))) (.cons (.cst .none) .nil))))) (.cons (.if_ (.cmp 1 (.var 4) (.attr (.var 2) 9)) (.cons (.ret (.cst .none)) .nil) .nil) (.cons (.asg 2 (.var 5)) .nil))))
noncomputable def s_9_1:S:=(.for_ 3 (.rng1 (.glo 5)) b_9_0)
noncomputable abbrev f_9:FnR:={np:=2,defs:=[],nl:=6,body:=(.cons (.asg 2 (.var 1)) (.cons s_9_1 (.cons (.ret (.ife (.isin (.var 2) (.clsE 7)) (.cst .none) (.var 2))) .nil)))}
noncomputable abbrev f_10:FnR:={np:=3,defs:=[],nl:=3,body:=(.cons (.ret (.methC 0 (.var 0) (.cons (.dget (.var 1) (.var 2)) .nil))) .nil)}
noncomputable abbrev f_11:FnR:={np:=4,defs:=[],nl:=4,body:=(.cons (.asgI (.attr (.var 0) 10) (.var 1) (.tup (.cons (.var 2) (.cons (.var 3) .nil)))) .nil)}
noncomputable abbrev f_12:FnR:={np:=2,defs:=[],nl:=2,body:=(.cons (.if_ (.cmp 8 (.var 1) (.attr (.var 0) 10)) (.cons (.expr (.dpop (.attr (.var 0) 10) (.var 1))) .nil) .nil) .nil)}
noncomputable abbrev f_13:FnR:={np:=1,defs:=[],nl:=1,body:=(.cons (.ret (.bi 5 (.attr (.var 0) 10))) .nil)}
noncomputable abbrev f_14:FnR:={np:=1,defs:=[],nl:=2,body:=(.cons (.asg 1 (.methC 1 (.var 0) (.cons (.attr (.var 0) 11) (.cons (.cst (.str [82,111,111,116])) .nil)))) (.cons (.ret (.ife (.isin (.var 1) (.ty 3)) (.var 1) (.frz (.dct false .nil)))) .nil))}
noncomputable def yqJ:E:=(.lcomp 2 (.methC 4 (.var 0) .nil) false (.cst .none) (.tup (.cons (.var 2) (.cons (.idx (.idx (.attr (.var 0) 10) (.var 2)) (.cst (.int 0))) (.cons (.callC 7 (.cons (.idx (.idx (.attr (.var 0) 10) (.var 2)) (.cst (.int 1))) .nil)) .nil)))))
noncomputable abbrev f_15:FnR:={np:=1,defs:=[],nl:=3,body:=(.cons (.asg 1 (.bi 4 yqJ)) (.cons (.ret (.tup (.cons (.var 1) (.cons (.callC 7 (.cons (.attr (.var 0) 11) .nil)) .nil)))) .nil))}
noncomputable abbrev f_16:FnR:={np:=1,defs:=[],nl:=1,body:=(.cons (.ret (.cmp 8 (.var 0) (.glo 6))) .nil)}
noncomputable abbrev f_17:FnR:={np:=1,defs:=[],nl:=1,body:=(.cons (.ret (.and (.cons (.cmp 5 (.var 0) (.cst (.int 0))) (.cons (.cmp 9 (.var 0) (.glo 6)) (.cons (.cmp 9 (.var 0) (.glo 7)) .nil))))) .nil)}
noncomputable abbrev f_18:FnR:={np:=4,defs:=[(.int 0),(.int (-1))],nl:=4,body:=(.cons (.asgA (.var 0) 12 (.var 1)) (.cons (.asgA (.var 0) 1 (.var 2)) (.cons (.asgA (.var 0) 13 (.ife (.cmp 2 (.var 3) (.cst (.int 0))) (.bi 0 (.var 1)) (.min2 (.var 3) (.bi 0 (.var 1))))) .nil)))}
noncomputable abbrev f_19:FnR:={np:=1,defs:=[],nl:=1,body:=(.cons (.ret (.cmp 5 (.attr (.var 0) 1) (.attr (.var 0) 13))) .nil)}
noncomputable abbrev f_20:FnR:={np:=2,defs:=[(.int 0)],nl:=3,body:=(.cons (.asg 2 (.bin 0 (.attr (.var 0) 1) (.var 1))) (.cons (.ret (.ife (.cmp 2 (.var 2) (.attr (.var 0) 13)) (.idx (.attr (.var 0) 12) (.var 2)) (.neg (.cst (.int 1))))) .nil))}
noncomputable abbrev f_21:FnR:={np:=1,defs:=[],nl:=2,body:=(.cons (.if_ (.cmp 5 (.attr (.var 0) 1) (.attr (.var 0) 13)) (.cons (.ret (.neg (.cst (.int 1)))) .nil) .nil) (.cons (.asg 1 (.idx (.attr (.var 0) 12) (.attr (.var 0) 1))) (.cons (.asgA (.var 0) 1 (.bin 0 (.attr (.var 0) 1) (.cst (.int 1)))) (.cons (.ret (.var 1)) .nil))))}
noncomputable abbrev f_22:FnR:={np:=2,defs:=[],nl:=2,body:=(.cons (.ret (.and (.cons (.cmp 3 (.bin 0 (.attr (.var 0) 1) (.bi 0 (.var 1))) (.attr (.var 0) 13)) (.cons (.cmp 0 (.slc (.attr (.var 0) 12) (.attr (.var 0) 1) (.bin 0 (.attr (.var 0) 1) (.bi 0 (.var 1)))) (.var 1)) .nil)))) .nil)}
noncomputable abbrev f_23:FnR:={np:=2,defs:=[],nl:=2,body:=(.cons (.if_ (.not (.methO 10 (.var 0) (.cons (.var 1) .nil))) (.cons (.ret (.cst (.bool false))) .nil) .nil) (.cons (.asgA (.var 0) 1 (.bin 0 (.attr (.var 0) 1) (.bi 0 (.var 1)))) (.cons (.ret (.cst (.bool true))) .nil)))}
noncomputable abbrev b_24_0:Ss:=(.cons (.asgA (.var 0) 1 (.bin 0 (.attr (.var 0) 1) (.cst (.int 1)))) .nil)
noncomputable def s_24_1:S:=(.while_ (.and (.cons (.cmp 2 (.attr (.var 0) 1) (.attr (.var 0) 13)) (.cons (.cmp 9 (.idx (.attr (.var 0) 12) (.attr (.var 0) 1)) (.tup (.cons (.glo 8) (.cons (.glo 9) .nil)))) .nil))) b_24_0)
noncomputable abbrev yrH:Ss:=(.cons (.asg 1 (.idx (.attr (.var 0) 12) (.attr (.var 0) 1))) (.cons (.if_ (.cmp 0 (.var 1) (.glo 10)) (.cons s_24_1 .nil) (.cons (.if_ (.cmp 8 (.var 1) (.glo 6)) (.cons (.asgA (.var 0) 1 (.bin 0 (.attr (.var 0) 1) (.cst (.int 1)))) .nil) (.cons .retN .nil)) .nil)) .nil))
noncomputable def s_24_3:S:=(.while_ (.cmp 2 (.attr (.var 0) 1) (.attr (.var 0) 13)) yrH)
noncomputable abbrev f_24:FnR:={np:=1,defs:=[],nl:=2,body:=(.cons s_24_3 .nil)}
noncomputable abbrev ylJ:Ss:=(.cons (.asgA (.var 0) 1 (.bin 0 (.attr (.var 0) 1) (.cst (.int 1)))) .nil)
noncomputable def s_25_1:S:=(.while_ (.and (.cons (.cmp 2 (.attr (.var 0) 1) (.attr (.var 0) 13)) (.cons (.callC 17 (.cons (.idx (.attr (.var 0) 12) (.attr (.var 0) 1)) .nil)) .nil))) ylJ)
noncomputable abbrev f_25:FnR:={np:=1,defs:=[],nl:=2,body:=(.cons (.asg 1 (.attr (.var 0) 1)) (.cons s_25_1 (.cons (.ret (.slc (.attr (.var 0) 12) (.var 1) (.attr (.var 0) 1))) .nil)))}
noncomputable abbrev f_26:FnR:={np:=1,defs:=[],nl:=1,body:=(.cons (.if_ (.cmp 0 (.methO 8 (.var 0) .nil) (.glo 9)) (.cons (.asgA (.var 0) 1 (.bin 0 (.attr (.var 0) 1) (.cst (.int 1)))) (.cons (.if_ (.cmp 0 (.methO 8 (.var 0) .nil) (.glo 8)) (.cons (.asgA (.var 0) 1 (.bin 0 (.attr (.var 0) 1) (.cst (.int 1)))) .nil) .nil) (.cons (.ret (.cst (.bool true))) .nil))) .nil) (.cons (.if_ (.cmp 0 (.methO 8 (.var 0) .nil) (.glo 8)) (.cons (.asgA (.var 0) 1 (.bin 0 (.attr (.var 0) 1) (.cst (.int 1)))) (.cons (.ret (.cst (.bool true))) .nil)) .nil) (.cons (.ret (.cst (.bool false))) .nil)))}
noncomputable abbrev f_27:FnR:={np:=1,defs:=[],nl:=1,body:=(.cons (.if_ (.chain 3 3 (.cst (.int 48)) (.var 0) (.cst (.int 57))) (.cons (.ret (.bin 1 (.var 0) (.cst (.int 48)))) .nil) .nil) (.cons (.if_ (.chain 3 3 (.cst (.int 65)) (.var 0) (.cst (.int 70))) (.cons (.ret (.bin 1 (.var 0) (.cst (.int 55)))) .nil) .nil) (.cons (.if_ (.chain 3 3 (.cst (.int 97)) (.var 0) (.cst (.int 102))) (.cons (.ret (.bin 1 (.var 0) (.cst (.int 87)))) .nil) .nil) (.cons (.ret (.neg (.cst (.int 1)))) .nil))))}
noncomputable abbrev f_28:FnR:={np:=1,defs:=[],nl:=1,body:=(.cons (.if_ (.cmp 0 (.var 0) (.cst (.int 110))) (.cons (.ret (.cst (.int 10))) .nil) .nil) (.cons (.if_ (.cmp 0 (.var 0) (.cst (.int 114))) (.cons (.ret (.cst (.int 13))) .nil) .nil) (.cons (.if_ (.cmp 0 (.var 0) (.cst (.int 116))) (.cons (.ret (.cst (.int 9))) .nil) .nil) (.cons (.if_ (.cmp 0 (.var 0) (.cst (.int 98))) (.cons (.ret (.cst (.int 8))) .nil) .nil) (.cons (.if_ (.cmp 0 (.var 0) (.cst (.int 102))) (.cons (.ret (.cst (.int 12))) .nil) .nil) (.cons (.ret (.var 0)) .nil))))))}
noncomputable abbrev b_29_0:Ss:=(.cons (.asg 4 (.idx (.var 0) (.var 3))) (.cons (.asg 3 (.bin 0 (.var 3) (.cst (.int 1)))) (.cons (.if_ (.and (.cons (.cmp 0 (.var 4) (.glo 18)) (.cons (.cmp 2 (.bin 0 (.var 3) (.cst (.int 1))) (.bi 0 (.var 0))) .nil))) (.cons (.asg 5 (.callC 27 (.cons (.idx (.var 0) (.var 3)) .nil))) (.cons (.asg 6 (.callC 27 (.cons (.idx (.var 0) (.bin 0 (.var 3) (.cst (.int 1)))) .nil))) (.cons (.if_ (.and (.cons (.cmp 5 (.var 5) (.cst (.int 0))) (.cons (.cmp 5 (.var 6) (.cst (.int 0))) .nil))) (.cons (.asg 4 (.bin 0 (.bin 2 (.cst (.int 16)) (.var 5)) (.var 6))) (.cons (.asg 3 (.bin 0 (.var 3) (.cst (.int 2)))) .nil)) .nil) .nil))) .nil) (.cons (.if_ (.cmp 0 (.var 4) (.cst (.int 0))) (.cons (.raise 1 (.cons (.cst (.str [97,32,110,97,109,101,32,119,105,116,104,32,116,104,101,32,99,111,100,101,32,48])) (.cons (.var 1) .nil))) .nil) .nil) (.cons (.expr (.append (.var 2) (.bi 2 (.var 4)))) .nil)))))
noncomputable def s_29_1:S:=(.while_ (.cmp 2 (.var 3) (.bi 0 (.var 0))) b_29_0)
noncomputable abbrev f_29:FnR:={np:=2,defs:=[(.int (-1))],nl:=7,body:=(.cons (.asg 2 (.lst .nil)) (.cons (.asg 3 (.cst (.int 0))) (.cons s_29_1 (.cons (.ret (.join (.cst (.str [])) (.var 2))) .nil))))}
noncomputable abbrev b_30_0:Ss:=(.cons (.asg 2 (.bin 1 (.bin 0 (.bin 2 (.cst (.int 8)) (.var 2)) (.methO 9 (.var 0) .nil)) (.cst (.int 48)))) (.cons (.asg 3 (.bin 0 (.var 3) (.cst (.int 1)))) .nil))
noncomputable def s_30_1:S:=(.while_ (.and (.cons (.cmp 2 (.var 3) (.cst (.int 3))) (.cons (.chain 3 3 (.cst (.int 48)) (.methO 8 (.var 0) .nil) (.cst (.int 55))) .nil))) b_30_0)
noncomputable abbrev f_30:FnR:={np:=2,defs:=[],nl:=4,body:=(.cons (.asg 2 (.bin 1 (.var 1) (.cst (.int 48)))) (.cons (.asg 3 (.cst (.int 1))) (.cons s_30_1 (.cons (.ret (.bin 4 (.var 2) (.cst (.int 256)))) .nil))))}
noncomputable abbrev f_31:FnR:={np:=1,defs:=[],nl:=2,body:=(.cons (.if_ (.methO 7 (.var 0) .nil) (.cons (.ret (.lst .nil)) .nil) .nil) (.cons (.if_ (.methO 14 (.var 0) .nil) (.cons (.ret (.lst .nil)) .nil) .nil) (.cons (.asg 1 (.methO 9 (.var 0) .nil)) (.cons (.if_ (.chain 3 3 (.cst (.int 48)) (.var 1) (.cst (.int 55))) (.cons (.ret (.lst (.cons (.callO 30 (.cons (.var 0) (.cons (.var 1) .nil))) .nil))) .nil) .nil) (.cons (.ret (.lst (.cons (.callC 28 (.cons (.var 1) .nil)) .nil))) .nil)))))}
noncomputable abbrev b_32_0:Ss:=(.cons (.if_ (.methO 14 (.var 0) .nil) (.cons (.expr (.append (.var 2) (.cst (.int 10)))) (.cons .cont .nil)) .nil) (.cons (.asg 4 (.methO 9 (.var 0) .nil)) (.cons (.if_ (.cmp 0 (.var 4) (.glo 17)) (.cons (.expr (.extend (.var 2) (.callO 31 (.cons (.var 0) .nil)))) (.cons .cont .nil)) .nil) (.cons (.if_ (.cmp 0 (.var 4) (.glo 12)) (.cons (.asg 3 (.bin 0 (.var 3) (.cst (.int 1)))) .nil) .nil) (.cons (.if_ (.cmp 0 (.var 4) (.glo 13)) (.cons (.asg 3 (.bin 1 (.var 3) (.cst (.int 1)))) (.cons (.if_ (.cmp 0 (.var 3) (.cst (.int 0))) (.cons (.ret (.bi 3 (.var 2))) .nil) .nil) .nil)) .nil) (.cons (.expr (.append (.var 2) (.var 4))) .nil))))))
noncomputable def s_32_1:S:=(.while_ (.not (.methO 7 (.var 0) .nil)) b_32_0)
noncomputable abbrev f_32:FnR:={np:=1,defs:=[],nl:=5,body:=(.cons (.asg 1 (.bin 1 (.attr (.var 0) 1) (.cst (.int 1)))) (.cons (.asg 2 (.lst .nil)) (.cons (.asg 3 (.cst (.int 1))) (.cons s_32_1 (.cons (.raise 1 (.cons (.cst (.str [97,32,115,116,114,105,110,103,32,119,105,116,104,111,117,116,32,105,116,115,32,101,110,100])) (.cons (.var 1) .nil))) .nil)))))}
noncomputable def e_33_0:E:=(.lcomp 5 (.rng3 (.cst (.int 0)) (.bi 0 (.var 2)) (.cst (.int 2))) false (.cst .none) (.bin 0 (.bin 2 (.cst (.int 16)) (.idx (.var 2) (.var 5))) (.idx (.var 2) (.bin 0 (.var 5) (.cst (.int 1))))))
noncomputable abbrev b_33_1:Ss:=(.cons (.asg 3 (.methO 9 (.var 0) .nil)) (.cons (.if_ (.cmp 0 (.var 3) (.glo 15)) (.cons (.if_ (.cmp 0 (.bin 4 (.bi 0 (.var 2)) (.cst (.int 2))) (.cst (.int 1))) (.cons (.expr (.append (.var 2) (.cst (.int 0)))) .nil) .nil) (.cons (.ret (.bi 3 e_33_0)) .nil)) .nil) (.cons (.asg 4 (.callC 27 (.cons (.var 3) .nil))) (.cons (.if_ (.cmp 5 (.var 4) (.cst (.int 0))) (.cons (.expr (.append (.var 2) (.var 4))) .nil) (.cons (.if_ (.not (.callC 16 (.cons (.var 3) .nil))) (.cons (.raise 1 (.cons (.cst (.str [97,32,115,105,103,110,32,116,104,97,116,32,105,115,32,110,111,32,104,101,120,32,102,105,103,117,114,101])) (.cons (.bin 1 (.attr (.var 0) 1) (.cst (.int 1))) .nil))) .nil) .nil) .nil)) .nil))))
noncomputable def s_33_2:S:=(.while_ (.not (.methO 7 (.var 0) .nil)) b_33_1)
noncomputable abbrev f_33:FnR:={np:=1,defs:=[],nl:=6,body:=(.cons (.asg 1 (.bin 1 (.attr (.var 0) 1) (.cst (.int 1)))) (.cons (.asg 2 (.lst .nil)) (.cons s_33_2 (.cons (.raise 1 (.cons (.cst (.str [97,32,104,101,120,32,115,116,114,105,110,103,32,119,105,116,104,111,117,116,32,105,116,115,32,101,110,100])) (.cons (.var 1) .nil))) .nil))))}
noncomputable abbrev f_34:FnR:={np:=2,defs:=[],nl:=4,body:=(.cons (.asg 2 (.methO 13 (.var 0) .nil)) (.cons (.asg 3 (.callC 1 (.cons (.var 2) .nil))) (.cons (.if_ (.cmp 6 (.var 3) (.cst .none)) (.cons (.ret (.tup (.cons (.cst (.str [119,111,114,100])) (.cons (.var 2) (.cons (.var 1) .nil))))) .nil) .nil) (.cons (.if_ (.isin (.var 3) (.ty 1)) (.cons (.ret (.tup (.cons (.cst (.str [105,110,116])) (.cons (.var 3) (.cons (.var 1) .nil))))) .nil) .nil) (.cons (.ret (.tup (.cons (.cst (.str [114,101,97,108])) (.cons (.var 3) (.cons (.var 1) .nil))))) .nil)))))}
noncomputable abbrev f_35:FnR:={np:=3,defs:=[],nl:=3,body:=(.cons (.if_ (.cmp 0 (.var 1) (.glo 16)) (.cons (.expr (.methO 9 (.var 0) .nil)) (.cons (.ret (.tup (.cons (.cst (.str [110,97,109,101])) (.cons (.callC 29 (.cons (.methO 13 (.var 0) .nil) (.cons (.var 2) .nil))) (.cons (.var 2) .nil))))) .nil)) .nil) (.cons (.if_ (.cmp 0 (.var 1) (.glo 12)) (.cons (.expr (.methO 9 (.var 0) .nil)) (.cons (.ret (.tup (.cons (.cst (.str [115,116,114,105,110,103])) (.cons (.callO 32 (.cons (.var 0) .nil)) (.cons (.var 2) .nil))))) .nil)) .nil) (.cons (.if_ (.methO 11 (.var 0) (.cons (.cst (.bytes [60,60])) .nil)) (.cons (.ret (.tup (.cons (.cst (.str [115,105,103,110])) (.cons (.cst (.bytes [60,60])) (.cons (.var 2) .nil))))) .nil) .nil) (.cons (.if_ (.methO 11 (.var 0) (.cons (.cst (.bytes [62,62])) .nil)) (.cons (.ret (.tup (.cons (.cst (.str [115,105,103,110])) (.cons (.cst (.bytes [62,62])) (.cons (.var 2) .nil))))) .nil) .nil) (.cons (.if_ (.cmp 0 (.var 1) (.glo 14)) (.cons (.expr (.methO 9 (.var 0) .nil)) (.cons (.ret (.tup (.cons (.cst (.str [104,101,120])) (.cons (.callO 33 (.cons (.var 0) .nil)) (.cons (.var 2) .nil))))) .nil)) .nil) (.cons (.if_ (.cmp 8 (.var 1) (.glo 19)) (.cons (.expr (.methO 9 (.var 0) .nil)) (.cons (.ret (.tup (.cons (.cst (.str [115,105,103,110])) (.cons (.bi 3 (.lst (.cons (.var 1) .nil))) (.cons (.var 2) .nil))))) .nil)) .nil) (.cons (.raise 1 (.cons (.cst (.str [97,32,99,108,111,115,105,110,103,32,115,105,103,110,32,119,105,116,104,111,117,116,32,105,116,115,32,111,112,101,110,105,110,103,32,111,110,101])) (.cons (.var 2) .nil))) .nil)))))))}
noncomputable abbrev f_36:FnR:={np:=1,defs:=[],nl:=3,body:=(.cons (.expr (.methO 12 (.var 0) .nil)) (.cons (.asg 1 (.attr (.var 0) 1)) (.cons (.asg 2 (.methO 8 (.var 0) .nil)) (.cons (.if_ (.cmp 0 (.var 2) (.neg (.cst (.int 1)))) (.cons (.ret (.tup (.cons (.cst (.str [101,110,100])) (.cons (.cst (.bytes [])) (.cons (.var 1) .nil))))) .nil) .nil) (.cons (.if_ (.or (.cons (.cmp 0 (.var 2) (.glo 16)) (.cons (.cmp 0 (.var 2) (.glo 12)) (.cons (.cmp 0 (.var 2) (.glo 13)) (.cons (.cmp 0 (.var 2) (.glo 14)) (.cons (.cmp 0 (.var 2) (.glo 15)) (.cons (.cmp 8 (.var 2) (.glo 19)) .nil))))))) (.cons (.ret (.callO 35 (.cons (.var 0) (.cons (.var 2) (.cons (.var 1) .nil))))) .nil) .nil) (.cons (.ret (.callO 34 (.cons (.var 0) (.cons (.var 1) .nil)))) .nil))))))}
noncomputable abbrev f_37:FnR:={np:=2,defs:=[],nl:=2,body:=(.cons (.ret (.and (.cons (.cmp 0 (.idx (.var 0) (.cst (.int 0))) (.cst (.str [115,105,103,110]))) (.cons (.cmp 0 (.idx (.var 0) (.cst (.int 1))) (.var 1)) .nil)))) .nil)}
noncomputable abbrev f_38:FnR:={np:=2,defs:=[],nl:=2,body:=(.cons (.asgA (.var 0) 14 (.var 1)) (.cons (.asgA (.var 0) 15 (.lst .nil)) .nil))}
noncomputable abbrev f_39:FnR:={np:=1,defs:=[],nl:=1,body:=(.cons (.ret (.and (.cons (.cmp 0 (.attr (.var 0) 14) (.cst (.bytes [60,60]))) (.cons (.cmp 0 (.bin 4 (.bi 0 (.attr (.var 0) 15)) (.cst (.int 2))) (.cst (.int 0))) .nil)))) .nil)}
noncomputable abbrev f_40:FnR:={np:=1,defs:=[],nl:=1,body:=(.cons (.ret (.and (.cons (.isin (.var 0) (.ty 1)) (.cons (.not (.isin (.var 0) (.ty 0))) (.cons (.cmp 5 (.var 0) (.cst (.int 0))) .nil))))) .nil)}
noncomputable abbrev f_41:FnR:={np:=2,defs:=[],nl:=4,body:=(.cons (.asg 2 (.new 10 (.cons (.attr (.var 0) 12) (.cons (.attr (.var 0) 1) (.cons (.attr (.var 0) 13) .nil))))) (.cons (.expr (.methO 12 (.var 2) .nil)) (.cons (.asg 3 (.callC 1 (.cons (.methO 13 (.var 2) .nil) .nil))) (.cons (.expr (.methO 12 (.var 2) .nil)) (.cons (.if_ (.or (.cons (.not (.callC 40 (.cons (.var 3) .nil))) (.cons (.cmp 1 (.methO 13 (.var 2) .nil) (.cst (.bytes [82]))) .nil))) (.cons (.ret (.var 1)) .nil) .nil) (.cons (.asgA (.var 0) 1 (.attr (.var 2) 1)) (.cons (.ret (.frz (.new 7 (.cons (.var 1) (.cons (.var 3) .nil))))) .nil)))))))}
noncomputable abbrev f_42:FnR:={np:=2,defs:=[],nl:=2,body:=(.cons (.if_ (.cmp 0 (.var 0) (.cst (.bytes [116,114,117,101]))) (.cons (.ret (.cst (.bool true))) .nil) .nil) (.cons (.if_ (.cmp 0 (.var 0) (.cst (.bytes [102,97,108,115,101]))) (.cons (.ret (.cst (.bool false))) .nil) .nil) (.cons (.if_ (.cmp 0 (.var 0) (.cst (.bytes [110,117,108,108]))) (.cons (.ret (.cst .none)) .nil) .nil) (.cons (.raise 1 (.cons (.cst (.str [97,110,32,117,110,107,110,111,119,110,32,119,111,114,100])) (.cons (.var 1) .nil))) .nil))))}
noncomputable abbrev f_43:FnR:={np:=3,defs:=[],nl:=6,body:=(.cons (.asgT [3,4,5] (.var 1)) (.cons (.if_ (.and (.cons (.cmp 0 (.var 3) (.cst (.str [105,110,116]))) (.cons (.cmp 5 (.var 4) (.cst (.int 0))) (.cons (.var 2) .nil)))) (.cons (.ret (.callO 41 (.cons (.var 0) (.cons (.var 4) .nil)))) .nil) .nil) (.cons (.if_ (.or (.cons (.cmp 0 (.var 3) (.cst (.str [105,110,116]))) (.cons (.cmp 0 (.var 3) (.cst (.str [114,101,97,108]))) .nil))) (.cons (.ret (.var 4)) .nil) .nil) (.cons (.if_ (.cmp 0 (.var 3) (.cst (.str [110,97,109,101]))) (.cons (.ret (.frz (.new 4 (.cons (.var 4) .nil)))) .nil) .nil) (.cons (.if_ (.cmp 0 (.var 3) (.cst (.str [115,116,114,105,110,103]))) (.cons (.ret (.frz (.new 5 (.cons (.var 4) .nil)))) .nil) .nil) (.cons (.if_ (.cmp 0 (.var 3) (.cst (.str [104,101,120]))) (.cons (.ret (.frz (.new 5 (.cons (.var 4) (.cons (.cst (.bool true)) .nil))))) .nil) .nil) (.cons (.if_ (.cmp 0 (.var 3) (.cst (.str [119,111,114,100]))) (.cons (.ret (.callC 42 (.cons (.var 4) (.cons (.var 5) .nil)))) .nil) .nil) (.cons (.if_ (.cmp 0 (.var 3) (.cst (.str [101,110,100]))) (.cons (.raise 1 (.cons (.cst (.str [116,104,101,32,111,99,116,101,116,115,32,101,110,100,32,119,105,116,104,105,110,32,97,110,32,111,98,106,101,99,116])) (.cons (.var 5) .nil))) .nil) .nil) (.cons (.raise 1 (.cons (.cst (.str [97,32,115,105,103,110,32,116,104,97,116,32,99,97,110,110,111,116,32,115,116,97,110,100,32,104,101,114,101])) (.cons (.var 5) .nil))) .nil)))))))))}
noncomputable abbrev b_44_0:Ss:=(.cons (.asgI (.var 1) (.attr (.idx (.var 0) (.var 2)) 4) (.idx (.var 0) (.bin 0 (.var 2) (.cst (.int 1))))) .nil)
noncomputable def s_44_1:S:=(.for_ 2 (.rng3 (.cst (.int 0)) (.bi 0 (.var 0)) (.cst (.int 2))) b_44_0)
noncomputable def e_44_2:E:=(.dcomp 3 (.var 1) (.cmp 7 (.idx (.var 1) (.var 3)) (.cst .none)) (.var 3) (.idx (.var 1) (.var 3)))
noncomputable abbrev f_44:FnR:={np:=1,defs:=[],nl:=4,body:=(.cons (.asg 1 (.dct false .nil)) (.cons s_44_1 (.cons (.frz 1) (.cons (.ret e_44_2) .nil))))}
noncomputable abbrev f_45:FnR:={np:=3,defs:=[],nl:=5,body:=(.cons (.asg 3 (.ife (.cmp 0 (.var 1) (.cst (.bytes [93]))) (.cst (.bytes [91])) (.cst (.bytes [60,60])))) (.cons (.if_ (.or (.cons (.cmp 0 (.var 0) (.lst .nil)) (.cons (.cmp 1 (.attr (.idx (.var 0) (.neg (.cst (.int 1)))) 14) (.var 3)) .nil))) (.cons (.raise 1 (.cons (.cst (.str [97,32,115,105,103,110,32,99,108,111,115,101,115,32,119,104,97,116,32,105,115,32,110,111,116,32,111,112,101,110])) (.cons (.var 2) .nil))) .nil) .nil) (.cons (.asg 4 (.pop (.var 0))) (.cons (.if_ (.cmp 0 (.var 3) (.cst (.bytes [91]))) (.cons (.ret (.frz (.attr (.var 4) 15))) .nil) .nil) (.cons (.if_ (.not (.methO 15 (.var 4) .nil)) (.cons (.raise 1 (.cons (.cst (.str [97,32,107,101,121,32,104,97,115,32,110,111,32,118,97,108,117,101])) (.cons (.var 2) .nil))) .nil) .nil) (.cons (.ret (.callO 44 (.cons (.attr (.var 4) 15) .nil))) .nil))))))}
noncomputable abbrev yrG:Ss:=(.cons (.asgT [4,5,6] (.var 1)) (.cons (.asg 7 (.and (.cons (.cmp 0 (.var 4) (.cst (.str [115,105,103,110]))) (.cons (.cmp 8 (.var 5) (.tup (.cons (.cst (.bytes [91])) (.cons (.cst (.bytes [60,60])) .nil)))) .nil)))) (.cons (.if_ (.and (.cons (.cmp 1 (.var 3) (.lst .nil)) (.cons (.methO 15 (.idx (.var 3) (.neg (.cst (.int 1)))) .nil) (.cons (.cmp 1 (.var 4) (.cst (.str [110,97,109,101]))) (.cons (.not (.callC 37 (.cons (.var 1) (.cons (.cst (.bytes [62,62])) .nil)))) .nil))))) (.cons (.raise 1 (.cons (.cst (.str [97,32,107,101,121,32,105,115,32,110,111,32,110,97,109,101])) (.cons (.var 6) .nil))) .nil) .nil) (.cons (.if_ (.var 7) (.cons (.if_ (.cmp 0 (.bi 0 (.var 3)) (.glo 20)) (.cons (.raise 1 (.cons (.cst (.str [110,101,115,116,101,100,32,116,111,111,32,100,101,101,112])) (.cons (.var 6) .nil))) .nil) .nil) (.cons (.expr (.append (.var 3) (.new 11 (.cons (.var 5) .nil)))) .nil)) (.cons (.if_ (.and (.cons (.cmp 0 (.var 4) (.cst (.str [115,105,103,110]))) (.cons (.cmp 8 (.var 5) (.tup (.cons (.cst (.bytes [93])) (.cons (.cst (.bytes [62,62])) .nil)))) .nil))) (.cons (.asg 8 (.callO 45 (.cons (.var 3) (.cons (.var 5) (.cons (.var 6) .nil))))) .nil) (.cons (.asg 8 (.callO 43 (.cons (.var 0) (.cons (.var 1) (.cons (.var 2) .nil))))) .nil)) (.cons (.if_ (.cmp 0 (.var 3) (.lst .nil)) (.cons (.ret (.var 8)) .nil) .nil) (.cons (.expr (.append (.attr (.idx (.var 3) (.neg (.cst (.int 1)))) 15) (.var 8))) .nil)))) (.cons (.asg 1 (.callO 36 (.cons (.var 0) .nil))) .nil)))))
noncomputable def s_46_1:S:=(.while_ (.cst (.bool true)) yrG)
noncomputable abbrev f_46:FnR:={np:=3,defs:=[(.bool true)],nl:=9,body:=(.cons (.asg 3 (.lst .nil)) (.cons s_46_1 .nil))}
noncomputable abbrev f_47:FnR:={np:=1,defs:=[],nl:=1,body:=(.cons (.ret (.callO 46 (.cons (.var 0) (.cons (.callO 36 (.cons (.var 0) .nil)) .nil)))) .nil)}
noncomputable abbrev ylI:Ss:=(.cons (.expr (.append (.var 2) (.callO 47 (.cons (.var 1) .nil)))) (.cons (.expr (.methO 12 (.var 1) .nil)) .nil))
noncomputable def yoE:S:=(.while_ (.not (.methO 7 (.var 1) .nil)) ylI)
noncomputable abbrev f_48:FnR:={np:=1,defs:=[],nl:=3,body:=(.cons (.asg 1 (.new 10 (.cons (.var 0) .nil))) (.cons (.asg 2 (.lst .nil)) (.cons (.expr (.methO 12 (.var 1) .nil)) (.cons yoE (.cons (.frz 2) (.cons (.ret (.var 2)) .nil))))))}
noncomputable abbrev f_49:FnR:={np:=4,defs:=[],nl:=4,body:=(.cons (.asgA (.var 0) 12 (.var 1)) (.cons (.asgA (.var 0) 16 (.var 2)) (.cons (.asgA (.var 0) 17 (.var 3)) .nil)))}
noncomputable abbrev f_50:FnR:={np:=2,defs:=[],nl:=2,body:=(.cons (.if_ (.cmp 0 (.methC 5 (.var 1) .nil) (.dct false .nil)) (.cons (.raise 2 (.cons (.cst (.str [97,32,100,111,99,117,109,101,110,116,32,119,105,116,104,111,117,116,32,105,116,115,32,114,111,111,116])) .nil)) .nil) .nil) (.cons (.ret (.frz (.new 12 (.cons (.attr (.var 0) 12) (.cons (.attr (.var 0) 16) (.cons (.var 1) .nil)))))) .nil))}
noncomputable abbrev f_51:FnR:={np:=2,defs:=[],nl:=2,body:=(.cons (.if_ (.cmp 9 (.var 1) (.attr (.attr (.var 0) 17) 10)) (.cons (.raise 2 (.cons (.bin 0 (.cst (.str [110,111,32,111,98,106,101,99,116,32])) (.bi 1 (.var 1))) .nil)) .nil) .nil) (.cons (.ret (.idx (.idx (.attr (.attr (.var 0) 17) 10) (.var 1)) (.cst (.int 1)))) .nil))}
noncomputable abbrev f_52:FnR:={np:=4,defs:=[],nl:=5,body:=(.cons (.asg 4 (.new 9 (.cons (.dic true (.attr (.attr (.var 0) 17) 10)) (.cons (.attr (.attr (.var 0) 17) 11) .nil)))) (.cons (.expr (.methO 2 (.var 4) (.cons (.var 1) (.cons (.var 2) (.cons (.var 3) .nil))))) (.cons (.frz 4) (.cons (.ret (.callC 50 (.cons (.var 0) (.cons (.var 4) .nil)))) .nil))))}
noncomputable abbrev f_53:FnR:={np:=2,defs:=[],nl:=3,body:=(.cons (.expr (.callC 51 (.cons (.var 0) (.cons (.var 1) .nil)))) (.cons (.asg 2 (.new 9 (.cons (.dic true (.attr (.attr (.var 0) 17) 10)) (.cons (.attr (.attr (.var 0) 17) 11) .nil)))) (.cons (.expr (.methO 3 (.var 2) (.cons (.var 1) .nil))) (.cons (.frz 2) (.cons (.ret (.callC 50 (.cons (.var 0) (.cons (.var 2) .nil)))) .nil)))))}
noncomputable def yqI:E:=(.lcomp 6 (.var 4) true (.cmp 1 (.var 6) (.attr (.idx (.var 3) (.cst (.int 0))) 4)) (.tup (.cons (.var 6) (.cons (.idx (.var 4) (.var 6)) .nil))))
noncomputable abbrev f_54:FnR:={np:=3,defs:=[],nl:=7,body:=(.cons (.asg 3 (.callC 48 (.cons (.var 2) .nil))) (.cons (.if_ (.or (.cons (.cmp 1 (.bi 0 (.var 3)) (.cst (.int 2))) (.cons (.cmp 1 (.callC 5 (.cons (.idx (.var 3) (.cst (.int 0))) .nil)) (.cst (.str [110,97,109,101]))) .nil))) (.cons (.raise 2 (.cons (.cst (.str [97,32,110,97,109,101,32,97,110,100,32,97,110,32,111,98,106,101,99,116,32,97,114,101,32,119,97,110,116,101,100])) .nil)) .nil) .nil) (.cons (.asg 4 (.callC 51 (.cons (.var 0) (.cons (.var 1) .nil)))) (.cons (.if_ (.cmp 1 (.callC 5 (.cons (.var 4) .nil)) (.cst (.str [100,105,99,116]))) (.cons (.raise 2 (.cons (.cst (.str [110,111,32,100,105,99,116])) .nil)) .nil) .nil) (.cons (.asg 5 (.dic false yqI)) (.cons (.if_ (.cmp 7 (.idx (.var 3) (.cst (.int 1))) (.cst .none)) (.cons (.asgI (.var 5) (.attr (.idx (.var 3) (.cst (.int 0))) 4) (.idx (.var 3) (.cst (.int 1)))) .nil) .nil) (.cons (.frz 5) (.cons (.ret (.callC 52 (.cons (.var 0) (.cons (.var 1) (.cons (.idx (.idx (.attr (.attr (.var 0) 17) 10) (.var 1)) (.cst (.int 0))) (.cons (.var 5) .nil)))))) .nil))))))))}
noncomputable abbrev f_55:FnR:={np:=1,defs:=[],nl:=1,body:=(.cons (.asgA (.var 0) 18 (.cst .none)) (.cons (.asgA (.var 0) 19 (.lst .nil)) (.cons (.asgA (.var 0) 20 (.lst .nil)) .nil)))}
noncomputable abbrev f_56:FnR:={np:=2,defs:=[],nl:=2,body:=(.cons (.expr (.append (.attr (.var 0) 19) (.attr (.var 0) 18))) (.cons (.asgA (.var 0) 18 (.var 1)) (.cons (.asgA (.var 0) 20 (.lst .nil)) .nil)))}
noncomputable abbrev f_57:FnR:={np:=1,defs:=[],nl:=1,body:=(.cons (.if_ (.cmp 0 (.bi 0 (.attr (.var 0) 19)) (.cst (.int 0))) (.cons (.raise 2 (.cons (.cst (.str [110,111,116,104,105,110,103,32,116,111,32,117,110,100,111])) .nil)) .nil) .nil) (.cons (.expr (.append (.attr (.var 0) 20) (.attr (.var 0) 18))) (.cons (.asgA (.var 0) 18 (.pop (.attr (.var 0) 19))) .nil)))}
noncomputable abbrev f_58:FnR:={np:=1,defs:=[],nl:=1,body:=(.cons (.if_ (.cmp 0 (.bi 0 (.attr (.var 0) 20)) (.cst (.int 0))) (.cons (.raise 2 (.cons (.cst (.str [110,111,116,104,105,110,103,32,116,111,32,100,111,32,97,103,97,105,110])) .nil)) .nil) .nil) (.cons (.expr (.append (.attr (.var 0) 19) (.attr (.var 0) 18))) (.cons (.asgA (.var 0) 18 (.pop (.attr (.var 0) 20))) .nil)))}
noncomputable def yqH:E:=(.lcomp 5 (.bi 5 (.var 4)) false (.cst .none) (.tup (.cons (.var 5) (.cons (.idx (.var 4) (.var 5)) .nil))))
noncomputable abbrev ylH:Ss:=(.cons (.asgT [3,4] (.idx (.var 0) (.var 2))) (.cons (.if_ (.isin (.var 4) (.ty 3)) (.cons (.asg 4 (.bin 0 (.tup (.cons (.cst (.str [100,105,99,116])) .nil)) (.bi 4 yqH))) .nil) .nil) (.cons (.expr (.append (.var 1) (.tup (.cons (.var 2) (.cons (.var 3) (.cons (.var 4) .nil)))))) .nil)))
noncomputable def yoD:S:=(.for_ 2 (.bi 5 (.var 0)) ylH)
noncomputable abbrev f_59:FnR:={np:=1,defs:=[],nl:=6,body:=(.cons (.asg 1 (.lst .nil)) (.cons yoD (.cons (.ret (.tup (.cons (.bi 4 (.var 1)) (.cons (.tup (.cons (.cst (.str [100,105,99,116])) (.cons (.tup (.cons (.cst (.str [82,111,111,116])) (.cons (.tup (.cons (.cst (.str [114,101,102])) (.cons (.cst (.int 1)) (.cons (.cst (.int 0)) .nil)))) .nil))) .nil))) .nil)))) .nil)))}
noncomputable abbrev f_60:FnR:={np:=2,defs:=[],nl:=2,body:=(.cons (.if_ (.or (.cons (.cmp 6 (.var 0) (.cst .none)) (.cons (.cmp 6 (.var 1) (.cst .none)) .nil))) (.cons (.ret (.and (.cons (.cmp 6 (.var 0) (.cst .none)) (.cons (.cmp 6 (.var 1) (.cst .none)) .nil)))) .nil) .nil) (.cons (.if_ (.or (.cons (.cmp 1 (.attr (.var 0) 12) (.cst (.bytes [113]))) (.cons (.cmp 1 (.methC 6 (.attr (.var 0) 16) .nil) (.tup (.cons (.tup .nil) (.cons (.tup (.cons (.cst (.str [100,105,99,116])) .nil)) .nil)))) .nil))) (.cons (.ret (.cst (.bool false))) .nil) .nil) (.cons (.ret (.reprEq (.methC 6 (.attr (.var 0) 17) .nil) (.callC 59 (.cons (.var 1) .nil)))) .nil)))}
noncomputable def yqG:E:=(.lcomp 2 (.var 0) true (.cmp 1 (.var 2) (.var 1)) (.tup (.cons (.var 2) (.cons (.idx (.var 0) (.var 2)) .nil))))
noncomputable abbrev f_62:FnR:={np:=2,defs:=[],nl:=3,body:=(.cons (.if_ (.or (.cons (.cmp 9 (.var 1) (.var 0)) (.cons (.cmp 0 (.var 1) (.cst (.int 1))) .nil))) (.cons (.ret (.cst .none)) .nil) .nil) (.cons (.ret (.frz (.dic true yqG))) .nil))}
noncomputable def yqF:E:=(.lcomp 6 (.idx (.idx (.var 0) (.var 1)) (.cst (.int 1))) true (.cmp 1 (.var 6) (.var 2)) (.tup (.cons (.var 6) (.cons (.idx (.idx (.idx (.var 0) (.var 1)) (.cst (.int 1))) (.var 6)) .nil))))
noncomputable abbrev f_63:FnR:={np:=4,defs:=[],nl:=7,body:=(.cons (.if_ (.or (.cons (.cmp 9 (.var 1) (.var 0)) (.cons (.not (.isin (.idx (.idx (.var 0) (.var 1)) (.cst (.int 1))) (.ty 3))) .nil))) (.cons (.ret (.cst .none)) .nil) .nil) (.cons (.asg 4 (.dic false yqF)) (.cons (.if_ (.cmp 7 (.var 3) (.cst .none)) (.cons (.asgI (.var 4) (.var 2) (.var 3)) .nil) .nil) (.cons (.if_ (.and (.cons (.cmp 0 (.var 1) (.cst (.int 1))) (.cons (.cmp 0 (.var 4) (.dct false .nil)) .nil))) (.cons (.ret (.cst .none)) .nil) .nil) (.cons (.frz 4) (.cons (.asg 5 (.dic true (.var 0))) (.cons (.asgI (.var 5) (.var 1) (.tup (.cons (.idx (.idx (.var 0) (.var 1)) (.cst (.int 0))) (.cons (.var 4) .nil)))) (.cons (.frz 5) (.cons (.ret (.var 5)) .nil)))))))))}
noncomputable abbrev f_64:FnR:={np:=4,defs:=[],nl:=12,body:=(.cons (.asgT [4,5] (.idx (.glo 22) (.bin 4 (.var 3) (.cst (.int 4))))) (.cons (.asg 6 (.bin 4 (.bin 3 (.var 3) (.cst (.int 4))) (.cst (.int 10)))) (.cons (.if_ (.cmp 0 (.var 6) (.cst (.int 9))) (.cons (.asg 10 (.bin 1 (.bin 4 (.bin 3 (.var 3) (.cst (.int 40))) (.bin 5 (.cst (.int 10)) (.cst (.int 38)))) (.bin 4 (.bin 3 (.var 3) (.cst (.int 7))) (.cst (.int 1000))))) (.cons (.asgT [4,11] (.tup (.cons (.bin 0 (.bin 0 (.var 4) (.cst (.bytes [32]))) (.enc (.bi 1 (.var 10)) (.cst (.str [97,115,99,105,105])))) (.cons (.tup (.cons (.cst (.str [105,110,116])) (.cons (.var 10) .nil))) .nil)))) .nil)) (.cons (.asgT [4,11] (.tup (.cons (.bin 0 (.bin 0 (.var 4) (.cst (.bytes [32]))) (.idx (.idx (.glo 21) (.var 6)) (.cst (.int 0)))) (.cons (.idx (.idx (.glo 21) (.var 6)) (.cst (.int 1))) .nil)))) .nil)) (.cons (.asgT [7,8] (.tried (.callC 54 (.cons (.var 0) (.cons (.var 2) (.cons (.var 4) .nil)))))) (.cons (.asg 9 (.callC 63 (.cons (.var 1) (.cons (.var 2) (.cons (.var 5) (.cons (.var 11) .nil)))))) (.cons (.if_ (.cmp 6 (.var 9) (.cst .none)) (.cons (.ret (.ife (.or (.cons (.cmp 7 (.var 7) (.cst .none)) (.cons (.not (.isin (.var 8) (.clsE 2))) .nil))) (.tup (.cons (.cst (.bool false)) (.cons (.cst .none) (.cons (.cst .none) .nil)))) (.tup (.cons (.cst (.bool true)) (.cons (.cst .none) (.cons (.cst .none) .nil)))))) .nil) .nil) (.cons (.ret (.tup (.cons (.cmp 7 (.var 7) (.cst .none)) (.cons (.var 7) (.cons (.var 9) .nil))))) .nil)))))))}
noncomputable abbrev f_65:FnR:={np:=4,defs:=[],nl:=9,body:=(.cons (.asgT [4,5] (.idx (.glo 23) (.bin 4 (.var 3) (.cst (.int 7))))) (.cons (.asgT [6,7] (.tried (.callC 54 (.cons (.var 0) (.cons (.var 2) (.cons (.var 4) .nil)))))) (.cons (.if_ (.cmp 6 (.var 5) (.cst .none)) (.cons (.asg 8 (.callC 63 (.cons (.var 1) (.cons (.var 2) (.cons (.cst (.str [65])) (.cons (.tup (.cons (.cst (.str [105,110,116])) (.cons (.cst (.int 1)) .nil))) .nil)))))) (.cons (.ret (.tup (.cons (.cmp 0 (.cmp 6 (.var 6) (.cst .none)) (.cmp 6 (.var 8) (.cst .none))) (.cons (.var 6) (.cons (.var 8) .nil))))) .nil)) .nil) (.cons (.ret (.tup (.cons (.and (.cons (.cmp 6 (.var 6) (.cst .none)) (.cons (.isin (.var 7) (.ife (.var 5) (.clsE 1) (.clsE 2))) .nil))) (.cons (.cst .none) (.cons (.cst .none) .nil))))) .nil))))}
noncomputable abbrev f_66:FnR:={np:=4,defs:=[],nl:=10,body:=(.cons (.asgT [4,5] (.tup (.cons (.bin 0 (.cst (.int 1)) (.bin 4 (.var 3) (.cst (.int 4)))) (.cons (.bin 3 (.var 3) (.cst (.int 4))) .nil)))) (.cons (.asgT [6,7] (.tried (.callC 51 (.cons (.var 0) (.cons (.var 4) .nil))))) (.cons (.if_ (.or (.cons (.cmp 1 (.cmp 6 (.var 7) (.cst .none)) (.cmp 8 (.var 4) (.var 1))) (.cons (.and (.cons (.cmp 7 (.var 7) (.cst .none)) (.cons (.not (.isin (.var 7) (.clsE 2))) .nil))) .nil))) (.cons (.ret (.tup (.cons (.cst (.bool false)) (.cons (.cst .none) (.cons (.cst .none) .nil))))) .nil) .nil) (.cons (.if_ (.cmp 0 (.var 2) (.cst (.int 2))) (.cons (.asgT [8,7] (.tried (.callC 53 (.cons (.var 0) (.cons (.var 4) .nil))))) (.cons (.asg 9 (.callC 62 (.cons (.var 1) (.cons (.var 4) .nil)))) (.cons (.ret (.tup (.cons (.cmp 0 (.cmp 6 (.var 8) (.cst .none)) (.cmp 6 (.var 9) (.cst .none))) (.cons (.var 8) (.cons (.var 9) .nil))))) .nil))) .nil) (.cons (.if_ (.cmp 0 (.var 2) (.cst (.int 3))) (.cons (.ret (.callC 65 (.cons (.var 0) (.cons (.var 1) (.cons (.var 4) (.cons (.var 5) .nil)))))) .nil) .nil) (.cons (.ret (.callC 64 (.cons (.var 0) (.cons (.var 1) (.cons (.var 4) (.cons (.var 5) .nil)))))) .nil))))))}
noncomputable abbrev f_67:FnR:={np:=2,defs:=[],nl:=2,body:=(.cons (.if_ (.cmp 0 (.var 1) (.cst (.int 0))) (.cons (.ret (.cmp 6 (.idx (.tried (.methO 17 (.var 0) .nil)) (.cst (.int 1))) (.cst .none))) .nil) .nil) (.cons (.ret (.cmp 6 (.idx (.tried (.methO 18 (.var 0) .nil)) (.cst (.int 1))) (.cst .none))) .nil))}
noncomputable abbrev xX:Ss:=(.cons (.asgT [8,9] (.tup (.cons (.bin 4 (.var 6) (.cst (.int 9))) (.cons (.bin 3 (.var 6) (.cst (.int 9))) .nil)))) (.cons (.if_ (.cmp 2 (.var 8) (.cst (.int 2))) (.cons (.asg 10 (.bin 1 (.bin 0 (.var 5) (.bin 2 (.cst (.int 2)) (.var 8))) (.cst (.int 1)))) (.cons (.if_ (.cmp 1 (.callO 67 (.cons (.var 3) (.cons (.var 8) .nil))) (.chain 3 2 (.cst (.int 0)) (.var 10) (.bi 0 (.var 4)))) (.cons (.ret (.cst (.bool false))) .nil) .nil) (.cons (.asg 5 (.ife (.chain 3 2 (.cst (.int 0)) (.var 10) (.bi 0 (.var 4))) (.var 10) (.var 5))) .nil))) (.cons (.if_ (.cmp 7 (.idx (.var 4) (.var 5)) (.cst .none)) (.cons (.asgT [11,12,7] (.callC 66 (.cons (.attr (.var 3) 18) (.cons (.idx (.var 4) (.var 5)) (.cons (.var 8) (.cons (.var 9) .nil)))))) (.cons (.if_ (.not (.var 11)) (.cons (.ret (.cst (.bool false))) .nil) .nil) (.cons (.if_ (.cmp 7 (.var 7) (.cst .none)) (.cons (.expr (.methO 16 (.var 3) (.cons (.var 12) .nil))) (.cons (.asg 4 (.bin 0 (.slc (.var 4) (.cst .none) (.bin 0 (.var 5) (.cst (.int 1)))) (.lst (.cons (.var 7) .nil)))) (.cons (.asg 5 (.bin 0 (.var 5) (.cst (.int 1)))) .nil))) .nil) .nil))) .nil) .nil)) (.cons (.if_ (.not (.callC 60 (.cons (.attr (.var 3) 18) (.cons (.idx (.var 4) (.var 5)) .nil)))) (.cons (.ret (.cst (.bool false))) .nil) .nil) .nil)))
noncomputable def s_68_1:S:=(.for_ 6 (.slc (.var 0) (.cst .none) (.cst (.int 14))) xX)
noncomputable abbrev ylG:Ss:=(.cons (.asg 5 (.bin 1 (.var 5) (.cst (.int 1)))) (.cons (.if_ (.or (.cons (.not (.callO 67 (.cons (.var 3) (.cons (.cst (.int 0)) .nil)))) (.cons (.not (.callC 60 (.cons (.attr (.var 3) 18) (.cons (.idx (.var 4) (.var 5)) .nil)))) .nil))) (.cons (.ret (.cst (.bool false))) .nil) .nil) .nil))
noncomputable def s_68_3:S:=(.while_ (.cmp 4 (.var 5) (.cst (.int 0))) ylG)
noncomputable abbrev ylF:Ss:=(.cons (.if_ (.or (.cons (.not (.callO 67 (.cons (.var 3) (.cons (.cst (.int 1)) .nil)))) (.cons (.not (.callC 60 (.cons (.attr (.var 3) 18) (.cons (.var 7) .nil)))) .nil))) (.cons (.ret (.cst (.bool false))) .nil) .nil) .nil)
noncomputable def s_68_5:S:=(.for_ 7 (.slc (.var 4) (.cst (.int 1)) (.cst .none)) ylF)
noncomputable abbrev f_68:FnR:={np:=1,defs:=[],nl:=13,body:=(.cons (.asg 1 (.dct true (.cons (.cst (.int 1)) (.cons (.tup (.cons (.cst (.int 0)) (.cons (.dct false (.cons (.cst (.str [84,121,112,101])) (.cons (.tup (.cons (.cst (.str [110,97,109,101])) (.cons (.cst (.str [67,97,116,97,108,111,103])) .nil))) .nil))) .nil))) (.cons (.cst (.int 2)) (.cons (.tup (.cons (.cst (.int 3)) (.cons (.dct false (.cons (.cst (.str [65])) (.cons (.tup (.cons (.cst (.str [105,110,116])) (.cons (.cst (.int 1)) .nil))) .nil))) .nil))) (.cons (.cst (.int 3)) (.cons (.tup (.cons (.cst (.int 0)) (.cons (.tup (.cons (.cst (.str [97,114,114,97,121])) (.cons (.tup (.cons (.cst (.str [105,110,116])) (.cons (.cst (.int 7)) .nil))) .nil))) .nil))) .nil)))))))) (.cons (.asg 2 (.dct true (.cons (.cst (.int 1)) (.cons (.tup (.cons (.cst (.int 0)) (.cons (.dct false (.cons (.cst (.str [84,121,112,101])) (.cons (.frz (.new 4 (.cons (.cst (.str [67,97,116,97,108,111,103])) .nil))) .nil))) .nil))) (.cons (.cst (.int 2)) (.cons (.tup (.cons (.cst (.int 3)) (.cons (.dct false (.cons (.cst (.str [65])) (.cons (.cst (.int 1)) .nil))) .nil))) (.cons (.cst (.int 3)) (.cons (.tup (.cons (.cst (.int 0)) (.cons (.lst (.cons (.cst (.int 7)) .nil)) .nil))) .nil)))))))) (.cons (.asgT [3,4,5] (.tup (.cons (.new 13 .nil) (.cons (.lst (.cons (.cst .none) (.cons (.var 1) .nil))) (.cons (.cst (.int 1)) .nil))))) (.cons (.expr (.methO 16 (.var 3) (.cons (.frz (.new 12 (.cons (.cst (.bytes [113])) (.cons (.frz (.new 9 .nil)) (.cons (.frz (.new 9 (.cons (.var 2) (.cons (.dct false (.cons (.cst (.str [82,111,111,116])) (.cons (.frz (.new 7 (.cons (.cst (.int 1)) (.cons (.cst (.int 0)) .nil)))) .nil))) .nil)))) .nil))))) .nil))) (.cons s_68_1 (.cons s_68_3 (.cons s_68_5 (.cons (.ret (.not (.callO 67 (.cons (.var 3) (.cons (.cst (.int 1)) .nil))))) .nil))))))))}
noncomputable def fnL:List (Nat×FnR):=[(0,f_0),(1,f_1),(2,f_2),(3,f_3),(4,f_4),(5,f_5),(6,f_6),(7,f_7),(8,f_8),(9,f_9),(10,f_10),(11,f_11),(12,f_12),(13,f_13),(14,f_14),(15,f_15),(16,f_16),(17,f_17),(18,f_18),(19,f_19),(20,f_20),(21,f_21),(22,f_22),(23,f_23),(24,f_24),(25,f_25),(26,f_26),(27,f_27),(28,f_28),(29,f_29),(30,f_30),(31,f_31),(32,f_32),(33,f_33),(34,f_34),(35,f_35),(36,f_36),(37,f_37),(38,f_38),(39,f_39),(40,f_40),(41,f_41),(42,f_42),(43,f_43),(44,f_44),(45,f_45),(46,f_46),(47,f_47),(48,f_48),(49,f_49),(50,f_50),(51,f_51),(52,f_52),(53,f_53),(54,f_54),(55,f_55),(56,f_56),(57,f_57),(58,f_58),(59,f_59),(60,f_60),(62,f_62),(63,f_63),(64,f_64),(65,f_65),(66,f_66),(67,f_67),(68,f_68)]
noncomputable def fnsT (i:Nat):Option FnR:=fnL.lookup i
noncomputable def methL:List ((Nat×Nat)×Nat):=[((8,0),9),((8,1),10),((9,0),9),((9,1),10),((9,2),11),((9,3),12),((9,4),13),((9,5),14),((9,6),15),((10,7),19),((10,8),20),((10,9),21),((10,10),22),((10,11),23),((10,12),24),((10,13),25),((10,14),26),((11,15),39),((13,16),56),((13,17),57),((13,18),58)]
noncomputable def methT (C k:Nat):Option Nat:=methL.lookup (C,k)
noncomputable def initL:List (Nat×Nat):=[(3,0),(4,2),(5,3),(7,4),(8,8),(9,8),(10,18),(11,38),(12,49),(13,55)]
noncomputable def initT (C:Nat):Option Nat:=initL.lookup C
noncomputable def gloL:List PV:=[g_MOST_FIGURES_decimals,g_PLUS,g_MINUS,g_POINT,g_ZERO,g_MOST_HOPS,g_WHITE,g_DELIMITERS,g_LINE_FEED,g_RETURN,g_COMMENT,g_MOST_FIGURES_cursor,g_PAREN,g_CLOSE_PAREN,g_LESS,g_GREATER,g_SLASH,g_BACKSLASH,g_HASH,g_SIGNS,g_MOST_DEPTH,yN,wH,yC]
noncomputable def gloT (i:Nat):Option PV:=gloL[i]?
noncomputable def TT:Tab:=⟨fnsT,methT,initT,gloT⟩
noncomputable def lawId:Nat:=68
end Mine
end
section
open PySem PySem.W PyProof.Rows PySem.Calls
namespace Mine
set_option tactic.hygienic false
noncomputable abbrev zB:=List (Addr×Obj)
noncomputable def All2 {α β:Type} (r:α→β→Prop):List α→List β→Prop
 |[],[]=>True
 |a::as,b::bs=>r a b∧All2 r as bs
 |_,_=>False
theorem yJ {α β:Type} {r:α→β→Prop} {M:List α→List β→Prop} (n:M [] []) (c:∀ {a b as bs},r a b→All2 r as bs→M as bs→M (a::as) (b::bs)):∀ {as bs},All2 r as bs→M as bs:=by
 intro l0
 induction l0 with
 |nil =>
  intro l1;cases l1 with
  |nil =>
   intro _;exact n
  |cons _ _ =>intros; contradiction
 |cons _ _ ih =>
  intro l1;cases l1 with
  |nil =>intros; contradiction
  |cons _ _ =>
   intro h;exact c h.1 h.2 (ih h.2)
theorem zE {α β:Type} {r:α→β→Prop} {as:List α} {bs:List β} (h:All2 r as bs):as.length=bs.length:=yJ (M:=fun (as:List α) (bs:List β)=>as.length=bs.length) rfl (fun _ _ ih=>congrArg (· + 1) ih) h
theorem zfA {α β:Type} {r:α→β→Prop} {as:List α} {bs:List β} (h:All2 r as bs):∀ (i:Nat) (a:α),as[i]? =some a→∃ b,bs[i]? =some b∧r a b :=
 yJ (M:=fun as bs=>∀ (i:Nat) (a:α),as[i]? =some a→∃ b,bs[i]? =some b∧r a b) (fun _ _ h=>nomatch h) (fun {_ b _ _} h _ ih i a ha=>by
  cases i with
  |zero=>exact ⟨b,rfl,Option.some.inj ha▸h⟩
  |succ i=>exact ih i a ha) h
theorem xD {α β:Type} {r:α→β→Prop} {as:List α} {bs:List β} (h:All2 r as bs) (i:Nat) (a:α) (b:β) (ha:as[i]? =some a) (hb:bs[i]? =some b):r a b :=
 by refine oEA (zfA h i a ha) fun _ h1 h2=> ?_; exact Option.some.inj (h1.symm.trans hb)▸h2
theorem zdA {α β:Type} {r:α→β→Prop}:∀ {as:List α} {bs:List β},as.length=bs.length→(∀ (i:Nat) (a:α) (b:β),as[i]? =some a→bs[i]? =some b→r a b)→All2 r as bs:=by
 intro l0
 induction l0 with
 |nil =>
  intro bs e _;exact List.eq_nil_of_length_eq_zero e.symm▸trivial
 |cons a as ih =>
  intro bs e k;cases bs with
  |nil=>exact nomatch e
  |cons b bs=>exact ⟨k 0 a b rfl rfl,ih (Nat.succ.inj e) fun i x y hx hy=>k (i+1) x y hx hy⟩
theorem all2_mono {α β:Type} {r r':α→β→Prop} (h:∀ a b,r a b→r' a b) {as:List α} {bs:List β} (k:All2 r as bs):All2 r' as bs:=yJ (M:=All2 r') trivial (fun a _ b=>⟨h _ _ a,b⟩) k
theorem yM {α β:Type} {r:α→β→Prop} {as cs:List α} {bs ds:List β} (h:All2 r as bs) (k:All2 r cs ds):All2 r (as++cs) (bs++ds):=yJ (M:=fun as bs=>All2 r (as++cs) (bs++ds)) k (fun {a b as bs} x _ y=>show All2 r (a::(as++cs)) (b::(bs++ds)) from ⟨x,y⟩) h
noncomputable def nmT:List Str:=["what","at","top","places","text","octets","is_hex","head","number","generation","table","trailer","data","end","mark","items","base","shelf","now","behind","ahead"]
noncomputable def nm (k:Nat):Str:=nmT.getD k "what"
noncomputable def tyT:List String:=["bool","int","list","dict"]
noncomputable def tyN (k:Nat):String:=tyT.getD k "bool"
set_option genInjectivity false in
structure Gl where
 prog:Program
 w:World
 K:Frag
 base:Heap
 p:Program
 loose:List Str
 mean:ExcName→Option Value
 mg:Str→Option Value
 mb:Str→Option Value
 tabs:List (Addr×Addr×Str)
 fa:Nat→Addr
 ca:Nat→Addr
noncomputable def zK {K:Type} [DecidableEq K] {prog:Program} {w:World} (knd:KeyKind prog w K) (kvs:List (K×Value)) (o:Obj):Prop :=
 o.ExactDict∧∃ es ep,o.data= .dict es ep∧KeysOf knd es∧Pairs knd es.toList kvs∧(kvs.map (·.1)).Nodup
theorem zK.of {K:Type} [DecidableEq K] {prog:Program} {w:World} {knd:KeyKind prog w K} {kvs:List (K×Value)} {h:Heap} {a:Addr} {o:Obj} (x:h.DictOf knd a kvs) (e:h.get? a=some o):zK knd kvs o:=by
 refine z0 x fun o' es ep ho hc hd r=> ?_; (try clear x);rw [e] at ho; cases ho;exact ⟨hc,es,ep,hd,r⟩
theorem zK.at {K:Type} [DecidableEq K] {prog:Program} {w:World} {knd:KeyKind prog w K} {kvs:List (K×Value)} {h:Heap} {a:Addr} {o:Obj} (x:zK knd kvs o) (e:h.get? a=some o):h.DictOf knd a kvs:=by
 refine oAEEA x fun hc es ep hd r=> ?_; (try clear x);exact ⟨o,es,ep,e,hc,hd,r⟩
noncomputable def Gl.P (G:Gl) (fz:zB) (a:Addr) (o:Obj):Prop:=G.base.get? a=some o∨(a,o)∈fz
theorem Gl.P.mono {G:Gl} {fz fz':zB} {a:Addr} {o:Obj} (x:G.P fz a o) (h:∀ p∈fz,p∈fz'):G.P fz' a o:=x.imp id (h _)
noncomputable abbrev tupO (vals:List Value) (n:Nat):Obj:={cls:=.type "tuple",data:=.seq vals.toArray n}
noncomputable abbrev lstO (vals:List Value) (n:Nat):Obj:={cls:=.type "list",data:=.seq vals.toArray n}
noncomputable abbrev Mu:=List (Addr×Addr)
noncomputable def xH (kvs:List (Str×Value)):Prop:=∀ p∈kvs,p.1.cps.size≤SZ
noncomputable abbrev zP (a:Addr):Prop:=(a==sysModules)=false
inductive VR (G:Gl) (fz:zB) (μ:Mu):PV→Value→Prop
 |none:VR G fz μ .none .none
 |bool (b:Bool):VR G fz μ (.bool b) (.bool b)
 |int (i:Int) (t:Tok):VR G fz μ (.int i) (.int i t)
 |str (s:Str) (t:Tok):s.cps.size≤SZ→VR G fz μ (.str s.cps.toList) (.str s t)
 |bytes (b:Array UInt8) (t:Tok):b.size≤SZ→VR G fz μ (.bytes (b.toList.map UInt8.toNat)) (.bytes b t)
 |ref (i:Nat) (a d:Addr):μ[i]? =some (a,d)→VR G fz μ (.ref i) (.ref a)
 |tup (vs:List PV) (vals:List Value) (n:Nat) (a:Addr):G.P fz a (tupO vals n)→vals.length≤SZ→vs.length=vals.length→(∀ (i:Nat) v x,vs[i]? =some v→vals[i]? =some x→VR G fz μ v x)→VR G fz μ (.tup vs) (.ref a)
 |lst (vs:List PV) (vals:List Value) (n:Nat) (a:Addr):G.P fz a (lstO vals n)→vals.length≤SZ→vs.length=vals.length→(∀ (i:Nat) v x,vs[i]? =some v→vals[i]? =some x→VR G fz μ v x)→VR G fz μ (.lst vs) (.ref a)
 |dicI (ks:List Int) (vs:List PV) (kvs:List (Int×Value)) (a:Addr) (o:Obj):G.P fz a o→zP a∧kvs.length≤SZ→zK (intKind G.prog G.w) kvs o→ks=kvs.map (·.1)→vs.length=(kvs.map (·.2)).length →
   (∀ (i:Nat) v x,vs[i]? =some v→(kvs.map (·.2))[i]? =some x→VR G fz μ v x)→VR G fz μ (.dicI ks vs) (.ref a)
 |dicS (ks:List (List Nat)) (vs:List PV) (kvs:List (Str×Value)) (a:Addr) (o:Obj):G.P fz a o→zP a∧kvs.length≤SZ∧xH kvs→zK (PySem.strKind G.prog G.w) kvs o→ks=kvs.map (·.1.cps.toList)→vs.length=(kvs.map (·.2)).length →
   (∀ (i:Nat) v x,vs[i]? =some v→(kvs.map (·.2))[i]? =some x→VR G fz μ v x)→VR G fz μ (.dicS ks vs) (.ref a)
 |obj (C:Nat) (ks:List Nat) (vs:List PV) (es:List DictEntry) (n:Nat) (a d:Addr):G.P fz a (instObj (G.ca C) d)→G.P fz d (dictOf es n)→All2 (fun k e=>∃ t,e.key= .str (nm k) t) ks es→vs.length=(es.map (·.val)).length →
   (∀ (i:Nat) v x,vs[i]? =some v→(es.map (·.val))[i]? =some x→VR G fz μ v x)→VR G fz μ (.obj C ks vs) (.ref a)
 |exc (C:Nat) (a:Addr) (o:Obj) (fs:Array Value):G.P fz a o→o.cls= .ref (G.ca C)→o.data= .fields fs→VR G fz μ (.exc C) (.ref a)
 |cls (C:Nat):VR G fz μ (.cls C) (.ref (G.ca C))
 |typ (t:Nat):VR G fz μ (.typ t) (.type (tyN t))
 |rng (a b c:Int) (r:Addr) (o:Obj) (t u v:Tok):G.P fz r o→(∀ h:Heap,h.get? r=some o→IsRange h r a b c t u v)→VR G fz μ (.rng a b c) (.ref r)
noncomputable abbrev VRs (G:Gl) (fz:zB) (μ:Mu):=All2 (VR G fz μ)
noncomputable def Ext (fz:zB) (μ:Mu) (fz':zB) (μ':Mu):Prop:=(∀ p∈fz,p∈fz')∧∀ (i:Nat) x,μ[i]? =some x→μ'[i]? =some x
theorem Ext.refl:Ext fz μ fz μ:=⟨fun _ h=>h,fun _ _ h=>h⟩
theorem Ext.trans (x:Ext fz μ fz' μ') (y:Ext fz' μ' fz'' μ''):Ext fz μ fz'' μ'':=⟨fun p h=>y.1 p (x.1 p h),fun i q h=>y.2 i q (x.2 i q h)⟩
theorem VR.mono {G:Gl} {fz fz':zB} {μ μ':Mu} (e:Ext fz μ fz' μ') {v:PV} {x:Value} (h:VR G fz μ v x):VR G fz' μ' v x:=by
 induction h with
 |none=>exact .none
 |bool b=>exact .bool b
 |int i t=>exact .int i t
 |str s t h=>exact .str s t h
 |bytes b t h=>exact .bytes b t h
 |ref i a d h=>exact .ref i a d (e.2 _ _ h)
 |tup vs vals n a h z l _ ih=>exact .tup vs vals n a (h.mono e.1) z l ih
 |lst vs vals n a h z l _ ih=>exact .lst vs vals n a (h.mono e.1) z l ih
 |dicI ks vs kvs a o h z d k l _ ih=>exact .dicI ks vs kvs a o (h.mono e.1) z d k l ih
 |dicS ks vs kvs a o h z d k l _ ih=>exact .dicS ks vs kvs a o (h.mono e.1) z d k l ih
 |obj C ks vs es n a d h h' k l _ ih=>exact .obj C ks vs es n a d (h.mono e.1) (h'.mono e.1) k l ih
 |exc C a o fs h c d=>exact .exc C a o fs (h.mono e.1) c d
 |cls C=>exact .cls C
 |typ t=>exact .typ t
 |rng a b c r o t u v h k=>exact .rng a b c r o t u v (h.mono e.1) k
theorem VRs.mono (e:Ext fz μ fz' μ') (h:VRs G fz μ vs xs):VRs G fz' μ' vs xs:=all2_mono (fun _ _ k=>k.mono e) h
theorem xW:∀ {vs:List PV} {i:Nat} {v:PV},zO vs=true→vs[i]? =some v→closed v=true:=by
 intro l0
 induction l0 with
 |nil =>intros; contradiction
 |cons v vs ih =>
  intro l1;cases l1 with
  |zero =>
   intro w h e;exact Option.some.inj e▸(Bool.and_eq_true_iff.mp h).1
  |succ i =>
   intro w h e;exact ih (Bool.and_eq_true_iff.mp h).2 e
theorem VR.closed (h:VR G fz μ v x):closed v=true→VR G fz μ' v x :=
 VR.rec (motive:=fun v x _=>Mine.closed v=true→VR G fz μ' v x) (fun _=>.none) (fun b _=>.bool b) (fun i t _=>.int i t) (fun s t h _=>.str s t h) (fun b t h _=>.bytes b t h) (fun i a d h hc=>Bool.noConfusion hc)
  (fun vs vals n a h z l _ ih hc=>.tup vs vals n a h z l fun i v x hv hx=>ih i v x hv hx (xW (vs:=vs) hc hv)) (fun vs vals n a h z l _ ih hc=>.lst vs vals n a h z l fun i v x hv hx=>ih i v x hv hx (xW (vs:=vs) hc hv))
  (fun ks vs kvs a o h z d k l _ ih hc=>.dicI ks vs kvs a o h z d k l fun i v x hv hx=>ih i v x hv hx (xW (vs:=vs) hc hv)) (fun ks vs kvs a o h z d k l _ ih hc=>.dicS ks vs kvs a o h z d k l fun i v x hv hx=>ih i v x hv hx (xW (vs:=vs) hc hv))
  (fun C ks vs es n a d h h' k l _ ih hc=>.obj C ks vs es n a d h h' k l fun i v x hv hx=>ih i v x hv hx (xW (vs:=vs) hc hv)) (fun C a o fs h c d _=>.exc C a o fs h c d) (fun C _=>.cls C) (fun t _=>.typ t) (fun a b c r o t u v h k _=>.rng a b c r o t u v h k) h
theorem VRs.closed (h:VRs G fz μ vs xs):zO vs=true→VRs G fz μ' vs xs :=
 yJ (M:=fun vs xs=>zO vs=true→VRs G fz μ' vs xs) (fun _=>trivial) (fun h _ ih c=>⟨h.closed (Bool.and_eq_true_iff.mp c).1,ih (Bool.and_eq_true_iff.mp c).2⟩) h
noncomputable def PoR (G:Gl) (fz:zB) (μ:Mu) (po:PO) (a d:Addr) (o:Obj):Prop:=match po with
 | .lst vs=>a=d∧∃ vals n,o=lstO vals n∧vals.length≤SZ∧VRs G fz μ vs vals
 | .dicI ks vs=>a=d∧∃ kvs:List (Int×Value),(zP a∧kvs.length≤SZ)∧zK (intKind G.prog G.w) kvs o∧ks=kvs.map (·.1)∧VRs G fz μ vs (kvs.map (·.2))
 | .dicS ks vs=>a=d∧∃ kvs:List (Str×Value),(zP a∧kvs.length≤SZ∧xH kvs)∧zK (PySem.strKind G.prog G.w) kvs o∧ks=kvs.map (·.1.cps.toList)∧VRs G fz μ vs (kvs.map (·.2))
 | .att C ks vs=>G.P fz a (instObj (G.ca C) d)∧∃ es n,o=dictOf es n∧All2 (fun k e=>∃ t,e.key= .str (nm k) t) ks es∧VRs G fz μ vs (es.map (·.val))
 | .dead=>False
theorem PoR.mono {G:Gl} {fz fz':zB} {μ μ':Mu} (e:Ext fz μ fz' μ') {po:PO} {a d:Addr} {o:Obj} (h:PoR G fz μ po a d o):PoR G fz' μ' po a d o:=by
 cases po with
 |lst vs=>refine zbH h fun h1 vals n h2 h2' h3=> ?_; (try clear h); exact ⟨h1,vals,n,h2,h2',h3.mono e⟩
 |dicI ks vs=>refine zbI h fun h1 kvs h0 h2 h3 h4=> ?_; (try clear h); exact ⟨h1,kvs,h0,h2,h3,h4.mono e⟩
 |dicS ks vs=>refine zbI h fun h1 kvs h0 h2 h3 h4=> ?_; (try clear h); exact ⟨h1,kvs,h0,h2,h3,h4.mono e⟩
 |att C ks vs=>refine zbH h fun h1 es n h2 h3 h4=> ?_; (try clear h); exact ⟨h1.mono e.1,es,n,h2,h3,h4.mono e⟩
 |dead=>exact h
noncomputable def TabOk (G:Gl) (fz:zB) (tb:zB):Prop:=∀ q∈G.tabs,∃ ps:Array Value,(q.2.1,tabObj ps)∈tb∧TriplesOk ps.toList ∧
 ∀ pos cv,codeAmong pos ps.toList=some cv→∃ c' oc vs t,cv= .ref c'∧(c',oc)∈fz∧oc.data= .fields vs∧vs[1]? =some (.str q.2.2 t)
noncomputable def live (po:PO):Prop:=match po with
 | .dead=>False
 |_=>True
structure yH (G:Gl) (R fz:zB) (μ:Mu) (H:Hp) (mu tb:zB):Prop where
 len:μ.length=H.length
 live:∀ (i:Nat) po,H[i]? =some po→live po→∃ a d o,μ[i]? =some (a,d)∧(d,o)∈mu∧PoR G fz μ po a d o
 own:∀ p∈mu,∃ (i:Nat) (po:PO) (a:Addr),H[i]? =some po∧Mine.live po∧μ[i]? =some (a,p.1)
 inj:∀ (i j:Nat) po po' a d a',H[i]? =some po→Mine.live po→H[j]? =some po'→Mine.live po'→μ[i]? =some (a,d)→μ[j]? =some (a',d)→i=j
 sepM:∀ p∈mu,∀ q∈fz++(tb++R),q.1≠p.1
 sepF:∀ p∈fz,∀ q∈tb++R,q.1≠p.1
 sepT:∀ p∈tb,∀ q∈R,q.1≠p.1
 fun_:∀ p∈mu,∀ q∈mu,q.1=p.1→q=p
 tab:TabOk G fz tb
 tfun:∀ p∈tb,∀ q∈tb,q.1=p.1→q=p
set_option genInjectivity false in
structure Fx where
 A:Around
 A₀:Around
 env:Env
 fenv:Env
 outer:List Env
 h₀:Heap
 L:Addr
 xs:List Str
 comp:Option Addr
 pin:Option (Str→Option Value)
 rc:zB
 s₀:Shared
noncomputable def Fx.fs (φ:Fx):List Addr:=φ.outer.filterMap (·.frame)
inductive Base (G:Gl) (φ:Fx) (m:Str→Option Value) (R fz:zB) (μ:Mu) (H:Hp) (h:Heap):Prop
 |mk (g:Heap) (mu tb:zB) (T:KtsTurn φ.fs φ.h₀ g) (F:Fr g φ.L h m) (N:News g φ.L h (fz++(mu++(tb++R)))) (S:yH G R fz μ H mu tb)
theorem yH.ext (x:yH G R fz μ H mu tb) (e:∀ p∈fz,p∈fz') (hM:∀ p∈mu,∀ q∈fz',q.1≠p.1) (hF:∀ p∈fz',∀ q∈tb++R,q.1≠p.1):yH G R fz' μ H mu tb where
 len:=x.len
 live:=fun i po hi hl=>by refine zY (x.live i po hi hl) fun a d o h1 h2 h3=> ?_; exact ⟨a,d,o,h1,h2,h3.mono ⟨e,fun _ _ h=>h⟩⟩
 own:=x.own
 inj:=x.inj
 sepM:=fun p hp q hq=>(mP hq).elim (hM p hp q) fun hq=>x.sepM p hp q (mR _ hq)
 sepF:=hF
 sepT:=x.sepT
 fun_:=x.fun_
 tab:=fun q hq=>by refine oEAA (x.tab q hq) fun ps h1 h2 h3=> ?_; exact ⟨ps,h1,h2,fun pos cv hc=>by refine zcD (h3 pos cv hc) fun c' oc vs t k1 k2 k3=> ?_; exact ⟨c',oc,vs,t,k1,e _ k2,k3⟩⟩
 tfun:=x.tfun
section
variable {G:Gl} {φ:Fx} {m:Str→Option Value} {R fz:zB} {μ:Mu} {H:Hp} {h h':Heap}
theorem Base.grow (x:Base G φ m R fz μ H h) (k:∀ b o,h.get? b=some o→h'.get? b=some o):Base G φ m R fz μ H h' :=
 by obtain ⟨g,mu,tb,T,F,N,S⟩:=x; exact ⟨g,mu,tb,T,F.keeps k,N.grown k,S⟩
theorem Base.lt (x:Base G φ m R fz μ H h):φ.L<h.objs.size:=by obtain ⟨g,mu,tb,T,F,N,S⟩:=x; exact F.ns.lt
theorem Base.ns (x:Base G φ m R fz μ H h):h.Ns φ.L m:=by obtain ⟨g,mu,tb,T,F,N,S⟩:=x; exact F.ns
theorem Base.more (x:Base G φ m R fz μ H h) (k:∀ b o,h.get? b=some o→h'.get? b=some o) (hn:∀ p∈new,h'.get? p.1=some p.2∧h.get? p.1=none):Base G φ m R (new++fz) μ H h':=by
 obtain ⟨g,mu,tb,T,F,N,S⟩:=x;have nw:∀ p∈new,∀ q∈fz++(mu++(tb++R)),q.1≠p.1:=fun p hp q hq e=>by
  have h1:=(hn p hp).2;rw [← e,(N q hq).1] at h1;cases h1
 refine ⟨g,mu,tb,T,F.keeps k,fun p hp=> ?_,S.ext (fun p hp=>mR _ hp) (fun p hp q hq=> ?_) fun p hp q hq=> ?_⟩
 ·rcases mP hp with hp|hp
  ·rcases mP hp with hp|hp
   ·obtain ⟨h1,h2⟩:=hn p hp
    refine ⟨h1,fun e=> ?_,?_⟩
    ·refine wQ (F.ns) fun o _ _ ho _=> ?_
     rw [e,ho] at h2; cases h2
    ·cases q:g.get? p.1 with
     |none=>rfl
     |some o=>rw [F.keep _ _ q] at h2; cases h2
   ·exact N.grown k p (mL _ hp)
  ·exact N.grown k p (mR _ hp)
 ·rcases mP hq with hq|hq
  ·exact fun e=>nw q hq p (mR _ (mL _ hp)) e.symm
  ·exact S.sepM p hp q (mL _ hq)
 ·rcases mP hp with hp|hp
  ·exact nw p hp q (mR _ (mR _ hq))
  ·exact S.sepF p hp q hq
theorem Base.fact (x:Base G φ m R fz μ H h) (hp:p∈fz):h.get? p.1=some p.2:=by obtain ⟨g,mu,tb,T,F,N,S⟩:=x; exact (N p (mL _ hp)).1
theorem Base.at (x:Base G φ m R fz μ H h) {i:Nat} {po:PO} (hi:H[i]? =some po) (hl:live po):∃ a d o,μ[i]? =some (a,d)∧h.get? d=some o∧PoR G fz μ po a d o:=by
 obtain ⟨g,mu,tb,T,F,N,S⟩:=x;refine zY (S.live i po hi hl) fun a d o h1 h2 h3=> ?_;exact ⟨a,d,o,h1,(N _ (mR _ (mL _ h2))).1,h3⟩
theorem ztA {α:Type}:∀ (l:List α) (i:Nat) (x:α),(zF l i x).length=l.length:=by
 intro l0
 induction l0 with
 |nil =>
  intro i x;exact rfl
 |cons y r ih =>
  intro l1;cases l1 with
  |zero =>
   intro x;exact rfl
  |succ i =>
   intro x;exact congrArg (· + 1) (ih i x)
theorem zaH {α:Type} {x y:α}:∀ {l:List α} {i:Nat},l[i]? =some y→(zF l i x)[i]? =some x:=by
 intro l0
 induction l0 with
 |nil =>
  intro _ h;exact nomatch h
 |cons _ r ih =>
  intro l1;cases l1 with
  |zero =>
   intro _;exact rfl
  |succ i =>
   intro h;exact ih (i:=i) h
theorem zdH {α:Type} {x:α}:∀ {l:List α} {i j:Nat},i≠j→(zF l i x)[j]? =l[j]? :=by
 intro l0
 induction l0 with
 |nil =>
  intro _ _ _;exact rfl
 |cons _ r ih =>
  intro l1;cases l1 with
  |zero =>
   intro l2;cases l2 with
   |zero =>
    intro h;exact absurd rfl h
   |succ _ =>
    intro _;exact rfl
  |succ i =>
   intro l2;cases l2 with
   |zero =>
    intro _;exact rfl
   |succ j =>
    intro h;exact ih fun e=>h (congrArg (· + 1) e)
theorem Base.upd2 (x:Base G φ m R fz μ H h) (hi:H[i]? =some po) (hl:live po) (hl':live po') (hm:μ[i]? =some (a,d)) (keep:∀ b o,b≠d→b≠φ.L→h.get? b=some o→h'.get? b=some o) (hn:h'.Ns φ.L m) (ho:h'.get? d=some o') (hp:PoR G fz μ po' a d o') :
  Base G φ m R fz μ (zF H i po') h':=by
 obtain ⟨g,mu,tb,T,F,N,S⟩:=x;refine zY (S.live i po hi hl) fun a' d' o h1 h2 h3=> ?_;rw [hm] at h1; cases h1;have hd:=N _ (mR _ (mL _ h2));have mem':∀ p∈mu.map (fun p=>if p.1=d then (d,o') else p),∃ q∈mu,q.1=p.1∧(p=q∧q.1≠d∨q.1=d∧p=(d,o')):=fun p hp=>by
  refine oEA (List.mem_map.mp hp) fun q hq o1_=> ?_; obtain rfl:=o1_
  by_cases e:q.1=d
  ·exact ⟨q,hq,by rw [if_pos e,e],.inr ⟨e,if_pos e⟩⟩
  ·exact ⟨q,hq,by rw [if_neg e],.inl ⟨if_neg e,e⟩⟩
 refine ⟨g,mu.map fun p=>if p.1=d then (d,o') else p,tb,T,⟨hn,fun b o e=>keep b o (fun z=>by rw [z,hd.2.2] at e; cases e) (fun z=>absurd (Nat.lt_of_lt_of_le (z▸Heap.lt_size e) F.above) (Nat.lt_irrefl _)) (F.keep b o e),F.above⟩,fun p hp=> ?_,?_⟩
 ·rcases mP hp with hp|hp
  ·exact ⟨keep _ _ (S.sepM _ h2 p (mL _ hp)) (N p (mL _ hp)).2.1 (N p (mL _ hp)).1,(N p (mL _ hp)).2⟩
  ·rcases mP hp with hp|hp
   ·refine oEAA (mem' p hp) fun q hq e z=> ?_
    have hN:=N q (mR _ (mL _ hq))
    rcases z with ⟨rfl,z⟩|⟨z,rfl⟩
    ·exact ⟨keep _ _ z hN.2.1 hN.1,hN.2⟩
    ·exact ⟨ho,hd.2⟩
   ·have hN:=N p (mR _ (mR _ hp))
    exact ⟨keep _ _ (S.sepM _ h2 p (mR _ hp)) hN.2.1 hN.1,hN.2⟩
 ·have lv:∀ (j:Nat) q,(zF H i po')[j]? =some q→live q→∃ q',H[j]? =some q'∧live q'∧(j≠i→q'=q)∧(j=i→q=po'):=fun j q hj lq=>by
   by_cases e:i=j
   ·subst e
    rw [zaH hi] at hj; cases hj;exact ⟨po,hi,hl,fun z=>absurd rfl z,fun _=>rfl⟩
   ·rw [zdH e] at hj
    exact ⟨q,hj,lq,fun _=>rfl,fun z=>absurd z.symm e⟩
  constructor
  ·rw [ztA]; exact S.len
  ·intro j q hj lq
   by_cases e:i=j
   ·subst e
    rw [zaH hi] at hj; cases hj;exact ⟨a,d,o',hm,List.mem_map.mpr ⟨_,h2,if_pos rfl⟩,hp⟩
   ·rw [zdH e] at hj
    refine zY (S.live j q hj lq) fun a2 d2 o2 k1 k2 k3=> ?_;have hd2:d2≠d:=fun z=>e (S.inj i j po q a d a2 hi hl hj lq hm (z▸k1));exact ⟨a2,d2,o2,k1,List.mem_map.mpr ⟨_,k2,if_neg hd2⟩,k3⟩
  ·intro p hp
   refine oEAA (mem' p hp) fun q hq e _=> ?_;refine zY (S.own q hq) fun j po2 a2 k1 k2 k3=> ?_
   by_cases z:i=j
   ·subst z
    exact ⟨i,po',a2,zaH hi,hl',e▸k3⟩
   ·exact ⟨j,po2,a2,by rw [zdH z]; exact k1,k2,e▸k3⟩
  ·intro j k p q a1 d1 a2 hj lj hk lk
   refine oEAA (lv j p hj lj) fun p' hp' lp' _=> ?_;refine oEAA (lv k q hk lk) fun q' hq' lq' _=> ?_;exact S.inj j k p' q' a1 d1 a2 hp' lp' hq' lq'
  ·intro p hp
   refine oEAA (mem' p hp) fun q hq e _=> ?_;exact e▸S.sepM q hq
  ·exact S.sepF
  ·exact S.sepT
  ·intro p hp q hq e
   refine oEAA (mem' p hp) fun p1 hp1 e1 z1=> ?_;refine oEAA (mem' q hq) fun q1 hq1 e2 z2=> ?_;have:=S.fun_ p1 hp1 q1 hq1 (by rw [e1,e2,e]);subst this
   rcases z1 with ⟨rfl,z1⟩|⟨z1,rfl⟩
   ·rcases z2 with ⟨rfl,z2⟩|⟨z2,rfl⟩
    ·rfl
    ·exact absurd z2 z1
   ·rcases z2 with ⟨rfl,z2⟩|⟨z2,rfl⟩
    ·exact absurd z1 z2
    ·rfl
  ·exact S.tab
  ·exact S.tfun
theorem Base.upd (x:Base G φ m R fz μ H h) (hi:H[i]? =some po) (hl:live po) (hl':live po') (hm:μ[i]? =some (a,d)) (hs:Heap.SameBut d h h') (ho:h'.get? d=some o') (hp:PoR G fz μ po' a d o') :
  Base G φ m R fz μ (zF H i po') h':=by
 have hne:φ.L≠d:=by
  obtain ⟨g,mu,tb,T,F,N,S⟩:=x;refine zY (S.live i po hi hl) fun a' d' o h1 h2 h3=> ?_;rw [hm] at h1; cases h1;exact Ne.symm (N _ (mR _ (mL _ h2))).2.1
 exact x.upd2 hi hl hl' hm (fun b o hb _ e=>(hs.2 b hb).trans e) (x.ns.sameBut hs hne) ho hp
theorem Base.push (x:Base G φ m R fz μ H h) (k:∀ b o,h.get? b=some o→h'.get? b=some o) (hd:h'.get? d=some o) (hn:h.get? d=none) (hl:live po) (hp:PoR G fz (μ++[(a,d)]) po a d o) :
  Base G φ m R fz (μ++[(a,d)]) (H++[po]) h':=by
 obtain ⟨g,mu,tb,T,F,N,S⟩:=x;have hx:Ext fz μ fz (μ++[(a,d)]):=⟨fun _ h=>h,fun i x hi=>by rw [List.getElem?_append_left (List.getElem?_eq_some_iff.mp hi).1]; exact hi⟩;have nd:∀ q∈fz++(mu++(tb++R)),q.1≠d:=fun q hq e=>by
  have h1:=(N q hq).1;rw [e,hn] at h1; cases h1
 have at_:∀ (i:Nat) q,(H++[po])[i]? =some q→(H[i]? =some q)∨(i=H.length∧q=po):=fun i q hi=>by
  by_cases e:i<H.length
  ·rw [List.getElem?_append_left e] at hi; exact .inl hi
  ·rw [List.getElem?_append_right (Nat.le_of_not_lt e)] at hi
   have:i-H.length=0:=by
    cases z:i-H.length with
    |zero=>rfl
    |succ n=>rw [z] at hi; simp at hi
   rw [this] at hi; simp at hi;exact .inr ⟨by omega,hi.symm⟩
 have mul:(μ++[(a,d)])[H.length]? =some (a,d):=by rw [← S.len]; simp
 refine ⟨g,(d,o)::mu,tb,T,F.keeps k,fun p hp=> ?_,?_⟩
 ·rcases mP hp with hp|hp
  ·exact N.grown k p (mL _ hp)
  ·rcases mP hp with hp|hp
   ·rcases mN hp with rfl|hp
    ·refine ⟨hd,fun e=> ?_,?_⟩
     ·refine wQ (F.ns) fun o' _ _ ho _=> ?_
      simp only at e;rw [e,ho] at hn; cases hn
     ·cases q:g.get? d with
      |none=>rfl
      |some o=>rw [F.keep _ _ q] at hn; cases hn
    ·exact N.grown k p (mR _ (mL _ hp))
   ·exact N.grown k p (mR _ (mR _ hp))
 ·constructor
  ·simp [S.len]
  ·intro i q hi lq
   rcases at_ i q hi with hi|⟨rfl,rfl⟩
   ·refine zY (S.live i q hi lq) fun a2 d2 o2 k1 k2 k3=> ?_
    exact ⟨a2,d2,o2,hx.2 _ _ k1,mC _ k2,k3.mono hx⟩
   ·exact ⟨a,d,o,mul,mQ,hp⟩
  ·intro p hp
   rcases mN hp with rfl|hp
   ·exact ⟨H.length,po,a,by simp,hl,mul⟩
   ·refine zY (S.own p hp) fun i q a2 k1 k2 k3=> ?_
    exact ⟨i,q,a2,by rw [List.getElem?_append_left (List.getElem?_eq_some_iff.mp k1).1]; exact k1,k2,hx.2 _ _ k3⟩
  ·have old:∀ (i:Nat) q a1,H[i]? =some q→live q→(μ++[(a,d)])[i]? =some (a1,d)→False:=fun i q a1 hi lq e=>by
    refine zY (S.live i q hi lq) fun a2 d2 o2 k1 k2 _=> ?_;rw [hx.2 _ _ k1] at e; cases e;exact nd _ (mR _ (mL _ k2)) rfl
   intro i j p q a1 d1 a2 hi li hj lj e1 e2
   rcases at_ i p hi with hi' | ⟨ei,ep⟩
   ·rcases at_ j q hj with hj' | ⟨ej,eq⟩
    ·rw [List.getElem?_append_left (by rw [S.len]; exact (List.getElem?_eq_some_iff.mp hi').1)] at e1
     rw [List.getElem?_append_left (by rw [S.len]; exact (List.getElem?_eq_some_iff.mp hj').1)] at e2;exact S.inj i j p q a1 d1 a2 hi' li hj' lj e1 e2
    ·rw [ej,mul] at e2; cases e2
     exact (old i p a1 hi' li e1).elim
   ·rcases at_ j q hj with hj' | ⟨ej,eq⟩
    ·rw [ei,mul] at e1; cases e1
     exact (old j q a2 hj' lj e2).elim
    ·rw [ei,ej]
  ·intro p hp q hq
   rcases mN hp with rfl|hp
   ·rcases mP hq with hq|hq
    ·exact nd q (mL _ hq)
    ·exact nd q (mR _ (mR _ hq))
   ·exact S.sepM p hp q hq
  ·exact S.sepF
  ·exact S.sepT
  ·intro p hp q hq e
   rcases mN hp with rfl|hp
   ·rcases mN hq with rfl|hq
    ·rfl
    ·exact absurd e (nd q (mR _ (mL _ hq)))
   ·rcases mN hq with rfl|hq
    ·exact absurd e.symm (nd p (mR _ (mL _ hp)))
    ·exact S.fun_ p hp q hq e
  ·exact S.tab
  ·exact S.tfun
theorem Base.freeze (x:Base G φ m R fz μ H h) (hi:H[i]? =some po) (hl:live po):∃ a d o,μ[i]? =some (a,d)∧PoR G fz μ po a d o∧Base G φ m R ((d,o)::fz) μ (zF H i .dead) h:=by
 obtain ⟨g,mu,tb,T,F,N,S⟩:=x;refine zY (S.live i po hi hl) fun a d o h1 h2 h3=> ?_;refine ⟨a,d,o,h1,h3,g,mu.filter (fun p=>p.1≠d),tb,T,F,fun p hp=> ?_,?_⟩
 ·rcases mP hp with hp|hp
  ·rcases mN hp with rfl|hp
   ·exact N _ (mR _ (mL _ h2))
   ·exact N p (mL _ hp)
  ·rcases mP hp with hp|hp
   ·exact N p (mR _ (mL _ (List.mem_filter.mp hp).1))
   ·exact N p (mR _ (mR _ hp))
 ·have sub:∀ p∈fz,p∈(d,o)::fz:=fun p hp=>mC _ hp
  have lv:∀ (j:Nat) q,(zF H i .dead)[j]? =some q→live q→i≠j∧H[j]? =some q:=fun j q hj lq=>by
   by_cases e:i=j
   ·subst e
    rw [zaH hi] at hj; cases hj; cases lq
   ·rw [zdH e] at hj
    exact ⟨e,hj⟩
  constructor
  ·rw [ztA]; exact S.len
  ·intro j q hj lq
   obtain ⟨e,hj⟩:=lv j q hj lq;refine zY (S.live j q hj lq) fun a2 d2 o2 k1 k2 k3=> ?_;have hd2:d2≠d:=fun z=>e (S.inj i j po q a d a2 hi hl hj lq h1 (z▸k1));exact ⟨a2,d2,o2,k1,List.mem_filter.mpr ⟨k2,by simpa using hd2⟩,k3.mono ⟨sub,fun _ _ h=>h⟩⟩
  ·intro p hp
   obtain ⟨hp,e⟩:=List.mem_filter.mp hp;refine zY (S.own p hp) fun j q a2 k1 k2 k3=> ?_;refine ⟨j,q,a2,?_,k2,k3⟩;rw [zdH]
   ·exact k1
   ·intro z
    subst z;rw [h1] at k3; cases k3
    simp at e
  ·intro j k p q a1 d1 a2 hj lj hk lk
   exact S.inj j k p q a1 d1 a2 (lv j p hj lj).2 lj (lv k q hk lk).2 lk
  ·intro p hp q hq
   obtain ⟨hp,e⟩:=List.mem_filter.mp hp
   rcases mP hq with hq|hq
   ·rcases mN hq with rfl|hq
    ·exact fun z=>by simp [← z] at e
    ·exact S.sepM p hp q (mL _ hq)
   ·exact S.sepM p hp q (mR _ hq)
  ·intro p hp q hq
   rcases mN hp with rfl|hp
   ·exact S.sepM _ h2 q (mR _ hq)
   ·exact S.sepF p hp q hq
  ·exact S.sepT
  ·exact fun p hp q hq=>S.fun_ p (List.mem_filter.mp hp).1 q (List.mem_filter.mp hq).1
  ·exact fun q hq=>by refine oEAA (S.tab q hq) fun ps h1 h2 h3=> ?_; exact ⟨ps,h1,h2,fun pos cv hc=>by refine zcD (h3 pos cv hc) fun c' oc vs t k1 k2 k3=> ?_; exact ⟨c',oc,vs,t,k1,sub _ k2,k3⟩⟩
  ·exact S.tfun
theorem Base.locals (x:Base G φ m R fz μ H h) (hn:h'.Ns φ.L m') (hs:Heap.SameBut φ.L h h'):Base G φ m' R fz μ H h' :=
 by obtain ⟨g,mu,tb,T,F,N,S⟩:=x; exact ⟨g,mu,tb,T,F.set hn hs,N.set hs,S⟩
theorem Base.hide (x:Base G φ m R fz μ H h):∃ mu,Base G φ m (mu++R) fz [] [] h∧∀ fz' μ' H' h',(∀ p∈fz,p∈fz')→Base G φ m (mu++R) fz' μ' H' h'→Base G φ m R fz' μ H h':=by
 obtain ⟨g,mu,tb,T,F,N,S⟩:=x;refine ⟨mu,⟨g,[],tb,T,F,fun p hp=>N p ?_,?_⟩,fun fz' μ' H' h' hf y=> ?_⟩
 ·simp only [List.mem_append,List.nil_append] at hp ⊢
  rcases hp with a|b|c|d
  ·exact .inl a
  ·exact .inr (.inr (.inl b))
  ·exact .inr (.inl c)
  ·exact .inr (.inr (.inr d))
 ·constructor
  ·rfl
  ·exact fun i po h _=>by simp at h
  ·exact fun p hp=>by simp at hp
  ·exact fun i j po po' a d a' h=>by simp at h
  ·exact fun p hp=>by simp at hp
  ·intro p hp q hq
   simp only [List.mem_append] at hq
   rcases hq with hq|hq|hq
   ·exact S.sepF p hp q (mL _ hq)
   ·exact fun e=>S.sepM q hq p (mL _ hp) e.symm
   ·exact S.sepF p hp q (mR _ hq)
  ·intro p hp q hq
   rcases mP hq with hq|hq
   ·exact fun e=>S.sepM q hq p (mR _ (mL _ hp)) e.symm
   ·exact S.sepT p hp q hq
  ·exact fun p hp=>by simp at hp
  ·exact S.tab
  ·exact S.tfun
 ·obtain ⟨g',mu',tb',T',F',N',S'⟩:=y
  refine ⟨g',mu,tb',T',F',fun p hp=>N' p ?_,?_⟩
  ·simp only [List.mem_append] at hp ⊢
   rcases hp with a|b|c|d
   ·exact .inl a
   ·exact .inr (.inr (.inr (.inl b)))
   ·exact .inr (.inr (.inl c))
   ·exact .inr (.inr (.inr (.inr d)))
  ·exact ⟨S.len,fun i po hi hl=>by refine zY (S.live i po hi hl) fun a d o h1 h2 h3=> ?_; exact ⟨a,d,o,h1,h2,h3.mono ⟨hf,fun _ _ h=>h⟩⟩,S.own,S.inj,fun p hp q hq=>by
    simp only [List.mem_append] at hq
    rcases hq with hq|hq|hq
    ·exact fun e=>S'.sepF q hq p (mR _ (mL _ hp)) e.symm
    ·exact fun e=>S'.sepT q hq p (mL _ hp) e.symm
    ·exact S.sepM p hp q (mR _ (mR _ hq)),fun p hp q hq=>by
    rcases mP hq with hq|hq
    ·exact S'.sepF p hp q (mL _ hq)
    ·exact S'.sepF p hp q (mR _ (mR _ hq)),fun p hp q hq=>S'.sepT p hp q (mR _ hq),S.fun_,S'.tab,S'.tfun⟩
theorem Base.hidSet (x:Base G φ m R fz μ H h) (hc:(c,o)∈R) (hs:Heap.SameBut c h h') (ho:h'.get? c=some o'):Base G φ m (R.map fun p=>if p.1=c then (c,o') else p) fz μ H h':=by
 obtain ⟨g,mu,tb,T,F,N,S⟩:=x;have hd:=N _ (mR _ (mR _ (mR _ hc)));have keep:∀ b o,b≠c→h.get? b=some o→h'.get? b=some o:=fun b o hb e=>(hs.2 b hb).trans e;have mem':∀ p∈R.map (fun p=>if p.1=c then (c,o') else p),∃ q∈R,q.1=p.1∧(p=q∧q.1≠c∨q.1=c∧p=(c,o')):=fun p hp=>by
  refine oEA (List.mem_map.mp hp) fun q hq o1_=> ?_; obtain rfl:=o1_
  by_cases e:q.1=c
  ·exact ⟨q,hq,by rw [if_pos e,e],.inr ⟨e,if_pos e⟩⟩
  ·exact ⟨q,hq,by rw [if_neg e],.inl ⟨if_neg e,e⟩⟩
 refine ⟨g,mu,tb,T,F.change hs hd.2.1 hd.2.2,fun p hp=> ?_,?_⟩
 ·simp only [List.mem_append] at hp
  rcases hp with hp|hp|hp|hp
  ·have hN:=N p (mL _ hp)
   exact ⟨keep _ _ (fun e=>S.sepF p hp (c,o) (mR _ hc) e.symm) hN.1,hN.2⟩
  ·have hN:=N p (mR _ (mL _ hp))
   exact ⟨keep _ _ (fun e=>S.sepM p hp (c,o) (mR _ (mR _ hc)) e.symm) hN.1,hN.2⟩
  ·have hN:=N p (mR _ (mR _ (mL _ hp)))
   exact ⟨keep _ _ (fun e=>S.sepT p hp (c,o) hc e.symm) hN.1,hN.2⟩
  ·refine oEAA (mem' p hp) fun q hq e z=> ?_
   have hN:=N q (mR _ (mR _ (mR _ hq)))
   rcases z with ⟨rfl,z⟩|⟨z,rfl⟩
   ·exact ⟨keep _ _ z hN.1,hN.2⟩
   ·exact ⟨ho,hd.2⟩
 ·exact ⟨S.len,S.live,S.own,S.inj,fun p hp q hq=>by
   simp only [List.mem_append] at hq
   rcases hq with hq|hq|hq
   ·exact S.sepM p hp q (mL _ hq)
   ·exact S.sepM p hp q (mR _ (mL _ hq))
   ·refine oEAA (mem' q hq) fun r hr e _=> ?_
    exact e▸S.sepM p hp r (mR _ (mR _ hr)),fun p hp q hq=>by
   rcases mP hq with hq|hq
   ·exact S.sepF p hp q (mL _ hq)
   ·refine oEAA (mem' q hq) fun r hr e _=> ?_
    exact e▸S.sepF p hp r (mR _ hr),fun p hp q hq=>by
   refine oEAA (mem' q hq) fun r hr e _=> ?_;exact e▸S.sepT p hp r hr,S.fun_,S.tab,S.tfun⟩
theorem Base.sub (x:Base G φ m R fz μ H h) (hs:∀ p∈R',p∈R):Base G φ m R' fz μ H h:=by
 obtain ⟨g,mu,tb,T,F,N,S⟩:=x;refine ⟨g,mu,tb,T,F,fun p hp=>N p ?_,S.len,S.live,S.own,S.inj,fun p hp q hq=>S.sepM p hp q ?_,fun p hp q hq=>S.sepF p hp q ?_,fun p hp q hq=>S.sepT p hp q (hs q hq),S.fun_,S.tab,S.tfun⟩
 ·simp only [List.mem_append] at hp ⊢
  exact hp.imp id fun h=>h.imp id fun h=>h.imp id (hs _)
 ·simp only [List.mem_append] at hq ⊢
  exact hq.imp id fun h=>h.imp id (hs _)
 ·simp only [List.mem_append] at hq ⊢
  exact hq.imp id (hs _)
theorem Base.hideNew (x:Base G φ m R fz μ H h) (k:∀ b o,h.get? b=some o→h'.get? b=some o) (hn:∀ p∈new,h'.get? p.1=some p.2∧h.get? p.1=none):Base G φ m (new++R) fz μ H h':=by
 obtain ⟨g,mu,tb,T,F,N,S⟩:=x;have nw:∀ p∈new,∀ q∈fz++(mu++(tb++R)),q.1≠p.1:=fun p hp q hq e=>by
  have h1:=(hn p hp).2;rw [← e,(N q hq).1] at h1;cases h1
 refine ⟨g,mu,tb,T,F.keeps k,fun p hp=> ?_,S.len,S.live,S.own,S.inj,fun p hp q hq=> ?_,fun p hp q hq=> ?_,fun p hp q hq=> ?_,S.fun_,S.tab,S.tfun⟩
 ·simp only [List.mem_append] at hp
  rcases hp with hp|hp|hp|hp|hp
  ·exact N.grown k p (mL _ hp)
  ·exact N.grown k p (mR _ (mL _ hp))
  ·exact N.grown k p (mR _ (mR _ (mL _ hp)))
  ·obtain ⟨h1,h2⟩:=hn p hp
   refine ⟨h1,fun e=> ?_,?_⟩
   ·refine wQ (F.ns) fun o _ _ ho _=> ?_
    rw [e,ho] at h2; cases h2
   ·cases q:g.get? p.1 with
    |none=>rfl
    |some o=>rw [F.keep _ _ q] at h2; cases h2
  ·exact N.grown k p (mR _ (mR _ (mR _ hp)))
 ·simp only [List.mem_append] at hq
  rcases hq with hq|hq|hq|hq
  ·exact S.sepM p hp q (mL _ hq)
  ·exact S.sepM p hp q (mR _ (mL _ hq))
  ·exact fun e=>nw q hq p (mR _ (mL _ hp)) e.symm
  ·exact S.sepM p hp q (mR _ (mR _ hq))
 ·simp only [List.mem_append] at hq
  rcases hq with hq|hq|hq
  ·exact S.sepF p hp q (mL _ hq)
  ·exact fun e=>nw q hq p (mL _ hp) e.symm
  ·exact S.sepF p hp q (mR _ hq)
 ·rcases mP hq with hq|hq
  ·exact fun e=>nw q hq p (mR _ (mR _ (mL _ hp))) e.symm
  ·exact S.sepT p hp q hq
end
noncomputable def xE (k:Nat):Nat:=8*k+60
noncomputable def zbE (k:Nat):Nat:=20*k+2400
structure Good (G:Gl) (φ:Fx) (k:Nat):Prop where
 B:Below φ.A₀ G.base φ.outer φ.h₀
 D:KtsDicts φ.fs φ.h₀
 hA:φ.A=φ.A₀.deeper φ.fenv
 hf:φ.fenv.frame=some φ.L
 hf':φ.env.frame=some φ.L
 hke:φ.fenv.scope.kind= .function
 hk:φ.env.scope.kind= .function
 hgl:φ.env.globals=mainGlobals
 hbu:φ.env.builtins=builtinsNs
 hh:φ.A.handled=none
 hgu:φ.A.guards=some []
 hde:φ.A.depth+xE k≤recursionLimit
 hun:φ.A.units+zbE k≤cLine
 hen:φ.comp=none→φ.env=φ.fenv
 hloc:φ.comp=none→φ.env.locals=φ.L
 hcl:∀ C,φ.comp=some C→φ.env.locals=C
 nd:φ.xs.Nodup
 cinj:∀ x y c,φ.env.cells.lookup x=some c→φ.env.cells.lookup y=some c→x=y
structure GOk (G:Gl):Prop where
 X:G.K.In G.base
 T:Top G.p G.loose G.mean G.mg G.mb G.base
 C:∀ q∈G.tabs,CodeHd G.base q.1 q.2.1
 TP:∀ q∈G.tabs,∀ q'∈G.tabs,q.2.1=q'.2.1→q.2.2=q'.2.2
theorem zaC (D:Good G φ k) (T:KtsTurn φ.fs φ.h₀ g):Below φ.A₀ G.base φ.outer g∧KtsDicts φ.fs g:=by
 refine ⟨⟨D.B.stack,fun b o e=> ?_,?_⟩,D.D.turn T⟩
 ·refine T.other b o (D.B.stays b o e) fun hm=> ?_
  have:=(D.B.frames.mem hm).1;rw [this] at e; cases e
 ·refine D.B.frames.of_keeps fun b o e _=> ?_
  obtain ⟨sl,hs⟩:=T.up e;exact ⟨_,hs,rfl⟩
noncomputable def same (s₀ s:Shared):Prop:=({s with heap:=s₀.heap,toks:=s₀.toks}:Shared)=s₀
theorem same.self:same s s:=rfl
noncomputable def ysA (G:Gl) (φ:Fx) (vm:Str→Option Value) (ce fz:zB) (μ:Mu) (x:Str) (sl:Option (Option PV)):Prop :=
 (φ.env.kindOf x=some .local→∀ v,sl=some (some v)→∃ val,vm x=some val∧VR G fz μ v val) ∧
 (φ.env.kindOf x=some .cell∨φ.env.kindOf x=some .free→∃ c o ov,φ.env.cells.lookup x=some c∧((c,o)∈ce∨((φ.env.kindOf x=some .free∨φ.comp≠none)∧(c,o)∈φ.rc))∧o.data= .cell ov∧∀ v,sl=some (some v)→∃ val,ov=some val∧VR G fz μ v val)
structure zgC (G:Gl) (φ:Fx) (R:zB) (m vm:Str→Option Value) (ce fz:zB) (μ:Mu) (loc:Loc):Prop where
 sepR:∀ p∈ce,∀ q∈R,q.1≠p.1
 rcR:∀ p∈φ.rc,p∈R
 cs:(φ.comp=none→vm=m)∧∀ C,φ.comp=some C→φ.pin=some m∧∃ oC,(C,oC)∈ce∧LCg.NsObj oC vm
 at_:∀ (i:Nat) x,φ.xs[i]? =some x→ysA G φ vm ce fz μ x loc[i]?
theorem zgC.ext (x:zgC G φ R m vm ce fz μ loc) (e:Ext fz μ fz' μ'):zgC G φ R m vm ce fz' μ' loc :=
 ⟨x.sepR,x.rcR,x.cs,fun i y hy=>let ⟨h1,h2⟩:=x.at_ i y hy
  ⟨fun k v hv=>by refine oEA (h1 k v hv) fun val a b=> ?_; exact ⟨val,a,b.mono e⟩,fun k=>by refine z0 (h2 k) fun c o ov k1 k2 k3 k4=> ?_; exact ⟨c,o,ov,k1,k2,k3,fun v hv=>by refine oEA (k4 v hv) fun val a b=> ?_; exact ⟨val,a,b.mono e⟩⟩⟩⟩
inductive Sat (G:Gl) (φ:Fx) (R fz:zB) (μ:Mu) (loc:Loc) (H:Hp) (s:Shared):Prop
 |mk (sm:same φ.s₀ s) (m vm:Str→Option Value) (ce:zB) (B:Base G φ m (ce++R) fz μ H s.heap) (L:zgC G φ R m vm ce fz μ loc)
theorem Sat.sm (S:Sat G φ R fz μ loc H s):same φ.s₀ s:=by cases S; assumption
inductive XO (G:Gl) (φ:Fx) (R fz:zB) (μ:Mu) (C:Nat) (H:Hp) (e:Value) (s:Shared):Prop
 |mk (a:Addr) (mu tb:zB) (e:e= .ref a) (sm:same φ.s₀ s) (N:RaisedSN G.base φ.h₀ φ.outer a (.ref (G.ca C)) (fz++(mu++(tb++R))) s.heap) (U:φ.h₀.UpToSlots s.heap) (S:yH G R fz μ H mu tb)
inductive XQ {α:Type} (G:Gl) (φ:Fx) (R fz:zB) (μ:Mu) (r:Rs α) (e:Value) (s:Shared):Prop
 |mk (C:Nat) (H:Hp) (fz':zB) (μ':Mu) (er:r= .exc C H) (x:Ext fz μ fz' μ') (o:XO G φ R fz' μ' C H e s)
noncomputable def EX {α:Type} (G:Gl) (φ:Fx) (R fz:zB) (μ:Mu) (r:Rs α) (e:Value) (s:Shared):Prop :=
 φ.comp=none∧wpAny (model G.prog G.w) φ.A (leaving φ.fenv e) (fun _ s''=>XQ G φ R fz μ r e s'') (fun _ _=>False) s
noncomputable def Fine (φ:Fx) {α:Type} (r:Rs α):Prop:=match r with
 | .ok _ _=>True
 | .exc _ _=>φ.comp=none
 | .bad=>False
theorem Fine.fst {α β:Type} {r:Rs α} {f:α→Hp→Rs β} (h:Fine φ (r.bind f)):Fine φ r:=by
 cases r with
 |ok a H=>trivial
 |exc C H=>exact h
 |bad=>exact h
structure MW (α β:Type) where
 r:zB→Mu→α→β→Prop
 mono:∀ {fz μ fz' μ'} {a:α} {b:β},Ext fz μ fz' μ'→r fz μ a b→r fz' μ' a b
structure MP where
 p:zB→Mu→Prop
 mono:∀ {fz μ fz' μ'},Ext fz μ fz' μ'→p fz μ→p fz' μ'
noncomputable def MP.top:MP:=⟨fun _ _=>True,fun _ _=>trivial⟩
noncomputable def MP.and {α β:Type} (Γ:MP) (W:MW α β) (a:α) (b:β):MP:=⟨fun fz μ=>Γ.p fz μ∧W.r fz μ a b,fun e h=>⟨Γ.mono e h.1,W.mono e h.2⟩⟩
noncomputable def wV (G:Gl):MW PV Value:=⟨VR G,fun e h=>h.mono e⟩
noncomputable def wVs (G:Gl):MW (List PV) (List Value):=⟨VRs G,fun e h=>VRs.mono e h⟩
noncomputable def wB:MW Bool Bool:=⟨fun _ _ a b=>a=b,fun _ h=>h⟩
noncomputable def wU:MW Unit Unit:=⟨fun _ _ _ _=>True,fun _ _=>trivial⟩
inductive QE {α β:Type} (W:MW α β) (G:Gl) (φ:Fx) (R fz:zB) (μ:Mu) (loc:Loc) (r:Rs α) (v:β) (s:Shared):Prop
 |mk (pv:α) (H':Hp) (fz':zB) (μ':Mu) (e:r= .ok pv H') (x:Ext fz μ fz' μ') (S:Sat G φ R fz' μ' loc H' s) (w:W.r fz' μ' pv v)
inductive LQ {α β:Type} (W:MW α β) (G:Gl) (φ:Fx) (R fz:zB) (μ:Mu) (loc:Loc) (H:Hp) (a:α) (v:β) (s:Shared):Prop
 |mk (fz':zB) (μ':Mu) (x:Ext fz μ fz' μ') (S:Sat G φ R fz' μ' loc H s) (w:W.r fz' μ' a v)
noncomputable def SJ {α β:Type} (G:Gl) (φ:Fx) (Γ:MP) (W:MW α β) (f:Loc→Hp→Rs α) (t:Sem β):Prop :=
 ∀ R fz μ loc H s,Sat G φ R fz μ loc H s→Γ.p fz μ→Fine φ (f loc H)→wpAny (model G.prog G.w) φ.A t (QE W G φ R fz μ loc (f loc H)) (EX G φ R fz μ (f loc H)) s
section
variable {G:Gl} {φ:Fx} {k:Nat} {R fz fz₁:zB} {μ μ₁:Mu} {loc:Loc} {H:Hp} {s:Shared} {Γ:MP} {α β γ δ:Type}
theorem EX.up {r₁:Rs α} {r:Rs β} (e:Ext fz μ fz₁ μ₁) (hr:∀ C H,r₁= .exc C H→r= .exc C H) (h:EX G φ R fz₁ μ₁ r₁ x s):EX G φ R fz μ r x s :=
 ⟨h.1,wpAny_mono h.2 (fun _ s' ⟨C,H,fz',μ',h1,h2,h3⟩=>⟨C,H,fz',μ',hr C H h1,e.trans h2,h3⟩) fun _ _ z=>z⟩
theorem SJ.bind {W₁:MW α β} {W₂:MW γ δ} {f:Loc→Hp→Rs α} {g:α→Loc→Hp→Rs γ} {t:Sem β} {k:β→Sem δ}
  (h₁:SJ G φ Γ W₁ f t) (h₂:∀ a b,SJ G φ (Γ.and W₁ a b) W₂ (g a) (k b)):SJ G φ Γ W₂ (fun loc H=>(f loc H).bind fun a H=>g a loc H) (t >>= k):=by
 intro R fz μ loc H s S hΓ hF;show wpAny _ _ _ (QE W₂ G φ R fz μ loc ((f loc H).bind fun a H=>g a loc H)) (EX G φ R fz μ ((f loc H).bind fun a H=>g a loc H)) s
 replace hF:Fine φ ((f loc H).bind fun a H=>g a loc H):=hF
 refine wpAny_bind (wpAny_mono (h₁ R fz μ loc H s S hΓ hF.fst) (fun b s' h_=> ?_) fun e s' h'=>h'.up .refl fun C H q=>by rw [q]; rfl);obtain ⟨pv,H',fz',μ',e,x,S',w⟩:=h_;have hr:(f loc H).bind (fun a H=>g a loc H)=g pv loc H':=by rw [e]; rfl
 rw [hr] at hF ⊢;exact wpAny_mono (h₂ pv b R fz' μ' loc H' s' S' ⟨Γ.mono x hΓ,w⟩ hF) (fun v s'' ⟨pv',H'',fz'',μ'',e',x',S'',w'⟩=>⟨pv',H'',fz'',μ'',e',x.trans x',S'',w'⟩) fun e s' h'=>h'.up x fun _ _ q=>q
theorem SJ.standAt {W:MW α β} {f:Loc→Hp→Rs α} {t:Sem β} (h:SJ G φ Γ W f t):SJ G φ Γ W f (PySem.standAt pos >>= fun _=>t) :=
 fun R fz μ loc H s S hΓ hF=>wpAny_bind (wpAny_standAt (h R fz μ loc H s S hΓ hF))
theorem SJ.holding {W:MW α β} {f:Loc→Hp→Rs α} {t:Sem β} (h:SJ G φ Γ W f t):SJ G φ Γ W f (PySem.holding vs t) :=
 fun R fz μ loc H s S hΓ hF=>wpAny_holding (h R fz μ loc H s S hΓ hF)
theorem SJ.congr {W:MW α β} {f f':Loc→Hp→Rs α} {t:Sem β} (h:SJ G φ Γ W f t) (e:∀ loc H,f' loc H=f loc H):SJ G φ Γ W f' t:=by
 obtain rfl:f'=f:=funext fun loc=>funext fun H=>e loc H;exact h
theorem SJ.weak {W:MW α β} {f:Loc→Hp→Rs α} {t:Sem β} (h:SJ G φ Γ W f t) (e:∀ fz μ,Γ'.p fz μ→Γ.p fz μ):SJ G φ Γ' W f t :=
 fun R fz μ loc H s S hΓ hF=>h R fz μ loc H s S (e _ _ hΓ) hF
theorem SJ.tm {W:MW α β} {f:Loc→Hp→Rs α} {t t':Sem β} (h:SJ G φ Γ W f t) (e:t'=t):SJ G φ Γ W f t':=e▸h
theorem z9 {o:Option α} (h:Fine φ (zC o H)):∃ a,o=some a:=by
 cases o with
 |none=>exact h.elim
 |some a=>exact ⟨a,rfl⟩
theorem SJ.leaf {W:MW α β} {op:Loc→Hp→Option α} {t:Sem β} (h:∀ R fz μ loc H s a,Sat G φ R fz μ loc H s→Γ.p fz μ→op loc H=some a →
  wpAny (model G.prog G.w) φ.A t (LQ W G φ R fz μ loc H a) (fun _ _=>False) s):SJ G φ Γ W (fun loc H=>zC (op loc H) H) t:=by
 intro R fz μ loc H s S hΓ hF;obtain ⟨a,e⟩:=z9 hF;refine wpAny_mono (h R fz μ loc H s a S hΓ e) (fun v s' ⟨fz',μ',x,S',w⟩=>⟨a,H,fz',μ',?_,x,S',w⟩) fun _ _ z=>z.elim;show zC (op loc H) H=_;rw [e]; rfl
theorem SJ.pure {W:MW α β} {a:α} {b:β} (h:∀ fz μ,Γ.p fz μ→W.r fz μ a b):SJ G φ Γ W (fun _ H=>.ok a H) (pure b) :=
 fun R fz μ loc H s S hΓ hF=>wpAny_pure ⟨a,H,fz,μ,rfl,.refl,S,h _ _ hΓ⟩
theorem SJ.skip {W:MW α β} {f:Loc→Hp→Rs α} {t:Sem γ} {k:γ→Sem β} {a:γ} (h₁:∀ R fz μ loc H s,Sat G φ R fz μ loc H s→Γ.p fz μ→∀ Q,Q a s→wpAny (model G.prog G.w) φ.A t Q (fun _ _=>False) s)
  (h₂:SJ G φ Γ W f (k a)):SJ G φ Γ W f (t >>= k) :=
 fun R fz μ loc H s S hΓ hF=>wpAny_bind (wpAny_mono (h₁ R fz μ loc H s S hΓ _ (h₂ R fz μ loc H s S hΓ hF)) (fun _ _ z=>z) fun _ _ z=>z.elim)
theorem Sat.keeps (S:Sat G φ R fz μ loc H s) (k:∀ b o,s.heap.get? b=some o→h'.get? b=some o):Sat G φ R fz μ loc H {s with heap:=h',toks:=tk} :=
 by obtain ⟨a,m,vm,ce,B,L⟩:=S; exact ⟨a,m,vm,ce,B.grow k,L⟩
theorem Sat.tok (S:Sat G φ R fz μ loc H s):Sat G φ R fz μ loc H {s with toks:=tk}:=S.keeps (h':=s.heap) fun _ _ e=>e
theorem Sat.more (S:Sat G φ R fz μ loc H s) (k:∀ b o,s.heap.get? b=some o→h'.get? b=some o) (hn:∀ p∈new,h'.get? p.1=some p.2∧s.heap.get? p.1=none) :
  Sat G φ R (new++fz) μ loc H {s with heap:=h',toks:=tk} :=
 by obtain ⟨a,m,vm,ce,B,L⟩:=S; exact ⟨a,m,vm,ce,B.more k hn,L.ext ⟨fun p hp=>mR _ hp,fun _ _ h=>h⟩⟩
theorem Sat.look (D:Good G φ k) (O:GOk G) (S:Sat G φ R fz μ loc H s):∃ g m,Fr g φ.L s.heap m∧Below φ.A₀ G.base φ.outer g∧G.K.In g∧Top G.p G.loose G.mean G.mg G.mb g:=by
 obtain ⟨_,m,vm,ce,⟨g,mu,tb,T,F,N,Sh⟩,L⟩:=S;have B:=(zaC D T).1;exact ⟨g,m,F,B,O.X.keeps B.stays,O.T.keeps B.stays⟩
theorem Sat.base (D:Good G φ k) (S:Sat G φ R fz μ loc H s):∀ b o,G.base.get? b=some o→s.heap.get? b=some o:=by
 obtain ⟨_,m,vm,ce,⟨g,mu,tb,T,F,N,Sh⟩,L⟩:=S;exact fun b o e=>F.keep _ _ ((zaC D T).1.stays _ _ e)
theorem Sat.X (D:Good G φ k) (O:GOk G) (S:Sat G φ R fz μ loc H s):G.K.In s.heap:=O.X.keeps (S.base D)
theorem Sat.T (D:Good G φ k) (O:GOk G) (S:Sat G φ R fz μ loc H s):Top G.p G.loose G.mean G.mg G.mb s.heap:=O.T.keeps (S.base D)
theorem Sat.P (D:Good G φ k) (S:Sat G φ R fz μ loc H s) (h:G.P fz a o):s.heap.get? a=some o:=by
 rcases h with h|h
 ·exact S.base D _ _ h
 ·obtain ⟨_,m,vm,ce,⟨g,mu,tb,T,F,N,Sh⟩,L⟩:=S
  exact (N _ (mL _ h)).1
theorem Sat.none_ (S:Sat G φ R fz μ loc H s):s.heap.get? s.heap.objs.size=none:=Heap.get?_none_of_le (Nat.le_refl _)
theorem Sat.push1 (S:Sat G φ R fz μ loc H s) (hf:o.isFreed=false:=by rfl):Sat G φ R ((s.heap.objs.size,o)::fz) μ loc H {s with heap:=s.heap.push o} :=
 S.more (new:=[(s.heap.objs.size,o)]) (tk:=s.toks) (fun b o' e=>Heap.get?_push_of_some _ e) fun p hp=>by
  rw [List.mem_singleton] at hp; subst hp;exact ⟨Heap.get?_push_size _ hf,S.none_⟩
theorem Ext.cons:Ext fz μ (p::fz) μ:=⟨fun _ h=>mC _ h,fun _ _ h=>h⟩
end
section
variable {G:Gl} {φ:Fx} {k:Nat} {R fz fz₁:zB} {μ μ₁:Mu} {loc:Loc} {H:Hp} {s:Shared} {Γ:MP}
theorem LQ.here {α β:Type} {W:MW α β} {a:α} {v:β} (S:Sat G φ R fz μ loc H s) (h:W.r fz μ a v):LQ W G φ R fz μ loc H a v s:=⟨fz,μ,.refl,S,h⟩
theorem LQ.tok {α β:Type} {W:MW α β} {a:α} {v:β} (S:Sat G φ R fz μ loc H s) (h:W.r fz μ a v):LQ W G φ R fz μ loc H a v {s with toks:=tk}:=⟨fz,μ,.refl,S.tok,h⟩
theorem LQ.push {α β:Type} {W:MW α β} {a:α} {v:β} (S:Sat G φ R fz μ loc H s) (h:W.r ((s.heap.objs.size,o)::fz) μ a v) (hf:o.isFreed=false:=by rfl):LQ W G φ R fz μ loc H a v {s with heap:=s.heap.push o} :=
 ⟨_,μ,Ext.cons,S.push1 hf,h⟩
theorem vrI (i:Int) (t:Tok):(wV G).r fz μ (.int i) (.int i t):=VR.int i t
theorem vrB (b:Bool):(wV G).r fz μ (.bool b) (.bool b):=VR.bool b
noncomputable def VRC (G:Gl) (fz:zB) (μ:Mu) (p:PV) (v:Value):Prop:=∀ P:Value→Prop,match p with
 | .none=>P .none→P v
 | .bool b=>P (.bool b)→P v
 | .int i=>(∀ t,P (.int i t))→P v
 | .str l=>(∀ x t,x.cps.toList=l→x.cps.size≤SZ→P (.str x t))→P v
 | .bytes l=>(∀ b t,b.toList.map UInt8.toNat=l→b.size≤SZ→P (.bytes b t))→P v
 | .ref i=>(∀ a d,μ[i]? =some (a,d)→P (.ref a))→P v
 | .tup vs=>(∀ vals n a,G.P fz a (tupO vals n)→vals.length≤SZ→VRs G fz μ vs vals→P (.ref a))→P v
 | .lst vs=>(∀ vals n a,G.P fz a (lstO vals n)→vals.length≤SZ→VRs G fz μ vs vals→P (.ref a))→P v
 | .dicI ks vs=>(∀ (kvs:List (Int×Value)) (a:Addr) (o:Obj),G.P fz a o→(zP a∧kvs.length≤SZ)→zK (intKind G.prog G.w) kvs o→ks=kvs.map (·.1)→VRs G fz μ vs (kvs.map (·.2))→P (.ref a))→P v
 | .dicS ks vs=>(∀ (kvs:List (Str×Value)) (a:Addr) (o:Obj),G.P fz a o→(zP a∧kvs.length≤SZ∧xH kvs)→zK (PySem.strKind G.prog G.w) kvs o→ks=kvs.map (·.1.cps.toList)→VRs G fz μ vs (kvs.map (·.2))→P (.ref a))→P v
 | .obj C ks vs=>(∀ es n a d,G.P fz a (instObj (G.ca C) d)→G.P fz d (dictOf es n)→All2 (fun k e=>∃ t,e.key= .str (nm k) t) ks es→VRs G fz μ vs (es.map (·.val))→P (.ref a))→P v
 | .exc C=>(∀ a o fs,G.P fz a o→o.cls= .ref (G.ca C)→o.data= .fields fs→P (.ref a))→P v
 | .cls C=>P (.ref (G.ca C))→P v
 | .typ t=>P (.type (tyN t))→P v
 | .rng a b c=>(∀ r o t u w,G.P fz r o→(∀ h:Heap,h.get? r=some o→IsRange h r a b c t u w)→P (.ref r))→P v
theorem VR.inv (h:VR G fz μ p v):VRC G fz μ p v :=
 VR.casesOn (motive:=fun p v _=>VRC G fz μ p v) h (fun _ k=>k) (fun _ _ k=>k) (fun _ t _ k=>k t) (fun s t z _ k=>k s t rfl z) (fun s t z _ k=>k s t rfl z) (fun _ a d h _ k=>k a d h)
  (fun _ vals n a h z l ih _ k=>k vals n a h z (zdA l ih)) (fun _ vals n a h z l ih _ k=>k vals n a h z (zdA l ih)) (fun _ _ kvs a o h z d e l ih _ k=>k kvs a o h z d e (zdA l ih)) (fun _ _ kvs a o h z d e l ih _ k=>k kvs a o h z d e (zdA l ih))
  (fun _ _ _ es n a d h h' e l ih _ k=>k es n a d h h' e (zdA l ih)) (fun _ a o fs h c d _ k=>k a o fs h c d) (fun _ _ k=>k) (fun _ _ k=>k) (fun _ _ _ r o t u w h e _ k=>k r o t u w h e)
@[elab_as_elim] theorem VR.int_el {i:Int} {v:Value} {P:Value→Prop} (h:VR G fz μ (.int i) v) (k:∀ t,P (.int i t)):P v:=h.inv P k
@[elab_as_elim] theorem VR.bool_el {i:Bool} {v:Value} {P:Value→Prop} (h:VR G fz μ (.bool i) v) (k:P (.bool i)):P v:=h.inv P k
@[elab_as_elim] theorem VR.none_el {v:Value} {P:Value→Prop} (h:VR G fz μ .none v) (k:P .none):P v:=h.inv P k
@[elab_as_elim] theorem VR.str_el {l:List Nat} {v:Value} {P:Value→Prop} (h:VR G fz μ (.str l) v) (k:∀ x t,x.cps.toList=l→x.cps.size≤SZ→P (.str x t)):P v:=h.inv P k
@[elab_as_elim] theorem VR.bytes_el {l:List Nat} {v:Value} {P:Value→Prop} (h:VR G fz μ (.bytes l) v) (k:∀ b t,b.toList.map UInt8.toNat=l→b.size≤SZ→P (.bytes b t)):P v:=h.inv P k
@[elab_as_elim] theorem VR.tup_el {vs:List PV} {v:Value} {P:Value→Prop} (h:VR G fz μ (.tup vs) v) (k:∀ vals n a,G.P fz a (tupO vals n)→vals.length≤SZ→VRs G fz μ vs vals→P (.ref a)):P v:=h.inv P k
@[elab_as_elim] theorem VR.lst_el {vs:List PV} {v:Value} {P:Value→Prop} (h:VR G fz μ (.lst vs) v) (k:∀ vals n a,G.P fz a (lstO vals n)→vals.length≤SZ→VRs G fz μ vs vals→P (.ref a)):P v:=h.inv P k
@[elab_as_elim] theorem VR.ref_el {i:Nat} {v:Value} {P:Value→Prop} (h:VR G fz μ (.ref i) v) (k:∀ a d,μ[i]? =some (a,d)→P (.ref a)):P v:=h.inv P k
@[elab_as_elim] theorem VR.dicI_el {ks:List Int} {vs:List PV} {v:Value} {P:Value→Prop} (h:VR G fz μ (.dicI ks vs) v) (k:∀ (kvs:List (Int×Value)) (a:Addr) (o:Obj),G.P fz a o→(zP a∧kvs.length≤SZ)→zK (intKind G.prog G.w) kvs o→ks=kvs.map (·.1)→VRs G fz μ vs (kvs.map (·.2))→P (.ref a)):P v:=h.inv P k
@[elab_as_elim] theorem VR.dicS_el {ks:List (List Nat)} {vs:List PV} {v:Value} {P:Value→Prop} (h:VR G fz μ (.dicS ks vs) v) (k:∀ (kvs:List (Str×Value)) (a:Addr) (o:Obj),G.P fz a o→(zP a∧kvs.length≤SZ∧xH kvs)→zK (PySem.strKind G.prog G.w) kvs o→ks=kvs.map (·.1.cps.toList)→VRs G fz μ vs (kvs.map (·.2))→P (.ref a)):P v:=h.inv P k
theorem VR.int' {i:Int} {v:Value} (h:VR G fz μ (.int i) v):∃ t,v= .int i t:=h.int_el (P:=fun v=>∃ t,v= .int i t) fun t=>⟨t,rfl⟩
theorem VR.bool' {i:Bool} {v:Value} (h:VR G fz μ (.bool i) v):v= .bool i:=h.bool_el (P:=fun v=>v= .bool i) rfl
theorem VR.none' {v:Value} (h:VR G fz μ .none v):v= .none:=h.none_el (P:=fun v=>v= .none) rfl
theorem VR.str' {l:List Nat} {v:Value} (h:VR G fz μ (.str l) v):∃ x t,v= .str x t∧x.cps.toList=l∧x.cps.size≤SZ:=h.str_el (P:=fun v=>∃ x t,v= .str x t∧x.cps.toList=l∧x.cps.size≤SZ) fun x t a b=>⟨x,t,rfl,a,b⟩
theorem VR.bytes' {l:List Nat} {v:Value} (h:VR G fz μ (.bytes l) v):∃ b t,v= .bytes b t∧b.toList.map UInt8.toNat=l∧b.size≤SZ:=h.bytes_el (P:=fun v=>∃ b t,v= .bytes b t∧b.toList.map UInt8.toNat=l∧b.size≤SZ) fun x t a b=>⟨x,t,rfl,a,b⟩
theorem VR.tup' {vs:List PV} {v:Value} (h:VR G fz μ (.tup vs) v):∃ vals n a,v= .ref a∧G.P fz a (tupO vals n)∧vals.length≤SZ∧VRs G fz μ vs vals :=
 h.tup_el (P:=fun v=>∃ vals n a,v= .ref a∧G.P fz a (tupO vals n)∧vals.length≤SZ∧VRs G fz μ vs vals) fun x n a b c d=>⟨x,n,a,rfl,b,c,d⟩
theorem VR.lst' {vs:List PV} {v:Value} (h:VR G fz μ (.lst vs) v):∃ vals n a,v= .ref a∧G.P fz a (lstO vals n)∧vals.length≤SZ∧VRs G fz μ vs vals :=
 h.lst_el (P:=fun v=>∃ vals n a,v= .ref a∧G.P fz a (lstO vals n)∧vals.length≤SZ∧VRs G fz μ vs vals) fun x n a b c d=>⟨x,n,a,rfl,b,c,d⟩
theorem VR.dicI' {ks:List Int} {vs:List PV} {v:Value} (h:VR G fz μ (.dicI ks vs) v):∃ (kvs:List (Int×Value)) (a:Addr) (o:Obj),v= .ref a∧G.P fz a o∧(zP a∧kvs.length≤SZ)∧zK (intKind G.prog G.w) kvs o∧ks=kvs.map (·.1)∧VRs G fz μ vs (kvs.map (·.2)) :=
 h.dicI_el (P:=fun v=>∃ (kvs:List (Int×Value)) (a:Addr) (o:Obj),v= .ref a∧G.P fz a o∧(zP a∧kvs.length≤SZ)∧zK (intKind G.prog G.w) kvs o∧ks=kvs.map (·.1)∧VRs G fz μ vs (kvs.map (·.2))) fun x a o b c d e f=>⟨x,a,o,rfl,b,c,d,e,f⟩
theorem VR.dicS' {ks:List (List Nat)} {vs:List PV} {v:Value} (h:VR G fz μ (.dicS ks vs) v):∃ (kvs:List (Str×Value)) (a:Addr) (o:Obj),v= .ref a∧G.P fz a o∧(zP a∧kvs.length≤SZ∧xH kvs)∧zK (PySem.strKind G.prog G.w) kvs o∧ks=kvs.map (·.1.cps.toList)∧VRs G fz μ vs (kvs.map (·.2)) :=
 h.dicS_el (P:=fun v=>∃ (kvs:List (Str×Value)) (a:Addr) (o:Obj),v= .ref a∧G.P fz a o∧(zP a∧kvs.length≤SZ∧xH kvs)∧zK (PySem.strKind G.prog G.w) kvs o∧ks=kvs.map (·.1.cps.toList)∧VRs G fz μ vs (kvs.map (·.2))) fun x a o b c d e f=>⟨x,a,o,rfl,b,c,d,e,f⟩
theorem VR.ref' {i:Nat} {v:Value} (h:VR G fz μ (.ref i) v):∃ a d,v= .ref a∧μ[i]? =some (a,d):=h.ref_el (P:=fun v=>∃ a d,v= .ref a∧μ[i]? =some (a,d)) fun a d b=>⟨a,d,rfl,b⟩
theorem zwI (h:G.P fz a (tupO vals n)) (z:vals.length≤SZ) (q:VRs G fz μ vs vals):VR G fz μ (.tup vs) (.ref a) :=
 .tup vs vals n a h z (zE q) fun i v x hv hx=>xD q i v x hv hx
theorem zrJ (h:G.P fz a (lstO vals n)) (z:vals.length≤SZ) (q:VRs G fz μ vs vals):VR G fz μ (.lst vs) (.ref a) :=
 .lst vs vals n a h z (zE q) fun i v x hv hx=>xD q i v x hv hx
theorem ynE (h:G.P fz a o) (z:zP a∧kvs.length≤SZ) (d:zK (intKind G.prog G.w) kvs o) (q:VRs G fz μ vs (kvs.map (·.2))):VR G fz μ (.dicI (kvs.map (·.1)) vs) (.ref a) :=
 .dicI _ vs kvs a o h z d rfl (zE q) fun i v x hv hx=>xD q i v x hv hx
theorem ygC (h:G.P fz a o) (z:zP a∧kvs.length≤SZ∧xH kvs) (d:zK (PySem.strKind G.prog G.w) kvs o) (q:VRs G fz μ vs (kvs.map (·.2))):VR G fz μ (.dicS (kvs.map (·.1.cps.toList)) vs) (.ref a) :=
 .dicS _ vs kvs a o h z d rfl (zE q) fun i v x hv hx=>xD q i v x hv hx
theorem zwJ (h:x.cps.toList=l) (z:x.cps.size≤SZ):VR G fz μ (.str l) (.str x t):=h▸ .str x t z
theorem zcC (h:x.toList.map UInt8.toNat=l) (z:x.size≤SZ):VR G fz μ (.bytes l) (.bytes x t):=h▸ .bytes x t z
theorem y7:SZ≤sizeLine:=by decide +kernel
theorem yfE:SZ=65536:=rfl
theorem Sat.isTup (D:Good G φ k) (S:Sat G φ R fz μ loc H s) (h:G.P fz a (tupO vals n)):IsTup s.heap a vals.toArray:=⟨_,S.P D h,rfl,n,rfl⟩
theorem Sat.isLst (D:Good G φ k) (S:Sat G φ R fz μ loc H s) (h:G.P fz a (lstO vals n)):s.heap.IsList a vals.toArray:=⟨_,S.P D h,rfl,n,rfl⟩
theorem Sat.ref (D:Good G φ k) (S:Sat G φ R fz μ loc H s) (h:μ[i]? =some (a,d)) (hp:zA H i=po) (hl:live po):∃ o,s.heap.get? d=some o∧PoR G fz μ po a d o:=by
 obtain ⟨_,m,vm,ce,B,L⟩:=S;have hi:H[i]? =some po:=by
  unfold zA at hp;cases q:H[i]? with
  |none=>rw [q] at hp; simp only at hp; subst hp; cases hl
  |some o=>rw [q] at hp; simp only at hp; rw [hp]
 refine zY (B.at hi hl) fun a' d' o h1 h2 h3=> ?_;rw [h] at h1; cases h1;exact ⟨o,h2,h3⟩
theorem Sat.frN (D:Good G φ k) (S:Sat G φ R fz μ loc H s):∃ g m,Fr g φ.L s.heap m∧News g φ.L s.heap []:=by
 obtain ⟨_,m,vm,ce,⟨g,mu,tb,T,F,N,Sh⟩,L⟩:=S;exact ⟨g,m,F,.nil⟩
theorem tupO_eq (vals:List Value):({cls:=.type "tuple",data:=.seq vals.toArray}:Obj)=tupO vals 0:=rfl
noncomputable def opOf (n:Nat):Operator:=[.Add,.Sub,.Mult,.FloorDiv,.Mod,.Pow].getD n .Add
theorem pow_10_38:(10:Int) ^ 38=100000000000000000000000000000000000000:=by decide +kernel
variable (S:Sat G φ R fz μ loc H s)
include S
theorem zkH (q:VRs G fz μ vs vals) (z:vals.length≤SZ):wpAny (model G.prog G.w) φ.A (newTuple vals) (LQ (wV G) G φ R fz μ loc H (.tup vs)) (fun _ _=>False) s :=
 wpAny_newTuple (LQ.push S (zwI (n:=0) (.inr mQ) z (q.mono Ext.cons))) (Nat.le_trans z y7)
theorem lf_newList (q:VRs G fz μ vs vals) (z:vals.length≤SZ):wpAny (model G.prog G.w) φ.A (newList vals) (LQ (wV G) G φ R fz μ loc H (.lst vs)) (fun _ _=>False) s :=
 wpAny_newList (LQ.push S (zrJ (n:=0) (.inr mQ) z (q.mono Ext.cons))) (Nat.le_trans z y7)
end
end Mine
namespace Mine
section
variable {G:Gl} {φ:Fx} {k:Nat} {R fz fz₁:zB} {μ μ₁:Mu} {loc:Loc} {H:Hp} {s:Shared} {Γ:MP}
noncomputable def w4 (g h:Heap) (L:Addr):zB:=(List.range h.objs.size).filterMap fun b=>if b=L∨(g.get? b).isSome then none else (h.get? b).map fun o=>(b,o)
theorem xS:(b,o)∈w4 g h L↔b≠L∧g.get? b=none∧h.get? b=some o:=by
 unfold w4;rw [List.mem_filterMap]
 constructor
 ·rintro ⟨c,hc,e⟩
  split at e
  ·cases e
  ·rename_i hn
   cases q:h.get? c with
   |none=>rw [q] at e; cases e
   |some o' =>
    rw [q] at e; cases e;refine ⟨fun z=>hn (.inl z),?_,q⟩;cases z:g.get? b with
    |none=>rfl
    |some o'=>exact absurd (.inr (by rw [z]; rfl)) hn
 ·rintro ⟨h1,h2,h3⟩
  refine ⟨b,List.mem_range.mpr (Heap.lt_size h3),?_⟩;rw [if_neg (by rintro (z|z); exact h1 z; rw [h2] at z; cases z),h3]; rfl
theorem Sat.whole (D:Good G φ k) (O:GOk G) (S:Sat G φ R fz μ loc H s):∃ g m,Fr g φ.L s.heap m∧News g φ.L s.heap (w4 g s.heap φ.L)∧Below φ.A₀ G.base φ.outer g∧G.K.In g∧Top G.p G.loose G.mean G.mg G.mb g ∧
  ∀ h' tk new,Fr g φ.L h' m→News g φ.L h' (new++w4 g s.heap φ.L)→(∀ p∈new,s.heap.get? p.1=none)→Sat G φ R (new++fz) μ loc H {s with heap:=h',toks:=tk}:=by
 obtain ⟨sm,m,vm,ce,⟨g,mu,tb,T,F,N,Sh⟩,L⟩:=S;have B:=(zaC D T).1;refine ⟨g,m,F,fun p hp=> ?_,B,O.X.keeps B.stays,O.T.keeps B.stays,fun h' tk new F' N' hn=>⟨sm,m,vm,ce,⟨g,mu,tb,T,F',fun p hp=> ?_,?_⟩,L.ext ⟨fun p hp=>mR _ hp,fun _ _ h=>h⟩⟩⟩
 ·refine oAA (xS.mp (show (p.1,p.2)∈_ from hp)) fun h1 h2 h3=> ?_
  exact ⟨h3,h1,h2⟩
 ·have old:∀ p∈fz++(mu++(tb++(ce++R))),h'.get? p.1=some p.2∧p.1≠φ.L∧g.get? p.1=none:=fun p hp=>by
   refine oAA (N p hp) fun h1 h2 h3=> ?_;exact N' p (mR _ (xS.mpr ⟨h2,h3,h1⟩))
  rcases mP hp with hp|hp
  ·rcases mP hp with hp|hp
   ·exact N' p (mL _ hp)
   ·exact old p (mL _ hp)
  ·exact old p (mR _ hp)
 ·have nw:∀ p∈new,∀ q∈fz++(mu++(tb++(ce++R))),q.1≠p.1:=fun p hp q hq e=>by
   have h1:=hn p hp;rw [← e,(N q hq).1] at h1;cases h1
  refine Sh.ext (fun p hp=>mR _ hp) (fun p hp q hq=> ?_) fun p hp q hq=> ?_
  ·rcases mP hq with hq|hq
   ·exact fun e=>nw q hq p (mR _ (mL _ hp)) e.symm
   ·exact Sh.sepM p hp q (mL _ hq)
  ·rcases mP hp with hp|hp
   ·exact nw p hp q (mR _ (mR _ hq))
   ·exact Sh.sepF p hp q hq
end
section
variable {G:Gl} {φ:Fx} {k:Nat} {R fz fz₁:zB} {μ μ₁:Mu} {loc:Loc} {H:Hp} {s:Shared} {Γ:MP}
theorem zoG {α β:Type} {r:α→β→Prop}:∀ {as:List α},All2 r as []→as=[]:=by
 intro l0;cases l0 with
 |nil =>
  intro _;exact rfl
 |cons _ _ =>intros; contradiction
theorem log2_lt_of {y:Int} (h:0<y) (h':y≤10 ^ 40):y.natAbs.log2<9000:=by
 have:y.natAbs≤10 ^ 40:=by omega
 have h1:y.natAbs<2 ^ 9000:=Nat.lt_of_le_of_lt this (by decide +kernel);exact (Nat.log2_lt (by omega)).mpr h1
theorem binV_el {op:Nat} {M:PV→PV→Option PV→Prop} (h0:∀ a b,M a b none) (hi:∀ x y,M (.int x) (.int y) (binI op x y))
  (hb:∀ x y,M (.bytes x) (.bytes y) (if op=0∧(x++y).length≤SZ then some (.bytes (x++y)) else none))
  (hs:∀ x y,M (.str x) (.str y) (if op=0∧(x++y).length≤SZ then some (.str (x++y)) else none))
  (ht:∀ x y,M (.tup x) (.tup y) (if op=0∧(x++y).length≤SZ then some (.tup (x++y)) else none))
  (hl:∀ x y,M (.lst x) (.lst y) (if op=0∧(x++y).length≤SZ then some (.lst (x++y)) else none)) (a b:PV):M a b (binV op a b):=by
 cases a <;> first|exact h0 _ _|(cases b <;> first|exact h0 _ _|exact hi _ _|exact hb _ _|exact hs _ _|exact ht _ _|exact hl _ _)
noncomputable abbrev LF {α β:Type} (W:MW α β) (G:Gl) (φ:Fx) (R fz:zB) (μ:Mu) (loc:Loc) (H:Hp) (s:Shared) (t:Sem β) (a:α):Prop:=wpAny (model G.prog G.w) φ.A t (LQ W G φ R fz μ loc H a) (fun _ _=>False) s
theorem lf_binI (S:Sat G φ R fz μ loc H s) {x y:Int} {t u:Tok}:∀ op:Nat,On (binI op x y) (LF (wV G) G φ R fz μ loc H s (binaryOp (opOf op) (.int x t) (.int y u)))
 |0=>wpAny_add_int (LQ.tok S (vrI _ _))
 |1=>sub_int (LQ.tok S (vrI _ _))
 |2=>On.ite fun h=>mul_int (LQ.tok S (vrI _ _)) (IntMulOk.of_left (intBits_le_64 (by omega) (by omega)))
 |3=>On.ite fun h=>floordiv_int (Int.ne_of_gt h.1) (LQ.tok S (vrI _ _)) (.inl (PyProof.noPylong_of_log2 (log2_lt_of h.1 h.2)))
 |4=>On.ite fun h=>mod_int' (Int.ne_of_gt h.1) (LQ.tok S (vrI _ _))
 |5=>On.ite fun h=>by
  obtain ⟨rfl,rfl⟩:=h;exact pow_int (by decide) (by decide +kernel) (LQ.tok S (by rw [show (38:Int).toNat=38 from rfl,pow_10_38]; exact vrI _ _))
 |_+6=>trivial
theorem yeH {a b:Nat} (h:a≤SZ) (k:b≤SZ):a+b≤sizeLine:=Nat.le_trans (Nat.add_le_add h k) (by decide +kernel)
theorem zwA {α γ:Type} {l m:List α} {l' m':List γ} (h:(l++m).length≤SZ) (e:l.length=l'.length) (e':m.length=m'.length):(l'++m').length≤SZ:=by
 rw [List.length_append] at h ⊢; rw [← e,← e']; exact h
theorem yiH {p:Addr×Obj} (S:Sat G φ R fz μ loc H s) {o:Obj} (hp:p∈[(s.heap.objs.size,o)]):s.heap.get? p.1=none:=by cases List.mem_singleton.mp hp; exact S.none_
theorem lf_bin (D:Good G φ k) (O:GOk G) (S:Sat G φ R fz μ loc H s) {op:Nat} {a b r:PV} {v u:Value} (ha:VR G fz μ a v) (hb:VR G fz μ b u) (e:binV op a b=some r) :
  wpAny (model G.prog G.w) φ.A (binaryOp (opOf op) v u) (LQ (wV G) G φ R fz μ loc H r) (fun _ _=>False) s :=
 On.get (P:=LF (wV G) G φ R fz μ loc H s (binaryOp (opOf op) v u)) (binV_el (op:=op) (M:=fun a b o=>VR G fz μ a v→VR G fz μ b u→On o (LF (wV G) G φ R fz μ loc H s (binaryOp (opOf op) v u))) (fun _ _ _ _=>trivial)
  (fun x y ha hb=>by
   refine VR.int_el ha fun t=> ?_;refine VR.int_el hb fun t'=>lf_binI S op)
  (fun x y ha hb=>On.ite fun h=>by
   refine VR.bytes_el ha fun p t hx zx=> ?_;refine VR.bytes_el hb fun q t' hy zy=> ?_;rw [h.1];refine PySem.W.KBy.add_bytes (yeH zx zy) fun t k=>LQ.tok S (zcC (by rw [← hx,← hy,← List.map_append,Array.toList_append]) ?_);have hl:=zwA h.2 ((congrArg List.length hx).symm.trans (List.length_map _)) ((congrArg List.length hy).symm.trans (List.length_map _));rw [← Array.toList_append] at hl; exact hl)
  (fun x y ha hb=>On.ite fun h=>by
   refine VR.str_el ha fun p t hx zx=> ?_;refine VR.str_el hb fun q t' hy zy=> ?_;rw [h.1];have hl:=zwA h.2 (congrArg List.length hx).symm (congrArg List.length hy).symm;rw [← Array.toList_append] at hl;exact PyProof.Rows.add_str (fun t k=>LQ.tok S (zwJ (by rw [← hx,← hy]; exact Array.toList_append) hl)) (yeH zx zy))
  (fun x y ha hb=>On.ite fun h=>by
   refine VR.tup_el ha fun xs n a hx zx qx=> ?_;refine VR.tup_el hb fun ys n' b hy zy qy=> ?_;rw [h.1];have z:=zwA h.2 (zE qx) (zE qy);refine zaI (S.whole D O) fun g m F N _ _ _ up=> ?_;refine add_tuples F N (S.isTup D hx) (S.isTup D hy) (fun h=> ?_) (fun _ h=> ?_) (fun _ _ h' F' N'=> ?_) (yeH zx zy)
   ·subst h
    rw [zoG qx];exact LQ.here S (zwI hy zy qy)
   ·subst h
    rw [zoG qy,List.append_nil];exact LQ.here S (zwI hx zx qx)
   ·exact ⟨_,μ,Ext.cons,up h' s.toks [(s.heap.objs.size,_)] F' N' (fun p hp=>yiH S hp),zwI (n:=0) (.inr mQ) z (VRs.mono Ext.cons (yM qx qy))⟩)
  (fun x y ha hb=>On.ite fun h=>by
   refine VR.lst_el ha fun xs n a hx zx qx=> ?_;refine VR.lst_el hb fun ys n' b hy zy qy=> ?_;rw [h.1];refine zaI (S.whole D O) fun g m F N _ _ _ up=> ?_;refine add_arrays F N (S.isLst D hx) (S.isLst D hy) (fun h' F' N'=> ?_) (yeH zx zy);exact ⟨_,μ,Ext.cons,up h' s.toks [(s.heap.objs.size,_)] F' N' (fun p hp=>yiH S hp),zrJ (n:=0) (.inr mQ) (zwA h.2 (zE qx) (zE qy)) (VRs.mono Ext.cons (yM qx qy))⟩) a b ha hb) e
end
noncomputable def yA (n:Nat):CmpOp:=[.Eq,.NotEq,.Lt,.LtE,.Gt,.GtE,.Is,.IsNot,.In,.NotIn].getD n .Eq
section
variable {G:Gl} {φ:Fx} {k:Nat} {R fz fz₁:zB} {μ μ₁:Mu} {loc:Loc} {H:Hp} {s:Shared} {Γ:MP}
theorem zvI {x y:Array UInt8}:x.toList.map UInt8.toNat=y.toList.map UInt8.toNat↔x.toList=y.toList :=
 ⟨fun h=>(List.map_inj_right fun a b e=>UInt8.toNat.inj e).mp h,fun h=>by rw [h]⟩
theorem zpA (D:Good G φ k):φ.A.units+100<cLine:=Nat.lt_of_lt_of_le (Nat.add_lt_add_left (Nat.lt_of_lt_of_le (by decide:100<2400) (Nat.le_add_left 2400 (20*k))) _) D.hun
theorem depthTs_at:∀ {vs:List PV} {i:Nat} {v:PV},vs[i]? =some v→zX v≤z8 vs:=by
 intro l0
 induction l0 with
 |nil =>intros; contradiction
 |cons v vs ih =>
  intro l1;cases l1 with
  |zero =>
   intro w h;cases h; exact Nat.le_max_left _ _
  |succ i =>
   intro w h;exact Nat.le_trans (ih h) (Nat.le_max_right _ _)
theorem zpG {v w:PV} {vs ws:List PV} (h:w0 (v::vs) (w::ws)=true):yeJ v w=true∧w0 vs ws=true:=Bool.and_eq_true_iff.mp h
theorem sameTs_at:∀ {vs ws:List PV} {i:Nat} {v w:PV},w0 vs ws=true→vs[i]? =some v→ws[i]? =some w→yeJ v w=true:=by
 intro l0
 induction l0 with
 |nil =>intros; contradiction
 |cons v vs ih =>
  intro l1;cases l1 with
  |nil =>intros; contradiction
  |cons w ws =>
   intro l2;cases l2 with
   |zero =>
    intro _ _ h h1 h2;cases h1; cases h2; exact (zpG h).1
   |succ i =>
    intro _ _ h h1 h2;exact ih (zpG h).2 h1 h2
theorem znC:∀ {vs ws:List PV},w0 vs ws=true→vs.length=ws.length:=by
 intro l0
 induction l0 with
 |nil =>
  intro l1;cases l1 with
  |nil =>
   intro _;exact rfl
  |cons _ _ =>intros; contradiction
 |cons v vs ih =>
  intro l1;cases l1 with
  |nil =>intros; contradiction
  |cons w ws =>
   intro h;exact congrArg (· + 1) (ih (zpG h).2)
theorem Sat.isTuple (D:Good G φ k) (S:Sat G φ R fz μ loc H s) (h:G.P fz a (tupO vals n)):s.heap.IsTuple a vals.toArray:=⟨_,S.P D h,rfl,n,rfl⟩
theorem sameT_el {M:PV→PV→Bool→Prop} (h0:∀ a b,M a b false) (ht:∀ a b,M (.tup a) (.tup b) (w0 a b)) (hs:∀ a b,M (.str a) (.str b) (a==b)) (hi:∀ a b,M (.int a) (.int b) (a==b)) (a b:PV):M a b (yeJ a b):=by
 cases a <;> first|exact h0 _ _|(cases b <;> first|exact h0 _ _|exact ht _ _|exact hs _ _|exact hi _ _)
theorem tupB {xs ys:List Value} (hl:xs.length=ys.length):((List.range (min xs.toArray.size ys.toArray.size)).all (fun _=>true)&&xs.toArray.size==ys.toArray.size)=true :=
 Bool.and_eq_true_iff.mpr ⟨List.all_eq_true.mpr fun _ _=>rfl,beq_iff_eq.mpr hl⟩
theorem zsE (qx:VRs G fz μ vs xs) (qy:VRs G fz μ ws ys) (e:w0 vs ws=true) (h:∀ v w x y,zX v≤z8 vs→VR G fz μ v x→VR G fz μ w y→yeJ v w=true→SeqAt.EqAt A s x y true) :
  ∀ j (h1:j<xs.toArray.size) (h2:j<ys.toArray.size),SeqAt.EqAt A s xs.toArray[j] ys.toArray[j] true:=fun j h1 h2 =>
 have hv1:=List.getElem?_eq_getElem (l:=vs) (i:=j) (zE qx▸h1);have hw1:=List.getElem?_eq_getElem (l:=ws) (i:=j) (zE qy▸h2)
 h _ _ _ _ (depthTs_at hv1) (xD qx j _ _ hv1 (List.getElem?_eq_getElem h1)) (xD qy j _ _ hw1 (List.getElem?_eq_getElem h2)) (sameTs_at e hv1 hw1)
theorem zsG {x y:Str} (h:x.cps.toList=y.cps.toList):x=y:=by cases x; cases y; rw [Str.mk.injEq]; exact Array.toList_inj.mp h
theorem zlF (h:SeqAt.EqAt A s x y b) (e:b=true):SeqAt.EqAt A s x y true:=e▸h
theorem eqAt_same (D:Good G φ k) (S:Sat G φ R fz μ loc H s):∀ (n:Nat) (v w:PV) (x y:Value) (A:Around),zX v≤n→VR G fz μ v x→VR G fz μ w y→yeJ v w=true→A.units+n<cLine→SeqAt.EqAt A s x y true:=fun n=>by
 induction n using Nat.strongRecOn with
 |ind n ih =>
  exact fun v w x y A hn hv hw e hu=>sameT_el (M:=fun v w r=>∀ x y,zX v≤n→VR G fz μ v x→VR G fz μ w y→r=true→SeqAt.EqAt A s x y true) (fun _ _ _ _ _ _ _ e=>Bool.noConfusion e)
   (fun vs ws x y hn hv hw e=>by
    refine VR.tup_el hv fun xs n1 a hx zx qx=> ?_;refine VR.tup_el hw fun ys n2 b hy zy qy=> ?_
    by_cases hab:a=b
    ·rw [hab]; exact SeqAt.EqAt.same _
    ·have hl:xs.length=ys.length:=(zE qx).symm.trans ((znC e).trans (zE qy))
     have h1:z8 vs<n:=hn;exact zlF (SeqAt.EqAt.of_refs hab (SeqAt.RcAt.tuples (e:=fun _=>true) (S.isTuple D hx) (S.isTuple D hy) (Nat.lt_of_le_of_lt (Nat.le_add_right _ _) hu) (zsE qx qy e fun v w x y hd hv hw e =>ih (z8 vs) h1 v w x y A.in1 hd hv hw e (Nat.lt_of_le_of_lt (by show A.units+1+z8 vs≤A.units+n; omega) hu)))) (tupB hl))
   (fun a b x y hn hv hw e=>by
    refine VR.str_el hv fun p t ha _=> ?_;refine VR.str_el hw fun q u hb _=> ?_;rw [zsG (ha.trans ((beq_iff_eq.mp e).trans hb.symm))];exact zlF (SeqAt.EqAt.str_str _ _ _ _) (beq_self_eq_true _))
   (fun a b x y hn hv hw e=>by
    refine VR.int_el hv fun t=> ?_;refine VR.int_el hw fun u=> ?_;exact zlF (SeqAt.EqAt.int_int _ _ _ _) e) v w x y hn hv hw e
theorem eqAt_all (D:Good G φ k) (S:Sat G φ R fz μ loc H s) (hn:z8 vs≤n) (qx:VRs G fz μ vs xs) (qy:VRs G fz μ ws ys) (e:w0 vs ws=true) (hu:A.units+n<cLine) :
  ∀ j (h1:j<xs.toArray.size) (h2:j<ys.toArray.size),SeqAt.EqAt A s xs.toArray[j] ys.toArray[j] true :=
 zsE qx qy e fun v w x y hd hv hw e=>eqAt_same D S n v w x y A (Nat.le_trans hd hn) hv hw e hu
theorem eqAt_bytes:SeqAt.EqAt A s (.bytes x t) (.bytes y u) (decide (x.toList=y.toList)):=by
 intro prog w E Q h;unfold eqBool;show wpAny _ _ (if (Value.bytes x t==Value.bytes y u)=true then _ else _) Q E s
 by_cases hab:(Value.bytes x t==Value.bytes y u)=true
 ·rw [if_pos hab]
  have e:x=y:=by have:=eq_of_beq hab; injection this
  subst e;exact wpAny_bind (wpAny_rule (wpAny_pure (by simpa using h)))
 ·rw [if_neg hab]
  refine wpAny_bind (eq_bytes (wpAny_truthy_bool ?_));have:(x.toList==y.toList)=decide (x.toList=y.toList):=by cases q:decide (x.toList=y.toList) <;> simp_all
  rw [this]; exact h
end
end Mine
namespace Mine
section
variable {G:Gl} {φ:Fx} {k:Nat} {R fz fz₁:zB} {μ μ₁:Mu} {loc:Loc} {H:Hp} {s:Shared} {Γ:MP}
theorem heapAt_live (h:zA H i=po) (hl:live po):H[i]? =some po:=by
 unfold zA at h;cases q:H[i]? with
 |none=>rw [q] at h; simp only at h; subst h; cases hl
 |some o=>rw [q] at h; simp only at h; rw [h]
theorem Sat.mlst (D:Good G φ k) (S:Sat G φ R fz μ loc H s) (h:μ[i]? =some (a,d)) (hp:zA H i= .lst vs):a=d∧∃ vals n,s.heap.get? a=some (lstO vals n)∧vals.length≤SZ∧VRs G fz μ vs vals:=by
 refine ziC (S.ref D h hp trivial) fun o ho o1_ vals n o2_ z q=> ?_; obtain rfl:=o1_; obtain rfl:=o2_;exact ⟨rfl,vals,n,ho,z,q⟩
theorem Sat.mdicS (D:Good G φ k) (S:Sat G φ R fz μ loc H s) (h:μ[i]? =some (a,d)) (hp:zA H i= .dicS ks vs):a=d∧∃ kvs:List (Str×Value),s.heap.DictOf (PySem.strKind G.prog G.w) a kvs∧(zP a∧kvs.length≤SZ∧xH kvs)∧ks=kvs.map (·.1.cps.toList)∧VRs G fz μ vs (kvs.map (·.2)):=by
 refine zpI (S.ref D h hp trivial) fun o ho o1_ kvs z dd hk q=> ?_; obtain rfl:=o1_;exact ⟨rfl,kvs,dd.at ho,z,hk,q⟩
theorem Sat.mdicI (D:Good G φ k) (S:Sat G φ R fz μ loc H s) (h:μ[i]? =some (a,d)) (hp:zA H i= .dicI ks vs):a=d∧∃ kvs:List (Int×Value),s.heap.DictOf (intKind G.prog G.w) a kvs∧(zP a∧kvs.length≤SZ)∧ks=kvs.map (·.1)∧VRs G fz μ vs (kvs.map (·.2)):=by
 refine zpI (S.ref D h hp trivial) fun o ho o1_ kvs z dd hk q=> ?_; obtain rfl:=o1_;exact ⟨rfl,kvs,dd.at ho,z,hk,q⟩
theorem Sat.dicS (D:Good G φ k) (S:Sat G φ R fz μ loc H s) (h:VR G fz μ (.dicS ks vs) v):∃ (kvs:List (Str×Value)) (a:Addr),v= .ref a∧s.heap.DictOf (PySem.strKind G.prog G.w) a kvs∧(zP a∧kvs.length≤SZ∧xH kvs)∧ks=kvs.map (·.1.cps.toList)∧VRs G fz μ vs (kvs.map (·.2)):=by
 refine zuA (h.dicS') fun kvs a o o1_ hp z dd hk q=> ?_; obtain rfl:=o1_;exact ⟨kvs,a,rfl,dd.at (S.P D hp),z,hk,q⟩
theorem Sat.dicI (D:Good G φ k) (S:Sat G φ R fz μ loc H s) (h:VR G fz μ (.dicI ks vs) v):∃ (kvs:List (Int×Value)) (a:Addr),v= .ref a∧s.heap.DictOf (intKind G.prog G.w) a kvs∧(zP a∧kvs.length≤SZ)∧ks=kvs.map (·.1)∧VRs G fz μ vs (kvs.map (·.2)):=by
 refine zuA (h.dicI') fun kvs a o o1_ hp z dd hk q=> ?_; obtain rfl:=o1_;exact ⟨kvs,a,rfl,dd.at (S.P D hp),z,hk,q⟩
theorem zmG {x y:Str}:(x.cps.toList=y.cps.toList)↔x=y:=⟨zsG,fun h=>by rw [h]⟩
theorem keq_empty {K:Type} [DecidableEq K] {knd:KeyKind G.prog G.w K} {A:Around} {E:Value→Shared→Prop} {a b:Addr} {ka:List (K×Value)} {Q:Value→Shared→Prop} (ha:zP a) (hb:zP b) (da:s.heap.DictOf knd a ka) (db:s.heap.DictOf knd b [])
  (hu:A.units<cLine) (h:Q (.bool ka.isEmpty) s):wpAny (model G.prog G.w) A (compareOp .Eq (.ref a) (.ref b)) Q E s:=by
 refine keq_eq (r:=true) ha hb da db hu (fun hl=> ?_) ?_
 ·have:ka=[]:=List.length_eq_zero_iff.mp hl
  subst this;exact .nil
 ·cases ka with
  |nil=>exact h
  |cons x r=>exact h
theorem eqO_el {M:PO→PO→Option Bool→Prop} (h0:∀ a b,M a b none) (hl:∀ x,M (.lst x) (.lst []) (some x.isEmpty)) (hd:∀ ks vs ws,M (.dicS ks vs) (.dicS [] ws) (some ks.isEmpty)) (a b:PO):M a b (eqO a b):=by
 cases a with
 |lst x=>cases b with
  |lst y=>cases y with
   |nil=>exact hl _
   |cons=>exact h0 _ _
  |_=>exact h0 _ _
 |dicS ks vs=>cases b with
  |dicS k w=>cases k with
   |nil=>exact hd _ _ _
   |cons=>exact h0 _ _
  |_=>exact h0 _ _
 |_=>exact h0 _ _
theorem eqD_el {ks:List (List Nat)} {M:PO→Option Bool→Prop} (h0:∀ b,M b none) (hd:∀ ws,M (.dicS [] ws) (some ks.isEmpty)) (b:PO):M b (eqD ks b):=by
 cases b with
 |dicS k w=>cases k with
  |nil=>exact hd _
  |cons=>exact h0 _
 |_=>exact h0 _
theorem eqV_el {M:PV→PV→Option Bool→Prop} (h0:∀ a b,M a b none) (hi:∀ x y,M (.int x) (.int y) (some (decide (x=y)))) (hs:∀ x y,M (.str x) (.str y) (some (decide (x=y)))) (hb:∀ x y,M (.bytes x) (.bytes y) (some (decide (x=y)))) (hB:∀ x y,M (.bool x) (.bool y) (some (decide (x=y))))
  (ht:∀ x y,M (.tup x) (.tup y) (if w0 x y=true∧z8 x≤20 then some true else none)) (hr:∀ i j,M (.ref i) (.ref j) (eqO (zA H i) (zA H j))) (hd:∀ ks vs j,M (.dicS ks vs) (.ref j) (eqD ks (zA H j))) (a b:PV):M a b (eqV a b H):=by
 cases a <;> first|exact h0 _ _|(cases b <;> first|exact h0 _ _|exact hi _ _|exact hs _ _|exact hb _ _|exact hB _ _|exact ht _ _|exact hr _ _|exact hd _ _ _)
theorem zyH {α β:Type} [DecidableEq α] [BEq β] [LawfulBEq β] {x y:α} {p q:β} (h:x=y↔p=q):(p==q)=decide (x=y):=by
 rw [Bool.eq_iff_iff,beq_iff_eq,decide_eq_true_iff,h]
theorem yiJ {α β:Type} {f:α→β}:∀ {l:List α},(l.map f).isEmpty=l.isEmpty:=by
 intro l0;cases l0 with
 |nil =>exact rfl
 |cons _ _ =>exact rfl
theorem all2_isE {α β:Type} {r:α→β→Prop}:∀ {as:List α} {bs:List β},All2 r as bs→as.isEmpty=bs.isEmpty:=by
 intro l0;cases l0 with
 |nil =>
  intro l1;cases l1 with
  |nil =>
   intro _;exact rfl
  |cons _ _ =>intros; contradiction
 |cons _ _ =>
  intro l1;cases l1 with
  |nil =>intros; contradiction
  |cons _ _ =>
   intro _;exact rfl
theorem ykF (D:Good G φ k) (S:Sat G φ R fz μ loc H s) {F:Value→Value→Bool→Prop} (f1:∀ x t y u,F (.int x t) (.int y u) (x==y)) (f2:∀ x t y u,F (.str x t) (.str y u) (x==y)) (f3:∀ x t y u,F (.bytes x t) (.bytes y u) (x.toList==y.toList))
  (f4:∀ x y,F (.bool x) (.bool y) (x==y)) (f5:∀ a b (xs ys:List Value),s.heap.IsTuple a xs.toArray→s.heap.IsTuple b ys.toArray→xs.length=ys.length→(∀ j (h1:j<xs.toArray.size) (h2:j<ys.toArray.size),SeqAt.EqAt φ.A.in1 s xs.toArray[j] ys.toArray[j] true)→F (.ref a) (.ref b) true)
  (f6:∀ a b (xs:List Value),s.heap.IsList a xs.toArray→s.heap.IsList b #[]→F (.ref a) (.ref b) xs.isEmpty)
  (f7:∀ a b (ka:List (Str×Value)),zP a→zP b→s.heap.DictOf (PySem.strKind G.prog G.w) a ka→s.heap.DictOf (PySem.strKind G.prog G.w) b []→F (.ref a) (.ref b) ka.isEmpty)
  {a b:PV} {v u:Value} (ha:VR G fz μ a v) (hb:VR G fz μ b u):On (eqV a b H) (F v u) :=
 eqV_el (H:=H) (M:=fun a b o=>VR G fz μ a v→VR G fz μ b u→On o (F v u)) (fun _ _ _ _=>trivial)
  (fun x y ha hb=>by
   refine VR.int_el ha fun t=> ?_;refine VR.int_el hb fun t'=>f1 x t y t')
  (fun x y ha hb=>by
   refine VR.str_el ha fun p t hp _=> ?_;refine VR.str_el hb fun q t' hq _=> ?_;show F _ _ (decide (x=y));rw [← zyH (p:=p) (q:=q) (by rw [← hp,← hq]; exact zmG)]; exact f2 p t q t')
  (fun x y ha hb=>by
   refine VR.bytes_el ha fun p t hp _=> ?_;refine VR.bytes_el hb fun q t' hq _=> ?_;show F _ _ (decide (x=y));rw [← zyH (p:=p.toList) (q:=q.toList) (by rw [← hp,← hq]; exact zvI)]; exact f3 p t q t')
  (fun x y ha hb=>by
   refine VR.bool_el ha ?_;refine VR.bool_el hb ?_;show F _ _ (decide (x=y));rw [← zyH (p:=x) (q:=y) .rfl]; exact f4 x y)
  (fun x y ha hb=>On.ite fun h=>by
   refine VR.tup_el ha fun xs n a hx zx qx=> ?_;refine VR.tup_el hb fun ys n' b hy zy qy=> ?_;exact f5 a b xs ys (S.isTuple D hx) (S.isTuple D hy) ((zE qx).symm.trans ((znC h.1).trans (zE qy))) (eqAt_all D S h.2 qx qy h.1 (Nat.lt_of_le_of_lt (Nat.le_of_eq (Nat.add_assoc _ _ _)) (Nat.lt_of_le_of_lt (Nat.add_le_add_left (by decide) _) (zpA D)))))
  (fun i j ha hb=>by
   refine VR.ref_el ha fun a d hm=> ?_;refine VR.ref_el hb fun b d' hm'=> ?_;refine eqO_el (M:=fun o o' r=>zA H i=o→zA H j=o'→On r (F (.ref a) (.ref b))) (fun _ _ _ _=>trivial) (fun x hi hj=> ?_) (fun ks vs ws hi hj=> ?_) _ _ rfl rfl
   ·refine zbH (S.mlst D hm hi) fun _ vals n ho z q=> ?_
    refine zbH (S.mlst D hm' hj) fun _ vals' n' ho' z' q'=> ?_;cases vals' with
    |cons=>exact q'.elim
    |nil =>
     show F _ _ x.isEmpty;rw [all2_isE q];exact f6 a b vals ⟨_,ho,rfl,n,rfl⟩ ⟨_,ho',rfl,n',rfl⟩
   ·refine zbI (S.mdicS D hm hi) fun _ kvs dd z hk q=> ?_
    refine zbI (S.mdicS D hm' hj) fun _ kvs' dd' z' hk' q'=> ?_;cases kvs' with
    |cons=>exact nomatch hk'
    |nil =>
     show F _ _ ks.isEmpty;rw [hk,yiJ];exact f7 a b kvs z.1 z'.1 dd dd')
  (fun ks vs j ha hb=>by
   refine VR.ref_el hb fun b d' hm'=> ?_;refine eqD_el (ks:=ks) (M:=fun o' r=>zA H j=o'→On r (F v (.ref b))) (fun _ _=>trivial) (fun ws hj=> ?_) _ rfl;refine xJ (S.dicS D ha) fun kvs a e dd z hk q=> ?_;refine zbI (S.mdicS D hm' hj) fun _ kvs' dd' z' hk' q'=> ?_;cases kvs' with
   |cons=>exact nomatch hk'
   |nil =>
    show F _ _ ks.isEmpty;rw [hk,yiJ,e];exact f7 a b kvs z.1 z'.1 dd dd') a b ha hb
theorem u0 (D:Good G φ k):φ.A.units<cLine:=Nat.lt_of_le_of_lt (Nat.le_add_right _ _) (zpA D)
theorem lf_eq (D:Good G φ k) (S:Sat G φ R fz μ loc H s) {a b:PV} {v u:Value} {r:Bool} (ha:VR G fz μ a v) (hb:VR G fz μ b u) (e:eqV a b H=some r) {Q:Value→Shared→Prop} {E:Value→Shared→Prop} (hQ:∀ tk,Q (.bool r) {s with toks:=tk}) :
  wpAny (model G.prog G.w) φ.A (compareOp .Eq v u) Q E s :=
 (ykF D S (F:=fun v u r=>Q (.bool r) s→wpAny (model G.prog G.w) φ.A (compareOp .Eq v u) Q E s) (fun _ _ _ _ h=>wpAny_eq_int h) (fun _ _ _ _ h=>PyProof.Rows.eq_str h) (fun _ _ _ _ h=>eq_bytes h) (fun _ _ h=>eq_bool h)
  (fun a b xs ys h1 h2 h3 h4 h=>SeqAt.RcAt.tuples (e:=fun _=>true) h1 h2 (u0 D) h4 _ _ E _ (by rw [tupB h3]; exact h))
  (fun a b xs h1 h2 h=>by
   cases xs with
   |nil=>exact SeqAt.eq_listAt (e:=fun _=>true) h1 h2 rfl (u0 D) (fun j h=>absurd h (Nat.not_lt_zero _)) h
   |cons y ys=>exact SeqAt.eq_list_lengthsAt h1 h2 rfl (u0 D) h)
  (fun a b ka h1 h2 h3 h4 h=>keq_empty h1 h2 h3 h4 (u0 D) h) ha hb).get e (hQ s.toks)
end
end Mine
namespace Mine
section
variable {G:Gl} {φ:Fx} {k:Nat} {R fz fz₁:zB} {μ μ₁:Mu} {loc:Loc} {H:Hp} {s:Shared} {Γ:MP}
theorem keq_emptyNe {K:Type} [DecidableEq K] {knd:KeyKind G.prog G.w K} {A:Around} {E:Value→Shared→Prop} {a b:Addr} {ka:List (K×Value)} {Q:Value→Shared→Prop} (ha:zP a) (hb:zP b) (da:s.heap.DictOf knd a ka) (db:s.heap.DictOf knd b [])
  (hu:A.units<cLine) (h:Q (.bool (!ka.isEmpty)) s):wpAny (model G.prog G.w) A (compareOp .NotEq (.ref a) (.ref b)) Q E s:=by
 refine keq_ne (r:=true) ha hb da db hu (fun hl=> ?_) ?_
 ·have:ka=[]:=List.length_eq_zero_iff.mp hl
  subst this;exact .nil
 ·cases ka with
  |nil=>exact h
  |cons x r=>exact h
theorem lf_ne (D:Good G φ k) (S:Sat G φ R fz μ loc H s) {a b:PV} {v u:Value} {r:Bool} (ha:VR G fz μ a v) (hb:VR G fz μ b u) (e:eqV a b H=some r) {Q:Value→Shared→Prop} {E:Value→Shared→Prop} (hQ:∀ tk,Q (.bool (!r)) {s with toks:=tk}) :
  wpAny (model G.prog G.w) φ.A (compareOp .NotEq v u) Q E s :=
 (ykF D S (F:=fun v u r=>Q (.bool (!r)) s→wpAny (model G.prog G.w) φ.A (compareOp .NotEq v u) Q E s) (fun _ _ _ _ h=>PyProof.Rows.ne_int h) (fun _ _ _ _ h=>PyProof.Rows.ne_str h) (fun _ _ _ _ h=>ne_bytes h) (fun _ _ h=>ne_bool h)
  (fun a b xs ys h1 h2 h3 h4 h=>SeqAt.RcNeAt.tuples (e:=fun _=>true) h1 h2 (u0 D) h4 _ _ E _ (by rw [tupB h3]; exact h))
  (fun a b xs h1 h2 h=>by
   cases xs with
   |nil=>exact SeqAt.RcNeAt.lists (e:=fun _=>true) (A:=φ.A) h1 h2 rfl (u0 D) (fun j h=>absurd h (Nat.not_lt_zero _)) _ _ E _ h
   |cons y ys=>exact SeqAt.RcNeAt.lists_lengths (A:=φ.A) h1 h2 rfl (u0 D) _ _ E _ h)
  (fun a b ka h1 h2 h3 h4 h=>keq_emptyNe h1 h2 h3 h4 (u0 D) h) ha hb).get e (hQ s.toks)
end
end Mine
namespace Mine
section
variable {G:Gl} {φ:Fx} {k:Nat} {R fz fz₁:zB} {μ μ₁:Mu} {loc:Loc} {H:Hp} {s:Shared} {Γ:MP}
theorem zvA {M:List PV→Option (List Int)→Prop} (h0:∀ vs,M vs none) (hn:M [] (some [])) (hc:∀ i vs,M (.int i::vs) ((zaB vs).map (i:: ·))):∀ vs,M vs (zaB vs):=by
 intro l0;cases l0 with
 |nil =>exact hn
 |cons v vs =>cases v <;> first|exact h0 _|exact hc _ _
theorem ycG {M:List PV→Option (List (List Nat))→Prop} (h0:∀ vs,M vs none) (hn:M [] (some [])) (hc:∀ i vs,M (.bytes i::vs) ((zyB vs).map (i:: ·))):∀ vs,M vs (zyB vs):=by
 intro l0;cases l0 with
 |nil =>exact hn
 |cons v vs =>cases v <;> first|exact h0 _|exact hc _ _
theorem intsAre_on:∀ {vs:List PV} {xs:List Value},VRs G fz μ vs xs→On (zaB vs) (IntsAre xs):=by
 intro vs l1
 induction l1 generalizing vs with
 |nil =>
  intro q;exact zvA (M:=fun vs o=>VRs G fz μ vs []→On o (IntsAre [])) (fun _ _=>trivial) (fun _=>.nil) (fun _ _ q=>q.elim) vs q
 |cons x xs ih =>
  intro q;exact zvA (M:=fun vs o=>VRs G fz μ vs (x::xs)→On o (IntsAre (x::xs))) (fun _ _=>trivial) (fun q=>q.elim) (fun i vs q=>On.map (by
   have h:=ih q.2;refine On.of fun l hl=> ?_;refine VR.int_el q.1 fun t=> ?_;exact .cons _ t (h.get hl))) vs q
theorem zoB (e:zaB vs=some l) (q:VRs G fz μ vs xs):IntsAre xs l:=(intsAre_on q).get e
theorem bytsAre_on:∀ {vs:List PV} {xs:List Value},VRs G fz μ vs xs→On (zyB vs) fun l=>All2 (fun b x=>∃ y t,x= .bytes y t∧y.toList.map UInt8.toNat=b) l xs:=by
 intro vs l1
 induction l1 generalizing vs with
 |nil =>
  intro q;exact ycG (M:=fun vs o=>VRs G fz μ vs []→On o fun l=>All2 _ l []) (fun _ _=>trivial) (fun _=>trivial) (fun _ _ q=>q.elim) vs q
 |cons x xs ih =>
  intro q;exact ycG (M:=fun vs o=>VRs G fz μ vs (x::xs)→On o fun l=>All2 _ l (x::xs)) (fun _ _=>trivial) (fun q=>q.elim) (fun i vs q=>On.map (by
   have h:=ih q.2;refine On.of fun l hl=> ?_;refine VR.bytes_el q.1 fun y t hy _=> ?_;exact ⟨⟨y,t,rfl,hy⟩,h.get hl⟩)) vs q
theorem bytsAre_of (e:zyB vs=some l) (q:VRs G fz μ vs xs):All2 (fun b x=>∃ y t,x= .bytes y t∧y.toList.map UInt8.toNat=b) l xs:=(bytsAre_on q).get e
noncomputable def hitB (x:Array UInt8):Value→Bool
 | .bytes y _=>decide (y.toList=x.toList)
 |_=>false
theorem yrJ {p q r:Prop} [Decidable p] [Decidable q] [Decidable r] (h:r↔p∨q):(decide p||decide q)=decide r:=(Bool.decide_or p q).symm.trans (decide_eq_decide.mpr h.symm)
theorem any_hitB {x:Array UInt8}:∀ {l:List (List Nat)} {xs:List Value},All2 (fun b x=>∃ y t,x= .bytes y t∧y.toList.map UInt8.toNat=b) l xs→xs.any (hitB x)=decide (x.toList.map UInt8.toNat∈l):=by
 intro l0
 induction l0 with
 |nil =>
  intro l1;cases l1 with
  |nil =>
   intro _
   simp
  |cons _ _ =>intros; contradiction
 |cons b l ih =>
  intro l1;cases l1 with
  |nil =>intros; contradiction
  |cons v xs =>
   intro h1_;obtain ⟨⟨y,t,hv,hb⟩,q⟩:=h1_;subst hv hb;exact (congrArg _ (ih q)).trans (yrJ (p:=y.toList=x.toList) (List.mem_cons.trans (or_congr_left (zvI.trans eq_comm))))
theorem any_int:∀ (l:List Int),l.any (· ==x)=decide (x∈l):=by
 intro l0
 induction l0 with
 |nil =>simp
 |cons y l ih =>exact (congrArg _ ih).trans (yrJ (List.mem_cons.trans (or_congr_left eq_comm)))
theorem valueAt_isSome {K:Type} [DecidableEq K] (kvs:List (K×Value)) (x:K):(PySem.valueAt kvs x).isSome=decide (x∈kvs.map (·.1)):=by
 unfold PySem.valueAt
 induction kvs with
 |nil=>simp
 |cons p r ih =>
  rw [List.find?_cons,List.map_cons]
  by_cases h:p.1=x
  ·simp [h]
  ·have hne:¬ x=p.1:=fun e=>h e.symm
   simp only [h,decide_false,List.mem_cons,hne,false_or];exact ih
theorem inV_el {M:PV→PV→Option Bool→Prop} (h0:∀ a b,M a b none) (h1:∀ x ys,M (.int x) (.tup ys) ((zaB ys).map fun l=>decide (x∈l))) (h2:∀ x ys,M (.bytes x) (.tup ys) ((zyB ys).map fun l=>decide (x∈l)))
  (h3:∀ x ks vs,M (.int x) (.dicI ks vs) (some (decide (x∈ks)))) (h4:∀ x j,M (.int x) (.ref j) (inO x (zA H j))) (a b:PV):M a b (inV a b H):=by
 cases a <;> first|exact h0 _ _|(cases b <;> first|exact h0 _ _|exact h1 _ _|exact h2 _ _|exact h3 _ _ _|exact h4 _ _)
theorem inO_el {x:Int} {M:PO→Option Bool→Prop} (h0:∀ o,M o none) (h:∀ ks vs,M (.dicI ks vs) (some (decide (x∈ks)))) (o:PO):M o (inO x o):=by cases o <;> first|exact h0 _|exact h _ _
theorem xf {Q:Bool→Prop} {b:Bool} (h:Q (b ^^ false)):Q b:=Bool.xor_false b▸h
theorem xt {Q:Bool→Prop} {b:Bool} (h:Q (b ^^ true)):Q (!b):=Bool.xor_true b▸h
theorem yjJ {A:Around} {Q:Value→Shared→Prop} {E:Value→Shared→Prop} {x:Int} {t:Tok} {a:Addr} {kvs:List (Int×Value)} (dd:s.heap.DictOf (intKind G.prog G.w) a kvs) (z:zP a) (neg:Bool) (hQ:∀ tk,Q (.bool (decide (x∈kvs.map (·.1)) ^^ neg)) {s with toks:=tk}) :
  wpAny (model G.prog G.w) A (compareOp (if neg then .NotIn else .In) (.int x t) (.ref a)) Q E s:=by
 have h:=hQ (s.toks+1);rw [← valueAt_isSome] at h;cases neg with
 |false=>exact wpAny_in_of (intKind_is _ _ x t) z dd.mapOf (xf (Q:=fun b=>Q (.bool b) _) h)
 |true=>exact wpAny_notIn_of (intKind_is _ _ x t) z dd.mapOf (xt (Q:=fun b=>Q (.bool b) _) h)
theorem ydB:∀ {l:List (List Nat)} {xs:List Value},All2 (fun b x=>∃ y t,x= .bytes y t∧y.toList.map UInt8.toNat=b) l xs→∀ w,w∈xs→SeqAt.EqAt A s w (.bytes x t) (hitB x w) :=
 yJ (M:=fun _ xs=>∀ w,w∈xs→SeqAt.EqAt A s w (.bytes x t) (hitB x w)) (fun _ hw=>absurd hw List.not_mem_nil) fun q _ ih w hw=>(mN hw).elim (fun h=>by refine oEEA q fun y t' e _=> ?_; (try clear q); rw [h,e]; exact eqAt_bytes) (ih w)
theorem lf_in (D:Good G φ k) (S:Sat G φ R fz μ loc H s) {a b:PV} {v u:Value} {r:Bool} (ha:VR G fz μ a v) (hb:VR G fz μ b u) (e:inV a b H=some r) {Q:Value→Shared→Prop} {E:Value→Shared→Prop} (neg:Bool) (hQ:∀ tk,Q (.bool (r ^^ neg)) {s with toks:=tk}) :
  wpAny (model G.prog G.w) φ.A (compareOp (if neg then .NotIn else .In) v u) Q E s :=
 (inV_el (H:=H) (M:=fun a b o=>VR G fz μ a v→VR G fz μ b u→On o fun r=>(∀ tk,Q (.bool (r ^^ neg)) {s with toks:=tk})→wpAny (model G.prog G.w) φ.A (compareOp (if neg then .NotIn else .In) v u) Q E s) (fun _ _ _ _=>trivial)
  (fun x ys ha hb=>On.map (On.of fun l hl hQ=>by
   refine VR.int_el ha fun t=> ?_;refine VR.tup_el hb fun vals n b hy zy qy=> ?_;have h:=hQ s.toks;rw [← any_int] at h;cases neg with
   |false=>exact in_tuple_ints (S.isTup D hy) (zoB hl qy) (xf (Q:=fun b=>Q (.bool b) s) h)
   |true=>exact notin_tuple_ints (S.isTup D hy) (zoB hl qy) (xt (Q:=fun b=>Q (.bool b) s) h)))
  (fun x ys ha hb=>On.map (On.of fun l hl hQ=>by
   refine VR.bytes_el ha fun y t hx _=> ?_;refine VR.tup_el hb fun vals n b hy zy qy=> ?_;have hi:=bytsAre_of hl qy;have h:=hQ s.toks;rw [← hx,← any_hitB hi] at h;cases neg with
   |false=>exact SeqAt.in_tupleAt (hitB y) (S.isTuple D hy) (fun w hw=>ydB hi w (Array.mem_toList_iff.mpr hw)) (xf (Q:=fun b=>Q (.bool b) s) (List.any_toArray▸h))
   |true=>exact SeqAt.notIn_tupleAt (hitB y) (S.isTuple D hy) (fun w hw=>ydB hi w (Array.mem_toList_iff.mpr hw)) (xt (Q:=fun b=>Q (.bool b) s) (List.any_toArray▸h))))
  (fun x ks vs ha hb hQ=>by
   refine VR.int_el ha fun t=> ?_;refine xJ (S.dicI D hb) fun kvs b e dd z hk q=> ?_;rw [e]; rw [hk] at hQ;exact yjJ dd z.1 neg hQ)
  (fun x j ha hb=>by
   refine VR.int_el ha fun t=> ?_;refine VR.ref_el hb fun b d' hm'=> ?_;refine inO_el (x:=x) (M:=fun o r=>zA H j=o→On r fun r=>(∀ tk,Q (.bool (r ^^ neg)) {s with toks:=tk})→wpAny (model G.prog G.w) φ.A (compareOp (if neg then .NotIn else .In) (.int x t) (.ref b)) Q E s) (fun _ _=>trivial) (fun ks vs hj hQ=> ?_) _ rfl;refine zbI (S.mdicI D hm' hj) fun _ kvs dd z hk q=> ?_;rw [hk] at hQ;exact yjJ dd z.1 neg hQ) a b ha hb).get e hQ
theorem zgA (h:VR G fz μ a v):(v== .none)=isNone a :=
 VR.casesOn (motive:=fun a v _=>(v== .none)=isNone a) h rfl (fun _=>rfl) (fun _ _=>rfl) (fun _ _ _=>rfl) (fun _ _ _=>rfl) (fun _ _ _ _=>rfl) (fun _ _ _ _ _ _ _ _=>rfl) (fun _ _ _ _ _ _ _ _=>rfl) (fun _ _ _ _ _ _ _ _ _ _ _=>rfl) (fun _ _ _ _ _ _ _ _ _ _ _=>rfl)
  (fun _ _ _ _ _ _ _ _ _ _ _ _=>rfl) (fun _ _ _ _ _ _ _=>rfl) (fun _=>rfl) (fun _=>rfl) (fun _ _ _ _ _ _ _ _ _ _=>rfl)
theorem zgH {v:Value} (h:∀ x,v≠ .builtin x):plainIs v .none=true:=by cases v <;> first|rfl|exact absurd rfl (h _)
noncomputable def notB (v:Value):Prop:=match v with
 | .builtin _=>False
 |_=>True
theorem VR.notBuiltin (h:VR G fz μ a v):∀ x,v≠ .builtin x:=fun x e=>by
 have:notB v:=VR.casesOn (motive:=fun a v _=>notB v) h trivial (fun _=>trivial) (fun _ _=>trivial) (fun _ _ _=>trivial) (fun _ _ _=>trivial) (fun _ _ _ _=>trivial) (fun _ _ _ _ _ _ _ _=>trivial) (fun _ _ _ _ _ _ _ _=>trivial) (fun _ _ _ _ _ _ _ _ _ _ _=>trivial) (fun _ _ _ _ _ _ _ _ _ _ _=>trivial)
  (fun _ _ _ _ _ _ _ _ _ _ _ _=>trivial) (fun _ _ _ _ _ _ _=>trivial) (fun _=>trivial) (fun _=>trivial) (fun _ _ _ _ _ _ _ _ _ _=>trivial)
 rw [e] at this;exact this
theorem cmpI_el {op:Nat} {M:PV→PV→Option Bool→Prop} (h0:∀ a b,M a b none) (h:∀ x y,M (.int x) (.int y) (cmpN op x y)) (a b:PV):M a b (cmpI op a b):=by
 cases a <;> first|exact h0 _ _|(cases b <;> first|exact h0 _ _|exact h _ _)
theorem yiC (hb:VR G fz μ b u) (h:isNone b=true):u= .none:=eq_of_beq ((zgA hb).trans h)
theorem lf_cmpN {Q:Value→Shared→Prop} {E:Value→Shared→Prop} {x y:Int} {t u:Tok}:∀ {op:Nat},On (cmpN op x y) fun r=>Q (.bool r) s→wpAny (model G.prog G.w) φ.A (compareOp (yA op) (.int x t) (.int y u)) Q E s
 |0=>trivial
 |1=>trivial
 |2=>wpAny_lt_int
 |3=>PyProof.Rows.le_int
 |4=>PyProof.Rows.gt_int
 |5=>PyProof.Rows.ge_int
 |_+6=>trivial
theorem zkI {Q:Value→Shared→Prop} {E:Value→Shared→Prop} {a b:PV} {v u:Value} (ha:VR G fz μ a v) (hb:VR G fz μ b u) {op:Nat}:On (cmpI op a b) fun r=>Q (.bool r) s→wpAny (model G.prog G.w) φ.A (compareOp (yA op) v u) Q E s :=
 cmpI_el (op:=op) (M:=fun a b o=>VR G fz μ a v→VR G fz μ b u→On o fun r=>Q (.bool r) s→wpAny (model G.prog G.w) φ.A (compareOp (yA op) v u) Q E s) (fun _ _ _ _=>trivial)
  (fun x y ha hb=>by
   refine VR.int_el ha fun t=> ?_;refine VR.int_el hb fun t'=>lf_cmpN) a b ha hb
theorem lf_cmpO (D:Good G φ k) (S:Sat G φ R fz μ loc H s) {a b:PV} {v u:Value} (ha:VR G fz μ a v) (hb:VR G fz μ b u) {Q:Value→Shared→Prop} {E:Value→Shared→Prop}:∀ op,On (cmpV op a b H) fun r=>(∀ tk,Q (.bool r) {s with toks:=tk})→wpAny (model G.prog G.w) φ.A (compareOp (yA op) v u) Q E s
 |0=>On.of fun r e hQ=>lf_eq D S ha hb e hQ
 |1=>On.map (On.of fun r e hQ=>lf_ne D S ha hb e hQ)
 |2=>On.of fun r e hQ=>(zkI (op:=2) ha hb).get e (hQ s.toks)
 |3=>On.of fun r e hQ=>(zkI (op:=3) ha hb).get e (hQ s.toks)
 |4=>On.of fun r e hQ=>(zkI (op:=4) ha hb).get e (hQ s.toks)
 |5=>On.of fun r e hQ=>(zkI (op:=5) ha hb).get e (hQ s.toks)
 |6=>On.ite fun h hQ=>by
  rw [yiC hb h];exact wpAny_is_plain (zgH ha.notBuiltin) (by rw [zgA ha]; exact hQ s.toks)
 |7=>On.ite fun h hQ=>by
  rw [yiC hb h];exact wpAny_isNot_plain (zgH ha.notBuiltin) (by rw [zgA ha]; exact hQ s.toks)
 |8=>On.of fun r e hQ=>lf_in D S ha hb e false fun tk=>(Bool.xor_false r).symm▸hQ tk
 |9=>On.map (On.of fun r e hQ=>lf_in D S ha hb e true fun tk=>(Bool.xor_true r).symm▸hQ tk)
 |_+10=>On.of fun r e hQ=>((zkI ha hb).get e (hQ s.toks))
theorem yjE (D:Good G φ k) (S:Sat G φ R fz μ loc H s) {op:Nat} {a b:PV} {v u:Value} {r:Bool} (ha:VR G fz μ a v) (hb:VR G fz μ b u) (e:cmpV op a b H=some r) {Q:Value→Shared→Prop} {E:Value→Shared→Prop} (hQ:∀ tk,Q (.bool r) {s with toks:=tk}) :
  wpAny (model G.prog G.w) φ.A (compareOp (yA op) v u) Q E s:=(lf_cmpO D S ha hb op).get e hQ
end
set_option tactic.hygienic true
section
variable {G:Gl} {φ:Fx} {k:Nat} {R fz fz₁:zB} {μ μ₁:Mu} {loc:Loc} {H:Hp} {s:Shared} {Γ:MP}
theorem SZ_lt:(SZ:Int)<2 ^ 63:=by decide
theorem yrI {vs:List PV} {M:Int→Option PV→Prop} (h0:∀ n:Nat,M n (vs[n]?)) (h1:∀ n,M (.negSucc n) (if n<vs.length then vs[vs.length-1-n]? else none)):∀ i,M i (atI vs i)
 | .ofNat n=>h0 n
 | .negSucc n=>h1 n
theorem yhC (h:n<l):(Int.negSucc n+(l:Int)).toNat=l-1-n∧0≤Int.negSucc n+(l:Int)∧Int.negSucc n+(l:Int)<l:=by
 have e:Int.negSucc n+(l:Int)=((l-1-n:Nat):Int):=by omega
 rw [e];exact ⟨rfl,Int.natCast_nonneg _,Int.ofNat_lt.mpr (Nat.lt_of_le_of_lt (Nat.sub_le _ _) (Nat.sub_lt (Nat.lt_of_le_of_lt (Nat.zero_le _) h) Nat.one_pos))⟩
theorem seq_p {n l:Nat} (h:n<l):seqIndex? (n:Int) l=some n :=
 if_pos (Bool.and_eq_true_iff.mpr ⟨decide_eq_true (Int.natCast_nonneg n),decide_eq_true (Int.ofNat_lt.mpr h)⟩)
theorem seq_n (h:n<l):seqIndex? (Int.negSucc n) l=some (l-1-n):=by
 have:=yhC h;unfold seqIndex?;rw [if_pos (Int.negSucc_lt_zero n)];show (if _ then some _ else none)=_;rw [if_pos (Bool.and_eq_true_iff.mpr ⟨decide_eq_true this.2.1,decide_eq_true this.2.2⟩),this.1]
theorem ycI {α:Type} {l:List α} {x:α} (h:l[n]? =some x):n<l.length:=(List.getElem?_eq_some_iff.mp h).1
theorem yiD (h:n≤SZ):(n:Int)<2 ^ 63:=Int.lt_of_le_of_lt (Int.ofNat_le.mpr h) SZ_lt
theorem negs {n l:Nat} (h:n<l): -(l:Int)≤Int.negSucc n:=by lia
theorem neg63 {n l:Nat} (h:n<l) (k:l≤SZ): -(2 ^ 63)≤Int.negSucc n:=Int.le_trans (by decide: -(2 ^ 63:Int)≤ -(SZ:Int)) (negs (Nat.lt_of_lt_of_le h k))
theorem atI_seq {vs:List PV} {i:Int} (hz:vs.length≤SZ):On (atI vs i) fun v=> -(2 ^ 63)≤i∧i<2 ^ 63∧∃ j,seqIndex? i vs.length=some j∧vs[j]? =some v :=
 yrI (M:=fun i o=>On o fun v=> -(2 ^ 63)≤i∧i<2 ^ 63∧∃ j,seqIndex? i vs.length=some j∧vs[j]? =some v)
  (fun n=>On.of fun v h=>⟨Int.le_trans (by decide) (Int.natCast_nonneg n),yiD (Nat.le_trans (Nat.le_of_lt (ycI h)) hz),n,seq_p (ycI h),h⟩)
  (fun n=>On.ite' fun hn=>On.of fun v h=>⟨neg63 hn hz,Int.lt_of_lt_of_le (Int.negSucc_lt_zero n) (by decide),_,seq_n hn,h⟩) i
theorem lst_item {A:Around} {E:Value→Shared→Prop} {l:Addr} {vs:List PV} {vals:List Value} {i:Int} {t:Tok} {Q:Value→Shared→Prop} (hl:s.heap.IsList l vals.toArray) (q:VRs G fz μ vs vals) (hz:vals.length≤SZ) :
  On (atI vs i) fun v=>(∀ x,VR G fz μ v x→Q x s)→wpAny (model G.prog G.w) A (getItem (.ref l) (.int i t)) Q E s :=
 yrI (M:=fun i o=>On o fun v=>(∀ x,VR G fz μ v x→Q x s)→wpAny (model G.prog G.w) A (getItem (.ref l) (.int i t)) Q E s)
  (fun n=>On.of fun v h hQ=>by
   refine oEA (zfA q n v h) fun x hx vx=> ?_;exact wpAny_getItem_list (x:=x) hl (Int.natCast_nonneg n) (yiD (Nat.le_trans (Nat.le_of_lt (ycI hx)) hz)) (List.getElem?_toArray.trans hx) (hQ x vx))
  (fun n=>On.ite' fun hn=>On.of fun v h hQ=>by
   rw [zE q] at hn h;refine oEA (zfA q _ v h) fun x hx vx=> ?_;exact wpAny_getItem_list_neg (x:=x) hl (Int.negSucc_lt_zero n) (negs hn) (neg63 hn hz) ((congrArg (vals.toArray[·]?) (yhC hn).1).trans (List.getElem?_toArray.trans hx)) (hQ x vx)) i
section
variable {K:Type} [DecidableEq K] {kvs:List (K×Value)} {k x:K} {ks:List K} {r:List (K×Value)} {p:K×Value}
theorem yjC:zS (k::ks) (v::vs) x=if k=x then some v else zS ks vs x:=rfl
theorem valueAt_t (e:p.1=x):PySem.valueAt (p::r) x=some p.2:=congrArg (Option.map fun q:K×Value=>q.2) (List.find?_cons_of_pos (p:=fun q:K×Value=>decide (q.1=x)) (decide_eq_true e))
theorem zsA (e:¬ p.1=x):PySem.valueAt (p::r) x=PySem.valueAt r x:=congrArg (Option.map fun q:K×Value=>q.2) (List.find?_cons_of_neg (p:=fun q:K×Value=>decide (q.1=x)) (by rw [decide_eq_false e]; exact Bool.false_ne_true))
theorem zqE:∀ {kvs:List (K×Value)} {vs:List PV},VRs G fz μ vs (kvs.map (·.2))→zS (kvs.map (·.1)) vs x=some v→∃ val,PySem.valueAt kvs x=some val∧VR G fz μ v val:=by
 intro l0
 induction l0 with
 |nil =>
  intro l1;cases l1 with
  |nil =>
   intro _ h;exact nomatch h
  |cons _ _ =>intros; contradiction
 |cons p r ih =>
  intro l1;cases l1 with
  |nil =>intros; contradiction
  |cons w ws =>
   intro q h;exact if e:p.1=x then ⟨p.2,valueAt_t e,Option.some.inj ((if_pos e).symm.trans h)▸q.1⟩
    else by refine oEA (ih q.2 ((if_neg e).symm.trans h)) fun val h1 h2=> ?_; exact ⟨val,(zsA e).trans h1,h2⟩
theorem lookK_none:∀ {kvs:List (K×Value)} {vs:List PV},VRs G fz μ vs (kvs.map (·.2))→zS (kvs.map (·.1)) vs x=none→PySem.valueAt kvs x=none:=by
 intro l0
 induction l0 with
 |nil =>
  intro l1;cases l1 with
  |nil =>
   intro _ _;exact rfl
  |cons _ _ =>intros; contradiction
 |cons p r ih =>
  intro l1;cases l1 with
  |nil =>intros; contradiction
  |cons w ws =>
   intro q h;exact if e:p.1=x then nomatch (if_pos e).symm.trans h else (zsA e).trans (ih q.2 ((if_neg e).symm.trans h))
end
theorem lookS_str (x:Str):∀ (ks:List Str) (vs:List PV),zS (ks.map (·.cps.toList)) vs x.cps.toList=zS ks vs x:=by
 intro l0
 induction l0 with
 |nil =>
  intro _;exact rfl
 |cons k r ih =>
  intro l1;cases l1 with
  |nil =>exact rfl
  |cons v vs =>
   rw [List.map_cons,yjC,yjC,ih vs];simp only [zmG]
theorem lookS {kvs:List (Str×Value)} {vs:List PV} {x:Str}:zS (kvs.map (·.1.cps.toList)) vs x.cps.toList=zS (kvs.map (·.1)) vs x:=by
 rw [← lookS_str x,List.map_map]; rfl
theorem idxO_el {M:PO→PV→Option PV→Prop} (h0:∀ a b,M a b none) (hl:∀ vs i,M (.lst vs) (.int i) (atI vs i)) (hd:∀ ks vs i,M (.dicI ks vs) (.int i) (zS ks vs i)) (hs:∀ ks vs i,M (.dicS ks vs) (.str i) (zS ks vs i)) (a:PO) (b:PV):M a b (idxO a b):=by
 cases a <;> first|exact h0 _ _|(cases b <;> first|exact h0 _ _|exact hl _ _|exact hd _ _ _|exact hs _ _ _)
theorem idxV_el {M:PV→PV→Option PV→Prop} (h0:∀ a b,M a b none) (ht:∀ vs i,M (.tup vs) (.int i) (atI vs i)) (hl:∀ vs i,M (.lst vs) (.int i) (atI vs i)) (hb:∀ (l:List Nat) n,M (.bytes l) (.int (.ofNat n)) ((l[n]?).map fun x=>.int (.ofNat x)))
  (hd:∀ ks vs i,M (.dicI ks vs) (.int i) (zS ks vs i)) (hs:∀ ks vs i,M (.dicS ks vs) (.str i) (zS ks vs i)) (hr:∀ j w,M (.ref j) w (idxO (zA H j) w)) (a b:PV):M a b (idxV a b H):=by
 cases a <;> first|exact h0 _ _|exact hr _ _|(cases b <;> first|exact h0 _ _|exact ht _ _|exact hl _ _|exact hd _ _ _|exact hs _ _ _|(rename_i l i; cases i with|ofNat n=>exact hb l n|negSucc n=>exact h0 _ _))
noncomputable def GI (G:Gl) (φ:Fx) (R fz:zB) (μ:Mu) (loc:Loc) (H:Hp) (s:Shared) (E:Value→Shared→Prop) (v u:Value) (r:PV):Prop :=
 ∃ T id,s.TypeIs v T∧typeLookup (.type T) "__getitem__" =pure (some (.builtin id))∧wpAny (model G.prog G.w) φ.A (getItem v u) (LQ (wV G) G φ R fz μ loc H r) E s
variable {E:Value→Shared→Prop}
theorem zqI {K:Type} [DecidableEq K] {knd:KeyKind G.prog G.w K} (S:Sat G φ R fz μ loc H s) {a:Addr} {kvs:List (K×Value)} {vs:List PV} {u:Value} {x:K} (hk:knd.is x u=true) (dd:s.heap.DictOf knd a kvs) (q:VRs G fz μ vs (kvs.map (·.2))):On (zS (kvs.map (·.1)) vs x) (GI G φ R fz μ loc H s E (.ref a) u) :=
 On.of fun r e=>by refine oEA (zqE q e) fun _ hv vx=> ?_; exact ⟨"dict",_,dd.typeIs,slot_dict_getitem.lookup,wpAny_getItem_of hk dd.mapOf hv (LQ.tok S vx)⟩
theorem ypH (S:Sat G φ R fz μ loc H s) {a:Addr} {vs:List PV} {vals:List Value} {n:Nat} (ho:s.heap.get? a=some (lstO vals n)) (q:VRs G fz μ vs vals) (z:vals.length≤SZ) {i:Int} {t:Tok}:On (atI vs i) (GI G φ R fz μ loc H s E (.ref a) (.int i t)) :=
 On.of fun r e=>⟨"list",_,⟨_,ho,rfl⟩,PySem.slot_list_getitem.lookup,(lst_item ⟨_,ho,rfl,n,rfl⟩ q z).get e fun x vx=>LQ.here S vx⟩
theorem lf_getItem (D:Good G φ k) (S:Sat G φ R fz μ loc H s) {a b:PV} {v u:Value} (ha:VR G fz μ a v) (hb:VR G fz μ b u):On (idxV a b H) (GI G φ R fz μ loc H s E v u) :=
 idxV_el (H:=H) (M:=fun a b o=>VR G fz μ a v→VR G fz μ b u→On o (GI G φ R fz μ loc H s E v u)) (fun _ _ _ _=>trivial)
  (fun vs i ha hb=>by
   refine VR.tup_el ha fun vals n a hx zx qx=> ?_;refine VR.int_el hb fun t=> ?_;refine On.of fun r e=> ?_;refine oAAEA ((atI_seq ((zE qx).symm▸zx)).get e) fun h1 h2 j hj hv=> ?_;refine oEA (zfA qx j r hv) fun x hx' vx=> ?_;rw [zE qx] at hj;exact ⟨"tuple",_,⟨_,S.P D hx,rfl⟩,PySem.F.slot_tuple_getitem.lookup,PyProof.Rows.getItem_tuple (x:=x) (S.isTup D hx) h1 h2 hj (List.getElem?_toArray.trans hx') (LQ.here S vx)⟩)
  (fun vs i ha hb=>by
   refine VR.lst_el ha fun vals n a hx zx qx=> ?_;refine VR.int_el hb fun t=>ypH S (S.P D hx) qx zx)
  (fun l n ha hb=>On.map (On.of fun y h=>by
   refine VR.bytes_el ha fun x t hx z=> ?_;refine VR.int_el hb fun t'=> ?_;rw [← hx,List.getElem?_map] at h;refine oEA (Option.map_eq_some_iff.mp h) fun c hc hc'=> ?_;have:=getItem_bytes (prog:=G.prog) (w:=G.w) (A:=φ.A) (E:=E) (s:=s) (l:=x.toList) (i:=(n:Int)) (t:=t) (u:=t') (Q:=LQ (wV G) G φ R fz μ loc H (.int (.ofNat y))) (Nat.le_trans z (by decide)) (Int.natCast_nonneg n) (Int.ofNat_lt.mpr (ycI hc)) (by
    rw [Int.toNat_natCast,List.getD_eq_getElem?_getD,hc];show LQ _ _ _ _ _ _ _ _ _ (Value.int (c.toNat:Int) _) _;rw [hc'];exact LQ.tok S (vrI _ _))
   rw [Array.toArray_toList] at this;exact ⟨"bytes",_,typeIs_bytes _ _ _,FB.slot_bytes_getitem.lookup,this⟩))
  (fun ks vs i ha hb=>by
   refine VR.int_el hb fun t=> ?_;refine xJ (S.dicI D ha) fun kvs b e dd z hk q=> ?_;rw [e,hk];exact zqI S (intKind_is _ _ _ _) dd q)
  (fun ks vs i ha hb=>by
   refine VR.str_el hb fun x t hx _=> ?_;refine xJ (S.dicS D ha) fun kvs b e dd z hk q=> ?_;rw [e,hk,← hx,lookS];exact zqI S (strKind_is _ _ _ _) dd q)
  (fun j w ha hb=>by
   refine VR.ref_el ha fun a d hm=> ?_;exact idxO_el (M:=fun o w r=>zA H j=o→VR G fz μ w u→On r (GI G φ R fz μ loc H s E (.ref a) u)) (fun _ _ _ _=>trivial)
    (fun vs i hi hb=>by
     refine VR.int_el hb fun t=> ?_;refine zbH (S.mlst D hm hi) fun _ vals n ho z q=> ?_;exact ypH S ho q z)
    (fun ks vs i hi hb=>by
     refine VR.int_el hb fun t=> ?_;refine zbI (S.mdicI D hm hi) fun _ kvs dd z hk q=> ?_;rw [hk];exact zqI S (intKind_is _ _ _ _) dd q)
    (fun ks vs i hi hb=>by
     refine VR.str_el hb fun x t hx _=> ?_;refine zbI (S.mdicS D hm hi) fun _ kvs dd z hk q=> ?_;rw [hk,← hx,lookS];exact zqI S (strKind_is _ _ _ _) dd q) _ _ rfl hb) a b ha hb
theorem lf_idx (D:Good G φ k) (S:Sat G φ R fz μ loc H s) (ha:VR G fz μ a v) (hb:VR G fz μ b u) (e:idxV a b H=some r) (hs:subscripted slice false v u=operate ops (getItem v u)) :
  wpAny (model G.prog G.w) φ.A (subscriptTail value slice v u) (LQ (wV G) G φ R fz μ loc H r) (fun _ _=>False) s:=by
 refine zcE ((lf_getItem (E:=fun _ _=>False) D S ha hb).get e) fun T id hT hl hg=> ?_;exact tail_any hT hl hg hs
end
end Mine
namespace Mine
section
variable {G:Gl} {φ:Fx} {k:Nat} {R fz fz₁:zB} {μ μ₁:Mu} {loc:Loc} {H:Hp} {s:Shared} {Γ:MP}
theorem cut_take {α:Type} (l:List α) (b:Nat):(l.drop 0).take (min b l.length-0)=l.take b:=by
 rw [List.drop_zero,Nat.sub_zero,kmk_take_min]
theorem cut_drop {α:Type} (l:List α) (a:Nat):(l.drop (min a l.length)).take (l.length-min a l.length)=l.drop a:=by
 rw [kmk_drop_min,List.take_of_length_le (by rw [List.length_drop]; exact Nat.sub_le_sub_left (Nat.min_le_left _ _) _)]
theorem cut_both {α:Type} (l:List α) (a b:Nat):(l.drop (min a l.length)).take (min b l.length-min a l.length)=(l.take b).drop a:=by
 rw [kmk_drop_min,List.drop_take]
 by_cases h:a≤l.length
 ·rw [Nat.min_eq_left h,← kmk_take_min _ (b-a),List.length_drop,Nat.sub_min_sub_right]
 ·rw [List.drop_of_length_le (Nat.le_of_not_le h),List.take_nil,List.take_nil]
theorem cutL_el {M:PV→PV→(∀ {α:Type},List α→Option (List α))→Prop} (h0:∀ a b,M a b fun _=>none) (h1:∀ b:Nat,M .none (.int b) fun l=>some (l.take b)) (h2:∀ a:Nat,M (.int a) .none fun l=>some (l.drop a)) (h3:∀ a b:Nat,M (.int a) (.int b) fun l=>some ((l.take b).drop a))
  (lo hi:PV):M lo hi fun l=>cutL l lo hi:=by
 cases lo with
 |none=>cases hi with
  |int b=>cases b with
   |ofNat b=>exact h1 b
   |negSucc b=>exact h0 _ _
  |_=>exact h0 _ _
 |int a=>cases a with
  |ofNat a=>cases hi with
   |int b=>cases b with
    |ofNat b=>exact h3 a b
    |negSucc b=>exact h0 _ _
   |none=>exact h2 a
   |_=>exact h0 _ _
  |negSucc a=>cases hi with
   |int b=>cases b <;> exact h0 _ _
   |_=>exact h0 _ _
 |_=>exact h0 _ _
noncomputable def Cut (x y:Value) (f:∀ {α:Type},List α→Option (List α)):Prop:=∃ a b,IsPart x a∧IsPart y b ∧
  ∀ {β:Type} (l':List β),f l'=some ((l'.drop (a.elim 0 (clipAt l'.length))).take (b.elim l'.length (clipAt l'.length)-a.elim 0 (clipAt l'.length)))
theorem cut_parts {lo hi:PV} {x y:Value} (hx:VR G fz μ lo x) (hy:VR G fz μ hi y):(∀ {α:Type} (l:List α),cutL l lo hi=none)∨Cut x y fun l=>cutL l lo hi :=
 cutL_el (M:=fun lo hi f=>VR G fz μ lo x→VR G fz μ hi y→(∀ {α:Type} (l:List α),f l=none)∨Cut x y f) (fun _ _ _ _=>.inl fun _=>rfl)
  (fun b hx hy=>by
   refine VR.none_el hx ?_;refine VR.int_el hy fun t=>.inr ⟨none,some _,.none,.int _ _,fun l=> ?_⟩;show _=some (List.take (clipAt l.length (b:Int)-0) (List.drop 0 l));rw [clipAt_nat,cut_take])
  (fun a hx hy=>by
   refine VR.none_el hy ?_;refine VR.int_el hx fun t=>.inr ⟨some _,none,.int _ _,.none,fun l=> ?_⟩;show _=some (List.take (l.length-clipAt l.length (a:Int)) (List.drop (clipAt l.length (a:Int)) l));rw [clipAt_nat,cut_drop])
  (fun a b hx hy=>by
   refine VR.int_el hx fun t=> ?_;refine VR.int_el hy fun u=>.inr ⟨some _,some _,.int _ _,.int _ _,fun l=> ?_⟩;show _=some (List.take (clipAt l.length (b:Int)-clipAt l.length (a:Int)) (List.drop (clipAt l.length (a:Int)) l));rw [clipAt_nat,clipAt_nat,cut_both]) lo hi hx hy
theorem pick_eq (items:Array Value) (lo hi:Option Int):slicePick items lo hi none=((items.toList.drop (lo.elim 0 (clipAt items.size))).take (hi.elim items.size (clipAt items.size)-lo.elim 0 (clipAt items.size))).toArray :=
 kmk_pick_nat _ (sliceBounds_plain lo hi items.size)
theorem zwB {α β:Type} {r:α→β→Prop}:∀ {as:List α} {bs:List β} (n:Nat),All2 r as bs→All2 r (as.drop n) (bs.drop n):=by
 intro l0
 induction l0 with
 |nil =>
  intro l1;cases l1 with
  |nil =>
   intro n _;rw [List.drop_nil,List.drop_nil]; trivial
  |cons _ _ =>intros; contradiction
 |cons _ _ ih =>
  intro l1;cases l1 with
  |nil =>intros; contradiction
  |cons _ _ =>
   intro l2;cases l2 with
   |zero =>
    intro h;exact h
   |succ n =>
    intro h;exact ih n h.2
theorem all2_take {α β:Type} {r:α→β→Prop}:∀ {as:List α} {bs:List β} (n:Nat),All2 r as bs→All2 r (as.take n) (bs.take n):=by
 intro l0
 induction l0 with
 |nil =>
  intro l1;cases l1 with
  |nil =>
   intro n _;rw [List.take_nil,List.take_nil]; trivial
  |cons _ _ =>intros; contradiction
 |cons _ _ ih =>
  intro l1;cases l1 with
  |nil =>intros; contradiction
  |cons _ _ =>
   intro l2;cases l2 with
   |zero =>
    intro _;exact trivial
   |succ n =>
    intro h;exact ⟨h.1,ih n h.2⟩
theorem slcV_el {lo hi:PV} {M:PV→Option PV→Prop} (h0:∀ v,M v none) (h1:∀ l,M (.bytes l) ((cutL l lo hi).map .bytes)) (h2:∀ l,M (.lst l) ((cutL l lo hi).map .lst)) (v:PV):M v (slcV v lo hi):=by
 cases v <;> first|exact h0 _|exact h1 _|exact h2 _
theorem lf_slc (D:Good G φ k) (O:GOk G) (S:Sat G φ R fz μ loc H s) {v lo hi r:PV} {x vl vu:Value} (hv:VR G fz μ v x) (hl:VR G fz μ lo vl) (hu:VR G fz μ hi vu) (e:slcV v lo hi=some r) {value slice:Expr}
  (hs:∀ o i,subscripted slice false o i=operate [i,o] (getItem o i)) :
  wpAny (model G.prog G.w) φ.A (newFields "slice" [vl,vu,.none]) (fun i s'=>wpAny (model G.prog G.w) φ.A (subscriptTail value slice x i) (LQ (wV G) G φ R fz μ loc H r) (fun _ _=>False) s') (fun _ _=>False) s:=by
 unfold newFields;refine wpAny_newObj_type ?_ (by show (3:Nat)≤sizeLine+2; decide +kernel)
 rcases cut_parts hl hu with hn|⟨a,c,pa,pc,hc⟩
 ·have:slcV v lo hi=none:=by
   cases v <;> first|rfl|exact congrArg (Option.map _) (hn _)
  rw [this] at e; cases e
 ·have hc:∀ {β:Type} (l':List β),cutL l' lo hi=some ((l'.drop (a.elim 0 (clipAt l'.length))).take (c.elim l'.length (clipAt l'.length)-a.elim 0 (clipAt l'.length))):=hc
  have S':=(S.keeps (h':=s.heap.push {cls:=.type "slice",data:=.fields #[vl,vu,.none]}) (tk:=s.toks) fun _ _ e=>Heap.get?_push_of_some _ e);refine On.get (o:=slcV v lo hi) (P:=fun r=>wpAny (model G.prog G.w) φ.A (subscriptTail value slice x (.ref s.heap.objs.size)) (LQ (wV G) G φ R fz μ loc H r) (fun _ _=>False) {s with heap:=s.heap.push {cls:=.type "slice",data:=.fields #[vl,vu,.none]}}) ?_ e;refine slcV_el (lo:=lo) (hi:=hi) (M:=fun v o=>VR G fz μ v x→On o _) (fun _ _=>trivial) (fun l hv=> ?_) (fun l hv=> ?_) v hv
  ·refine VR.bytes_el hv fun b t hb zb=> ?_
   rw [hc];exact tail_any (ops:=[.ref s.heap.objs.size,.bytes b t]) (typeIs_bytes _ _ _) FB.slot_bytes_getitem.lookup (getItem_meets (typeIs_bytes _ _ _) (by decide) FB.slot_bytes_getitem FB.entry_bytes_getitem (FB.args_bytes_getitem_2 _ _) (KBc.meets_slice2 b t _ pa pc)
     ⟨Heap.IsSliceOf.new _ _ _ _,Nat.le_trans (KBc.size_picked_le b a c) (Nat.le_trans zb y7),fun t' k => ⟨fz,μ,.refl,S.keeps fun _ _ e=>Heap.get?_push_of_some _ e,zcC (by rw [KBc.picked_eq,← hb,List.length_map,List.map_take,List.map_drop]; rfl) (Nat.le_trans (KBc.size_picked_le b a c) zb)⟩⟩) (hs _ _)
  ·refine VR.lst_el hv fun vals n ad hx zx qx=> ?_
   rw [hc];have hL:=S.isLst D hx;refine tail_any (ops:=[.ref s.heap.objs.size,.ref ad]) (Heap.IsList.typeIs (s:={s with heap:=s.heap.push {cls:=.type "slice",data:=.fields #[vl,vu,.none]}}) (hL.push _)) list_getitem_lookup (wpAny_getItem_list_slice (hL.push _) (Heap.IsSliceOf.new ..) pa pc .none (by simp) ?_ (Nat.le_trans zx y7)) (hs _ _);rw [pick_eq,zE qx];exact LQ.push S' (zrJ (n:=0) (.inr mQ) (Nat.le_trans (Nat.le_trans (List.length_take_le' _ _) (by rw [List.length_drop]; exact Nat.sub_le _ _)) zx) (VRs.mono Ext.cons (all2_take _ (zwB _ qx))))
end
end Mine
namespace Mine
section
variable {G:Gl} {φ:Fx} {k:Nat} {R fz fz₁:zB} {μ μ₁:Mu} {loc:Loc} {H:Hp} {s:Shared} {Γ:MP}
theorem lf_neg (S:Sat G φ R fz μ loc H s) {i:Int} {v:Value} (ha:VR G fz μ (.int i) v):wpAny (model G.prog G.w) φ.A (unaryOp .USub v) (LQ (wV G) G φ R fz μ loc H (.int (-i))) (fun _ _=>False) s:=by
 obtain ⟨t,rfl⟩:=ha.int';exact PyProof.Rows.neg_int (LQ.tok S (vrI _ _))
theorem toChars_intText (a:Int):(toString a).toList.map Char.toNat=yG a:=by
 cases a with
 |ofNat n =>
  show (Nat.repr n).toList.map Char.toNat=(Nat.toDigits 10 n).map Char.toNat;rw [Nat.repr,String.toList_ofList]
 |negSucc n =>
  show (toString "-" ++Nat.repr (n+1)).toList.map Char.toNat=45::(Nat.toDigits 10 (n+1)).map Char.toNat;rw [Nat.repr,String.toList_append,String.toList_ofList,List.map_append]
  rfl
theorem cps_toString (a:Int):(Str.ofString (toString a)).cps.toList=yG a:=by
 show (cpsOfBytes 0 0 (toString a).toByteArray.data.toList).toArray.toList=_;rw [List.toList_toArray,cpsOfBytes_string,toChars_intText]
theorem lenO_el {M:PO→Option Nat→Prop} (h0:∀ o,M o none) (h:∀ vs,M (.lst vs) (some vs.length)) (o:PO):M o (lenO o):=by cases o <;> first|exact h0 _|exact h _
theorem lenV_el {M:PV→Option Nat→Prop} (h0:∀ o,M o none) (h1:∀ l,M (.bytes l) (some l.length)) (h2:∀ vs,M (.lst vs) (some vs.length)) (h3:∀ vs,M (.tup vs) (some vs.length)) (h4:∀ i,M (.ref i) (lenO (zA H i))) (v:PV):M v (lenV v H):=by
 cases v <;> first|exact h0 _|exact h1 _|exact h2 _|exact h3 _|exact h4 _
theorem vrN (h:n=m):(wV G).r fz μ (.int (.ofNat n)) (.int (m:Int) t):=h▸vrI _ _
theorem lf_len (D:Good G φ k) (S:Sat G φ R fz μ loc H s) {a:PV} {v:Value} {n:Nat} (ha:VR G fz μ a v) (e:lenV a H=some n) :
  wpAny (model G.prog G.w) φ.A (call (.builtin "len") [v]) (LQ (wV G) G φ R fz μ loc H (.int (.ofNat n))) (fun _ _=>False) s :=
 (lenV_el (H:=H) (M:=fun a o=>VR G fz μ a v→On o fun n=>wpAny (model G.prog G.w) φ.A (call (.builtin "len") [v]) (LQ (wV G) G φ R fz μ loc H (.int (.ofNat n))) (fun _ _=>False) s) (fun _ _=>trivial)
  (fun l ha=>by
   refine VR.bytes_el ha fun x t hx z=> ?_;exact len_bytes (Nat.le_trans z (by decide)) (LQ.tok S (vrN (by rw [← hx,List.length_map,Array.length_toList]))))
  (fun vs ha=>by
   refine VR.lst_el ha fun vals n a hx z q=> ?_;exact call_len_list (S.isLst D hx) (yiD z) (LQ.tok S (vrN (zE q))))
  (fun vs ha=>by
   refine VR.tup_el ha fun vals n a hx z q=> ?_;exact PyProof.Rows.len_tuple (S.isTup D hx) (yiD z) (LQ.tok S (vrN (zE q))))
  (fun i ha=>by
   refine VR.ref_el ha fun a d hm=> ?_;refine lenO_el (M:=fun o r=>zA H i=o→On r fun n=>wpAny (model G.prog G.w) φ.A (call (.builtin "len") [.ref a]) (LQ (wV G) G φ R fz μ loc H (.int (.ofNat n))) (fun _ _=>False) s) (fun _ _=>trivial) (fun vs hi=> ?_) _ rfl;refine zbH (S.mlst D hm hi) fun _ vals n ho z q=> ?_;exact call_len_list (items:=vals.toArray) ⟨_,ho,rfl,n,rfl⟩ (yiD z) (LQ.tok S (vrN (zE q)))) a ha).get e
theorem lf_str (S:Sat G φ R fz μ loc H s) {i:Int} {v:Value} (ha:VR G fz μ (.int i) v) (hi:i.natAbs≤10 ^ 60) :
  wpAny (model G.prog G.w) φ.A (call (.type "str") [v]) (LQ (wV G) G φ R fz μ loc H (.str (yG i))) (fun _ _=>False) s:=by
 obtain ⟨t,rfl⟩:=ha.int';have hl:i.natAbs.log2<1920:=by
  by_cases h0:i.natAbs=0
  ·rw [h0]; decide
  ·exact (Nat.log2_lt h0).mpr (Nat.lt_of_le_of_lt hi (by decide +kernel))
 refine PySem.P.str_of_int hl (LQ.tok S (zwJ (cps_toString i) ?_));have h1:=int_text_length_le10 (a:=i) (k:=61) (by decide) (Nat.lt_of_le_of_lt hi (by decide +kernel));have h2:=PySem.ofString_length (toString i);have h3:(Str.ofString (toString i)).length=(Str.ofString (toString i)).cps.size:=rfl;have:=yfE
 omega
theorem lf_chr (S:Sat G φ R fz μ loc H s) {n:Nat} {v:Value} (ha:VR G fz μ (.int (.ofNat n)) v) (hi:n<256) :
  wpAny (model G.prog G.w) φ.A (call (.builtin "chr") [v]) (LQ (wV G) G φ R fz μ loc H (.str [n])) (fun _ _=>False) s:=by
 obtain ⟨t,rfl⟩:=ha.int';refine chr_of_range (by simp) (by simp; omega) (LQ.tok S (zwJ (by simp) (by simp [yfE])))
end
set_option tactic.hygienic false
section
variable {G:Gl} {φ:Fx} {k:Nat} {R fz fz₁:zB} {μ μ₁:Mu} {loc:Loc} {H:Hp} {s:Shared} {Γ:MP}
theorem zvC (x:Int):∀ l:List Int,(insI x l).Perm (x::l):=by
 intro l0
 induction l0 with
 |nil =>exact .refl _
 |cons y r ih =>
  show List.Perm (if x<y then x::y::r else y::insI x r) _
  split
  ·exact .refl _
  ·exact ((ih).cons y).trans (.swap x y r)
theorem sortI_perm:∀ l:List Int,(zxB l).Perm l:=by
 intro l0
 induction l0 with
 |nil =>exact .refl _
 |cons x r ih =>exact (zvC x _).trans ((ih).cons x)
theorem insI_sorted (x:Int):∀ l:List Int,l.Pairwise (· ≤ ·)→(insI x l).Pairwise (· ≤ ·):=by
 intro l0
 induction l0 with
 |nil =>
  intro _;exact List.pairwise_singleton _ _
 |cons y r ih =>
  intro h;have ⟨h1,h2⟩:=List.pairwise_cons.mp h;show List.Pairwise _ (if x<y then x::y::r else y::insI x r)
  split
  ·rename_i hxy
   refine List.pairwise_cons.mpr ⟨fun z hz=> ?_,h⟩
   rcases mN hz with rfl|hz
   ·omega
   ·have:=h1 z hz; omega
  ·rename_i hxy
   refine List.pairwise_cons.mpr ⟨fun z hz=> ?_,ih h2⟩
   rcases mN ((zvC x r).mem_iff.mp hz) with rfl|hz
   ·omega
   ·exact h1 z hz
theorem sortI_sorted:∀ l:List Int,(zxB l).Pairwise (· ≤ ·):=by
 intro l0
 induction l0 with
 |nil =>exact .nil
 |cons x r ih =>exact insI_sorted x _ (ih)
theorem yjA:∀ a b:List Nat,ltS a b=decide (a<b):=by
 intro l0
 induction l0 with
 |nil =>
  intro l1;cases l1 with
  |nil =>rw [StrLaws.lt_nil_nil]; rfl
  |cons b t =>rw [StrLaws.lt_nil_cons]; rfl
 |cons a r ih =>
  intro l1;cases l1 with
  |nil =>rw [StrLaws.lt_cons_nil]; rfl
  |cons b t =>
   rw [StrLaws.lt_cons_cons,← ih t];show (if a<b then true else if a=b then ltS r t else false)=_
   by_cases h:a<b
   ·simp [h]
   ·by_cases h2:a=b
    ·simp [h2]
    ·simp [h,h2]
noncomputable def leS (a b:List Nat):Prop:=ltS b a=false
theorem zxJ (a b:List Nat):leS a b↔¬ b<a:=by unfold leS; rw [yjA]; simp
theorem leS_anti (h:leS a b) (h':leS b a):a=b:=by
 rw [zxJ] at h h';exact List.le_antisymm h h'
theorem zuF (h:leS a b) (h':leS b c):leS a c:=by
 rw [zxJ] at h h' ⊢;exact List.le_trans h h'
theorem zuG (h:ltS a b=true):leS a b:=by
 rw [zxJ];rw [yjA] at h;exact List.lt_asymm (of_decide_eq_true h)
theorem zvB (x:List Nat):∀ l:List (List Nat),(insS x l).Perm (x::l):=by
 intro l0
 induction l0 with
 |nil =>exact .refl _
 |cons y r ih =>
  show List.Perm (if ltS x y=true then x::y::r else y::insS x r) _
  split
  ·exact .refl _
  ·exact ((ih).cons y).trans (.swap x y r)
theorem sortS_perm:∀ l:List (List Nat),(wC l).Perm l:=by
 intro l0
 induction l0 with
 |nil =>exact .refl _
 |cons x r ih =>exact (zvB x _).trans ((ih).cons x)
theorem insS_sorted (x:List Nat):∀ l:List (List Nat),l.Pairwise leS→(insS x l).Pairwise leS:=by
 intro l0
 induction l0 with
 |nil =>
  intro _;exact List.pairwise_singleton _ _
 |cons y r ih =>
  intro h;have ⟨h1,h2⟩:=List.pairwise_cons.mp h;show List.Pairwise _ (if ltS x y=true then x::y::r else y::insS x r)
  split
  ·rename_i hxy
   refine List.pairwise_cons.mpr ⟨fun z hz=> ?_,h⟩
   rcases mN hz with rfl|hz
   ·exact zuG hxy
   ·exact zuF (zuG hxy) (h1 z hz)
  ·rename_i hxy
   refine List.pairwise_cons.mpr ⟨fun z hz=> ?_,ih h2⟩
   rcases mN ((zvB x r).mem_iff.mp hz) with rfl|hz
   ·exact Bool.eq_false_iff.mpr hxy
   ·exact h1 z hz
theorem sortS_sorted:∀ l:List (List Nat),(wC l).Pairwise leS:=by
 intro l0
 induction l0 with
 |nil =>exact .nil
 |cons x r ih =>exact insS_sorted x _ (ih)
theorem ltCps_ltS (a b:List Nat):Spec.ltCps a b=ltS a b:=by rw [ltCps_eq,yjA]
theorem rising_leS:∀ (p:Str) (l:List Str),risingS p l=true→((p::l).map (·.cps.toList)).Pairwise leS:=by
 intro p l1
 induction l1 generalizing p with
 |nil =>
  intro _
  simp
 |cons x r ih =>
  intro h;simp only [risingS,Bool.and_eq_true,Bool.not_eq_true'] at h;have ih:=ih x h.2;simp only [List.map_cons] at ih ⊢;have hpx:leS p.cps.toList x.cps.toList:=by unfold leS; rw [← ltCps_ltS]; exact h.1
  refine List.pairwise_cons.mpr ⟨fun z hz=> ?_,ih⟩
  rcases mN hz with rfl|hz
  ·exact hpx
  ·exact zuF hpx ((List.pairwise_cons.mp ih).1 z hz)
theorem sorted_leS (l:List Str) (h:sortedS l=true):(l.map (·.cps.toList)).Pairwise leS:=by
 cases l with
 |nil=>simp
 |cons x r=>exact rising_leS x r h
theorem ints_vrs (h:IntsAre xs ns):VRs G fz μ (ns.map .int) xs :=
 IntsAre.rec (motive:=fun xs ns _=>VRs G fz μ (ns.map .int) xs) trivial (fun n t _ _ _ ih=>⟨.int n t,ih⟩) h
theorem strs_vrs (h:StrsAre xs ss):(∀ x∈ss,x.cps.size≤SZ)→VRs G fz μ ((ss.map (·.cps.toList)).map .str) xs :=
 StrsAre.rec (motive:=fun xs ss _=>(∀ x∈ss,x.cps.size≤SZ)→VRs G fz μ ((ss.map fun x:Str=>x.cps.toList).map .str) xs) (fun _=>trivial) (fun y t _ _ _ ih z=>⟨.str y t (z y mQ),ih fun x hx=>z x (mC _ hx)⟩) h
theorem ycC {K:Type} [DecidableEq K] {knd:KeyKind prog w K} {kvs:List (K×Value)} (hl:vs.length=kvs.length) (h:∀ (j:Nat) (v:Value),vs[j]? =some v→∃ k x,kvs[j]? =some (k,x)∧knd.is k v=true):All2 (fun v k=>knd.is k v=true) vs (kvs.map (·.1)) :=
 zdA (hl.trans (List.length_map _).symm) fun i v k hv hk=>by
  refine oEEA (h i v hv) fun k' x e q=> ?_;rw [List.getElem?_map,e] at hk;rw [← Option.some.inj hk]; exact q
theorem keysI_are (prog:Program) (w:World) {kvs:List (Int×Value)} {vs:List Value} (hl:vs.length=kvs.length) (h:∀ (j:Nat) (v:Value),vs[j]? =some v→∃ k x,kvs[j]? =some (k,x)∧(intKind prog w).is k v=true):IntsAre vs (kvs.map (·.1)) :=
 yJ (M:=IntsAre) .nil (fun {a b _ _} q _ ih=>by obtain ⟨t,e⟩:=Value.isInt_shape (v:=a) q; exact e▸ .cons b t ih) (ycC hl h)
theorem keysS_are (prog:Program) (w:World) {kvs:List (Str×Value)} {vs:List Value} (hl:vs.length=kvs.length) (h:∀ (j:Nat) (v:Value),vs[j]? =some v→∃ k x,kvs[j]? =some (k,x)∧(PySem.strKind prog w).is k v=true):StrsAre vs (kvs.map (·.1)) :=
 yJ (M:=StrsAre) .nil (fun {a b _ _} q _ ih=>by obtain ⟨t,e⟩:=Value.isStrOf_shape (v:=a) q; exact e▸ .cons b t ih) (ycC hl h)
theorem sorted_same (ho:h.get? D=some (seqObj "list" vs.toArray n)):∀ b o,b≠D→h.get? b=some o→(sortedHeap h D vs out).get? b=some o :=
 fun b o hb e=>(sortedHeap_old hb (Heap.lt_size e)).trans e
end
end Mine
namespace Mine
section
variable {G:Gl} {φ:Fx} {k:Nat} {R fz fz₁:zB} {μ μ₁:Mu} {loc:Loc} {H:Hp} {s:Shared} {Γ:MP}
theorem yaD (D:Good G φ k) (O:GOk G) (S:Sat G φ R fz μ loc H s) {Q:Value→Shared→Prop} {vs:List Value} {B:Addr} {h':Heap} {tk:Nat} {g:Heap} {m:Str→Option Value} (F:Fr g φ.L s.heap m) (F':Fr g φ.L h' m) (N':News g φ.L h' ((B,PySem.W.listOf vs.toArray 0)::w4 g s.heap φ.L)) (hB:∀ q∈w4 g s.heap φ.L,q.1<B)
  (up:∀ h' tk new,Fr g φ.L h' m→News g φ.L h' (new++w4 g s.heap φ.L)→(∀ p∈new,s.heap.get? p.1=none)→Sat G φ R (new++fz) μ loc H {s with heap:=h',toks:=tk})
  {out:Array Value} (hQ:∀ e,Sat G φ R ((B,lstO out.toList e)::fz) μ loc H {s with heap:=sortedHeap h' B vs out,toks:=tk}→Q (.ref B) {s with heap:=sortedHeap h' B vs out,toks:=tk}) :
  Q (.ref B) {s with heap:=sortedHeap h' B vs out,toks:=tk}:=by
 refine oAA (N' _ mQ) fun hb1 hb2 hb3=> ?_;have ho:h'.get? B=some (seqObj "list" vs.toArray 0):=hb1;obtain ⟨e,he⟩:=sortedHeap_at (out:=out) ho;have keep:∀ b o,b≠B→h'.get? b=some o→(sortedHeap h' B vs out).get? b=some o:=sorted_same ho;have nb:∀ p∈w4 g s.heap φ.L,p.1≠B:=fun p hp=>Nat.ne_of_lt (hB p hp);refine hQ e (up _ tk [(B,_)] ⟨F'.ns.at' fun o ho'=>keep _ o (fun z=>hb2 z.symm) ho',fun b o hb=>keep b o (fun z=>by rw [z,hb3] at hb; cases hb) (F'.keep b o hb),F'.above⟩ (fun p hp=> ?_) fun p hp=> ?_)
 ·rcases mN hp with rfl|hp
  ·exact ⟨he,hb2,hb3⟩
  ·have hN:=N' p (mC _ hp)
   exact ⟨keep _ _ (nb p hp) hN.1,hN.2⟩
 ·rw [List.mem_singleton] at hp; subst hp
  cases q:s.heap.get? B with
  |none=>rfl
  |some o=>exact absurd rfl (nb (B,o) (xS.mpr ⟨hb2,hb3,q⟩))
theorem biSrt_el {M:PV→Option PV→Prop} (h0:∀ v,M v none) (hi:∀ ks vs,M (.dicI ks vs) (if ks.length<64 then some (.lst ((zxB ks).map .int)) else none)) (hs:∀ ks vs,M (.dicS ks vs) (if ks.length<64 then some (.lst ((wC ks).map .str)) else none)) (v:PV):M v (biSrt v):=by
 cases v <;> first|exact h0 _|exact hi _ _|exact hs _ _
theorem sort_ints (D:Good G φ k) (O:GOk G) (S:Sat G φ R fz μ loc H s) {d:Addr} {kvs:List (Int×Value)} (dd:s.heap.DictOf (intKind G.prog G.w) d kvs) (z:zP d∧kvs.length≤SZ) (hz:kvs.length<64) :
  wpAny (model G.prog G.w) φ.A (call (.builtin "sorted") [.ref d]) (LQ (wV G) G φ R fz μ loc H (.lst ((zxB (kvs.map (·.1))).map .int))) (fun _ _=>False) s:=by
 refine zaI (S.whole D O) fun g m F N _ _ _ up=> ?_;obtain ⟨ep,hat⟩:=dd.dictAt;refine kdu_sorted (kdl_dict (knd:=intKind G.prog G.w) (kvs:=kvs) (ep:=ep) z.1) D.hh F N hat (Nat.le_trans z.2 y7) fun B h' tk vs F' N' hB hl hv=> ?_;have ho:h'.get? B=some (seqObj "list" vs.toArray 0):=(N' _ mQ).1;refine wpAny_call_entry (s:={s with heap:=h',toks:=tk}) slot_list_sort ⟨_,ho,rfl⟩ entry_list_sort (list_sort_tree ho (keysI_are _ _ hl hv) (hl▸hz) fun out ns' a1 a2 a3=>⟨_,rfl,?_⟩) (args_list_sort _);refine yaD D O S F F' N' hB up fun e S'=>⟨_,μ,Ext.cons,S',?_⟩;rw [← ksm_same (a2.trans (sortI_perm _).symm) a3 (sortI_sorted _)];exact zrJ (.inr mQ) (by rw [a1.length,a2.length_eq,List.length_map]; exact z.2) (ints_vrs a1)
theorem sort_strs (D:Good G φ k) (O:GOk G) (S:Sat G φ R fz μ loc H s) {d:Addr} {kvs:List (Str×Value)} (dd:s.heap.DictOf (PySem.strKind G.prog G.w) d kvs) (z:zP d∧kvs.length≤SZ∧xH kvs) (hz:kvs.length<64) :
  wpAny (model G.prog G.w) φ.A (call (.builtin "sorted") [.ref d]) (LQ (wV G) G φ R fz μ loc H (.lst ((wC (kvs.map (·.1.cps.toList))).map .str))) (fun _ _=>False) s:=by
 refine zaI (S.whole D O) fun g m F N _ _ _ up=> ?_;obtain ⟨ep,hat⟩:=dd.dictAt;refine kdu_sorted (kdl_dict (knd:=PySem.strKind G.prog G.w) (kvs:=kvs) (ep:=ep) z.1) D.hh F N hat (Nat.le_trans z.2.1 y7) fun B h' tk vs F' N' hB hl hv=> ?_;have hI:=keysS_are _ _ hl hv;have ho:h'.get? B=some (seqObj "list" vs.toArray 0):=(N' _ mQ).1;refine wpAny_call_entry (s:={s with heap:=h',toks:=tk}) slot_list_sort ⟨_,ho,rfl⟩ entry_list_sort (list_sort_treeK strKind_oneLt ho hI.keysOf (fun v₁ v₂ rest e=>keyKind_strs (e▸hI)) (hl▸hz) fun st' hp hs=>⟨_,rfl,?_⟩) (args_list_sort _);refine oEAA (sorted_out_str hI hp hs) fun ss' h1 h2 h3=> ?_;refine yaD D O S F F' N' hB up fun e S'=>⟨_,μ,Ext.cons,S',?_⟩;have p1:(ss'.map (·.cps.toList)).Perm (wC (kvs.map (·.1.cps.toList))):=by
  refine (h2.map (·.cps.toList)).trans ?_;rw [List.map_map]; exact (sortS_perm _).symm
 rw [← p1.eq_of_pairwise (fun x y _ _ a b=>leS_anti a b) (sorted_leS _ h3) (sortS_sorted _)];exact zrJ (.inr mQ) (by rw [h1.length,h2.length_eq,List.length_map]; exact z.2.1) (strs_vrs h1 fun x hx=>by refine oEA (List.mem_map.mp (h2.mem_iff.mp hx)) fun p hp e=> ?_; exact e▸z.2.2 p hp)
theorem lf_sorted (D:Good G φ k) (O:GOk G) (S:Sat G φ R fz μ loc H s) {a:PV} {v:Value} (ha:VR G fz μ a v):On (biSrt a) fun r=>wpAny (model G.prog G.w) φ.A (call (.builtin "sorted") [v]) (LQ (wV G) G φ R fz μ loc H r) (fun _ _=>False) s :=
 biSrt_el (M:=fun a o=>VR G fz μ a v→On o fun r=>wpAny (model G.prog G.w) φ.A (call (.builtin "sorted") [v]) (LQ (wV G) G φ R fz μ loc H r) (fun _ _=>False) s) (fun _ _=>trivial)
  (fun ks vs ha=>On.ite fun hz=>by
   refine xJ (S.dicI D ha) fun kvs d e dd z hk q=> ?_;rw [hk,List.length_map] at hz;rw [e,hk]; exact sort_ints D O S dd z hz)
  (fun ks vs ha=>On.ite fun hz=>by
   refine xJ (S.dicS D ha) fun kvs d e dd z hk q=> ?_;rw [hk,List.length_map] at hz;rw [e,hk]; exact sort_strs D O S dd z hz) a ha
theorem lstV_el {M:PV→Option (List PV)→Prop} (h0:∀ v,M v none) (h1:∀ vs,M (.lst vs) (some vs)) (h2:∀ i,M (.ref i) (lstO' (zA H i))) (v:PV):M v (lstV v H):=by
 cases v <;> first|exact h0 _|exact h1 _|exact h2 _
theorem lstO_el {M:PO→Option (List PV)→Prop} (h0:∀ v,M v none) (h1:∀ vs,M (.lst vs) (some vs)) (v:PO):M v (lstO' v):=by cases v <;> first|exact h0 _|exact h1 _
theorem yjB (D:Good G φ k) (S:Sat G φ R fz μ loc H s) {P:Value→List PV→Prop} {a:PV} {v:Value} (ha:VR G fz μ a v) (h:∀ l vs vals n,s.heap.get? l=some (lstO vals n)→vals.length≤SZ→VRs G fz μ vs vals→P (.ref l) vs):On (lstV a H) (P v) :=
 lstV_el (H:=H) (M:=fun a o=>VR G fz μ a v→On o (P v)) (fun _ _=>trivial)
  (fun vs ha=>by
   refine VR.lst_el ha fun vals n l hx z q=> ?_;exact h l vs vals n (S.P D hx) z q)
  (fun i ha=>by
   refine VR.ref_el ha fun l d hm=> ?_;refine lstO_el (M:=fun o r=>zA H i=o→On r (P (.ref l))) (fun _ _=>trivial) (fun vs hi=> ?_) _ rfl;refine zbH (S.mlst D hm hi) fun _ vals n ho z q=> ?_;exact h l vs vals n ho z q) a ha
end
section
variable {G:Gl} {φ:Fx} {k:Nat} {R fz fz₁:zB} {μ μ₁:Mu} {loc:Loc} {H:Hp} {s:Shared} {Γ:MP}
theorem look_bytes:typeLookup (.type "bytes") "__bytes__" =pure (some (.builtin "bytes.__bytes__")):=by rw [typeLookup_type,builtinLookup_eq_fast]; kernel_rfl
theorem meets_bytes_same (b:Array UInt8) (t:Tok):Meets (Builtin.«bytes.__new__» ⟨[.type "bytes",.bytes b t],[]⟩) (fun _ R s=>R (.ok (.ret (.bytes b t))) s):=by
 refine .of_wp fun prog w A R s h=> ?_;unfold Builtin.«bytes.__new__»;refine wpAny_bind (wpAny_of_eq (a:=true) rfl ?_);refine bm_if_false rfl ?_;refine wpAny_bind (wpAny_of_eq F.bm_sub ?_);refine bm_if_false rfl ?_;refine wpAny_bind (wpAny_of_eq (F.bm_bind _) ?_);refine wpAny_bind (wpAny_of_eq (a:=()) rfl ?_);refine wpAny_bind (wpAny_of_eq (a:=()) rfl ?_);refine bm_if_false rfl ?_;refine wpAny_bind (wpAny_specialOf (PySem.W.typeIs_bytes _ _ _) look_bytes ?_);refine wpAny_bind (wpAny_rule ?_);refine wpAny_bind (wpAny_typeOf (PySem.W.typeIs_bytes _ _ _) ?_);refine bm_if_true (by decide) ?_;exact wpAny_pure ⟨_,rfl,h⟩
theorem ztJ {M:List PV→Option (List Nat)→Prop} (h0:∀ vs,M vs none) (hn:M [] (some [])) (hc:∀ (n:Nat) vs,M (.int n::vs) (if n<256 then (zhB vs).map (n:: ·) else none)):∀ vs,M vs (zhB vs):=by
 intro l0;cases l0 with
 |nil =>exact hn
 |cons v vs =>
  cases v with
  |int i=>cases i with
   |ofNat n=>exact hc n vs
   |negSucc n=>exact h0 _
  |_=>exact h0 _
theorem octets_on:∀ {vs:List PV} {xs:List Value},VRs G fz μ vs xs→On (zhB vs) fun b=>IntsAre xs (b.map fun n=>((n:Nat):Int))∧∀ n∈b,n<256:=by
 intro vs l1
 induction l1 generalizing vs with
 |nil =>
  intro q;exact ztJ (M:=fun vs o=>VRs G fz μ vs []→On o fun b=>IntsAre [] (b.map fun n=>((n:Nat):Int))∧∀ n∈b,n<256) (fun _ _=>trivial) (fun _=>⟨.nil,fun _ h=>absurd h List.not_mem_nil⟩) (fun _ _ q=>q.elim) vs q
 |cons x xs ih =>
  intro q;exact ztJ (M:=fun vs o=>VRs G fz μ vs (x::xs)→On o fun b=>IntsAre (x::xs) (b.map fun n=>((n:Nat):Int))∧∀ n∈b,n<256) (fun _ _=>trivial) (fun q=>q.elim) (fun n vs q=>On.ite' fun hn=>On.map (by
   have h:=ih q.2;refine On.of fun b hb=> ?_;have h':=h.get hb;refine VR.int_el q.1 fun t=> ?_;exact ⟨.cons _ t h'.1,fun m hm=>(mN hm).elim (fun e=>e▸hn) (h'.2 m)⟩)) vs q
theorem byte_back {n:Nat} (h:n<256):((n:Int).toNat.toUInt8).toNat=n:=by
 show (UInt8.ofNat n).toNat=n;rw [UInt8.toNat_ofNat']; exact Nat.mod_eq_of_lt h
theorem bytes_back:∀ {b:List Nat},(∀ n∈b,n<256)→(b.map fun n:Nat=>((n:Int).toNat.toUInt8).toNat)=b:=by
 intro l0
 induction l0 with
 |nil =>
  intro _;exact rfl
 |cons n b ih =>
  intro h;rw [List.map_cons,byte_back (h n mQ),ih fun m hm=>h m (mC _ hm)]
theorem lf_octets (D:Good G φ k) (S:Sat G φ R fz μ loc H s) {vs:List PV} {vals:List Value} {l:Addr} (hl:s.heap.IsList l vals.toArray) (z:vals.length≤SZ) (q:VRs G fz μ vs vals) :
  On (zhB vs) fun b=>wpAny (model G.prog G.w) φ.A (call (.type "bytes") [.ref l]) (LQ (wV G) G φ R fz μ loc H (.bytes b)) (fun _ _=>False) s:=On.of fun b hb=>by
 obtain ⟨hi,hr⟩:=(octets_on q).get hb;have hlen:b.length=vals.length:=by rw [hi.length,List.length_map]
 refine call_bytes_ints hl hi (fun n hn=>by refine oEA (List.mem_map.mp hn) fun m hm e=> ?_; exact e▸⟨Int.natCast_nonneg m,Int.ofNat_lt.mpr (hr m hm)⟩) (Nat.le_trans z y7) D.hh fun h' t k hk=>⟨fz,μ,.refl,S.keeps hk,zcC ?_ (by rw [byteArr_size,List.length_map,hlen]; exact z)⟩;unfold byteArr;rw [List.map_map,List.map_map];exact bytes_back hr
theorem biByt_el {M:PV→Option PV→Prop} (h1:∀ l,M (.bytes l) (some (.bytes l))) (h2:∀ v,M v ((lstV v H).bind fun vs=>(zhB vs).map .bytes)) (v:PV):M v (biByt v H):=by
 cases v <;> first|exact h1 _|exact h2 _
theorem lf_bytes (D:Good G φ k) (O:GOk G) (S:Sat G φ R fz μ loc H s) {a:PV} {v:Value} (ha:VR G fz μ a v):On (biByt a H) fun r=>wpAny (model G.prog G.w) φ.A (call (.type "bytes") [v]) (LQ (wV G) G φ R fz μ loc H r) (fun _ _=>False) s :=
 biByt_el (H:=H) (M:=fun a o=>VR G fz μ a v→On o fun r=>wpAny (model G.prog G.w) φ.A (call (.type "bytes") [v]) (LQ (wV G) G φ R fz μ loc H r) (fun _ _=>False) s)
  (fun l ha=>by
   refine VR.bytes_el ha fun x t hx z=> ?_;exact callType_new F.bm_called (by decide) (F.bm_typeCall _) (F.bm_newCall _) (fun obj=>F.args_object_init_2 obj _) F.bm_entry (meets_bytes_same x t) ⟨PySem.W.typeIs_bytes _ _ _,LQ.here S (zcC hx z)⟩)
  (fun a ha=>On.bind (yjB D S (P:=fun v vs=>On ((zhB vs).map .bytes) fun r=>wpAny (model G.prog G.w) φ.A (call (.type "bytes") [v]) (LQ (wV G) G φ R fz μ loc H r) (fun _ _=>False) s) ha fun l vs vals n ho z q=>On.map (lf_octets D S ⟨_,ho,rfl,n,rfl⟩ z q))) a ha
theorem lf_tuple (D:Good G φ k) (O:GOk G) (S:Sat G φ R fz μ loc H s) (ha:VR G fz μ a v):On (lstV a H) fun vs=>wpAny (model G.prog G.w) φ.A (call (.type "tuple") [v]) (LQ (wV G) G φ R fz μ loc H (.tup vs)) (fun _ _=>False) s :=
 yjB D S (P:=fun v vs=>wpAny (model G.prog G.w) φ.A (call (.type "tuple") [v]) (LQ (wV G) G φ R fz μ loc H (.tup vs)) (fun _ _=>False) s) ha fun l vs vals n ho z q =>call_tuple_list (items:=vals.toArray) ⟨_,ho,rfl,n,rfl⟩ (fun h' hk=>LQ.push (S.keeps hk (tk:=s.toks)) (zwI (n:=0) (.inr mQ) z (VRs.mono Ext.cons q))) (Nat.le_trans z y7)
theorem biStr_el {M:PV→Option PV→Prop} (h0:∀ v,M v none) (h:∀ i,M (.int i) (if i.natAbs≤10 ^ 60 then some (.str (yG i)) else none)) (v:PV):M v (biStr v):=by cases v <;> first|exact h0 _|exact h _
theorem biChr_el {M:PV→Option PV→Prop} (h0:∀ v,M v none) (h:∀ n:Nat,M (.int n) (if n<256 then some (.str [n]) else none)) (v:PV):M v (biChr v):=by
 cases v with
 |int i=>cases i with
  |ofNat n=>exact h n
  |negSucc n=>exact h0 _
 |_=>exact h0 _
noncomputable def biOf (b:Nat):Value:=match b with
 |0=>.builtin "len" |1=>.type "str" |2=>.builtin "chr" |3=>.type "bytes" |4=>.type "tuple" |_=>.builtin "sorted"
theorem lf_biO (D:Good G φ k) (O:GOk G) (S:Sat G φ R fz μ loc H s) {a:PV} {v:Value} (ha:VR G fz μ a v):∀ b,On (biV b a H) fun r=>wpAny (model G.prog G.w) φ.A (call (biOf b) [v]) (LQ (wV G) G φ R fz μ loc H r) (fun _ _=>False) s
 |0=>On.map (On.of fun n e=>lf_len D S ha e)
 |1=>biStr_el (M:=fun a o=>VR G fz μ a v→On o fun r=>wpAny (model G.prog G.w) φ.A (call (.type "str") [v]) (LQ (wV G) G φ R fz μ loc H r) (fun _ _=>False) s) (fun _ _=>trivial) (fun i ha=>On.ite fun h=>lf_str S ha h) a ha
 |2=>biChr_el (M:=fun a o=>VR G fz μ a v→On o fun r=>wpAny (model G.prog G.w) φ.A (call (.builtin "chr") [v]) (LQ (wV G) G φ R fz μ loc H r) (fun _ _=>False) s) (fun _ _=>trivial) (fun n ha=>On.ite fun h=>lf_chr S ha h) a ha
 |3=>lf_bytes D O S ha
 |4=>On.map (lf_tuple D O S ha)
 |5=>lf_sorted D O S ha
 |_+6=>trivial
theorem lf_bi (D:Good G φ k) (O:GOk G) (S:Sat G φ R fz μ loc H s) (ha:VR G fz μ a v) (e:biV b a H=some r) :
  wpAny (model G.prog G.w) φ.A (call (biOf b) [v]) (LQ (wV G) G φ R fz μ loc H r) (fun _ _=>False) s:=(lf_biO D O S ha b).get e
end
theorem miss_keys:typeLookup (.type "list") "keys" =pure none:=by rw [typeLookup_type,builtinLookup_eq_fast]; kernel_rfl
section
variable {prog:Program} {w:World} {A:Around} {E:Value→Shared→Prop} {s:Shared}
theorem list_no_keys (hx:s.heap.get? a=some (lstO vals k)) (hA:A.handled=none)
  (h:∀ h' tk,(∀ b o,s.heap.get? b=some o→h'.get? b=some o)→Q none {s with heap:=h',toks:=tk}):wpAny (model prog w) A (getAttr? (.ref a) "keys") Q E s:=by
 obtain ⟨hp,g,d,tk,os⟩:=s;have hT:∀ tk',(⟨hp,g,d,tk',os⟩:Shared).TypeIs (.ref a) "list" :=fun _=>⟨_,hx,rfl⟩;have f1:=sub_AttributeError;have f3:=F.slot_list_getattribute.lookup;have f4:=F.slot_list_getattribute.bind (.ref a);have f5:=am_list_getattr_none;have hmiss:=miss_keys;unfold getAttr? getAttrBy? getAttrBy;refine wpAny_bind (wpAny_mkText ?_);refine wpAny_bind (wpAny_attempt ?_)
 repeat (any_goals (first|assumption|exact hT _|((with_reducible show wpAny _ _ (call (Value.builtin "list.__getattribute__") _ _) _ _ _); refine call_meets F.slot_list_getattribute (hT _) am_entry_list_getattribute (F.args_list_getattribute_2 _ _) (meets_getattribute_miss_list a vals.toArray k #[] "keys" _ hmiss (by decide) (by decide +kernel)) ⟨hx,hA,fun h' tk' e hx'=> ?_⟩)|wp_step))
 refine oEE (hx'.there) fun t' u' he=> ?_;show wpAny _ _ (getattributeRaised _ _ _ _ _ _ _) _ _ _;unfold getattributeRaised
 repeat (any_goals (first|assumption|wp_step))
 exact h _ _ hx'.keeps
theorem zbJ:entryFor table "dict.update.loop" =some Builtin.«dict.update.loop» :=by first|exact entryFor_of_fast (by kernel_rfl)|exact entryFor_of_tree (by kernel_rfl)
theorem yY:plainId "dict.update.loop" =true:=by decide +kernel
noncomputable def yeF {K:Type} [DecidableEq K] (knd:KeyKind prog w K) (h:Heap) (v:Value) (p:K×Value):Prop:=∃ a key n,v= .ref a∧h.get? a=some (tupO [key,p.2] n)∧knd.is p.1 key=true
theorem stored_take {K:Type} [DecidableEq K] {kvs:List (K×Value)} {i:Nat} {p:K×Value} (hn:(kvs.map (·.1)).Nodup) (hpi:kvs[i]? =some p):stored (kvs.take i) p.1 p.2=kvs.take (i+1):=by
 have hi:i<kvs.length:=(List.getElem?_eq_some_iff.mp hpi).1;have hnot:p.1∉(kvs.take i).map (·.1):=by
  intro hm;obtain ⟨j,hj,hje⟩:=List.mem_iff_getElem.mp hm;simp only [List.length_map,List.length_take] at hj;have h1:=List.pairwise_iff_getElem.mp hn j i (by rw [List.length_map]; lia) (by rw [List.length_map]; exact hi) (by lia);have hpi':kvs[i]=p:=by rw [List.getElem?_eq_getElem hi] at hpi; exact Option.some.inj hpi
  simp only [List.getElem_map,List.getElem_take] at hje h1;exact h1 (by rw [hje,hpi'])
 unfold stored;rw [if_neg,List.take_add_one,hpi]
 ·rfl
 ·rw [List.any_eq_true]
  rintro ⟨q,hq,he⟩
  exact hnot (List.mem_map.mpr ⟨q,hq,of_decide_eq_true he⟩)
theorem upd_loop {K:Type} [DecidableEq K] {knd:KeyKind prog w K} {R:Result→Shared→Prop} {l I d:Addr} {vals:List Value} {kvs:List (K×Value)} (hh:A.handled=none) (hz:vals.length≤SZ) (hId:I≠d) (hlI:l≠I) (hld:l≠d) (hn:(kvs.map (·.1)).Nodup)
  (hl:vals.length=kvs.length) :
  ∀ (k i:Nat) (s:Shared),vals.length-i=k→i≤vals.length→s.heap.IsList l vals.toArray→s.heap.IsListIter I l i→s.heap.DictOf knd d (kvs.take i)→(∀ (j:Nat) v p,vals[j]? =some v→kvs[j]? =some p→∃ a,v= .ref a∧a≠I∧a≠d∧yeF knd s.heap v p) →
   (∀ h' k',(∀ b o,b≠I→b≠d→s.heap.get? b=some o→h'.get? b=some o)→h'.DictOf knd d kvs→R (.ok (.ret .none)) {s with heap:=h',toks:=k'}) →
   codeAny (model prog w) A (.builtin "dict.update.loop" ⟨[.ref d,.ref I,rawInt i,.none],[]⟩) R s:=by
 intro k
 induction k with
 |zero =>
  intro i s hk hle hL hit hD hp hR;have hin:i=vals.length:=Nat.le_antisymm hle (Nat.sub_eq_zero_iff_le.mp hk);subst hin;refine codeAny_builtin zbJ ?_;rw [Around.under_plainId yY _];show wpAny _ A.in1 (pyNext (.ref I) >>= _) _ _ s;refine wpAny_bind (wpAny_pyNext_list_end hh hit hL (by simp) fun h' he=> ?_);show wpAny _ _ (Builtin.Dict.addKeywords d [] >>= _) _ _ _;refine wpAny_bind (wpAny_pure ?_);refine wpAny_pure (hR h' _ (fun b o hb _ e=>he b o hb e) ?_);rw [hl,List.take_length] at hD;refine wQ hD fun o es ep ho r=> ?_; (try clear hD);exact ⟨o,es,ep,he _ _ (Ne.symm hId) ho,r⟩
 |succ k ih =>
  intro i s hk hle hL hit hD hp hR;have hlt:i<vals.length:=Nat.lt_of_sub_eq_succ hk;have hi:i<kvs.length:=hl▸hlt;obtain ⟨x,hx⟩:∃ x,vals[i]? =some x:=⟨vals[i]'hlt,List.getElem?_eq_getElem hlt⟩;obtain ⟨p,hpi⟩:∃ p,kvs[i]? =some p:=⟨kvs[i]'hi,List.getElem?_eq_getElem hi⟩;refine znI (hp i x p hx hpi) fun a o1_ haI had a' key n e' ho hkey=> ?_; obtain rfl:=o1_;cases e';refine codeAny_builtin zbJ ?_;rw [Around.under_plainId yY _];show wpAny _ A.in1 (pyNext (.ref I) >>= _) _ _ s;refine wpAny_bind (wpAny_pyNext_list_item (x:=.ref a) hit hL (by simpa using hx) fun h' hit' hs=> ?_);have ho':h'.get? a=some (tupO [key,p.2] n):=(hs.2 a haI).trans ho;have hT':(⟨h',s.gens,s.drawn,s.toks,s.os⟩:Shared).TypeIs (.ref a) "tuple" :=⟨_,ho',rfl⟩;refine wpAny_bind (wpAny_holding ?_);refine wpAny_bind (wpAny_tryCatch ?_);unfold Builtin.Dict.pairItems;refine wpAny_bind (wpAny_typeOf hT' ?_);rw [if_pos (by decide)];refine wpAny_bind (wpAny_seqItems (items:=[key,p.2].toArray) ho' rfl ?_);refine wpAny_pure ?_;show wpAny _ _ (holding [key,p.2] (dictSet d key p.2)) _ _ _;have hD':h'.DictOf knd d (kvs.take i):=by
   refine wQ hD fun o es ep ho r=> ?_; (try clear hD);exact ⟨o,es,ep,(hs.2 _ (Ne.symm hId)).trans ho,r⟩
  refine wpAny_holding (wpAny_dictSet_pairs (s:=⟨h',s.gens,s.drawn,s.toks,s.os⟩) hkey hD' (fun h₂ hD₂ hs₂=> ?_) (Nat.le_trans (List.length_take_le' _ _) (Nat.le_trans (hl▸hz) y7)));refine wpAny_pure ⟨plainId_quiet yY _,?_⟩;rw [stored_take hn hpi] at hD₂;have keep:∀ b o,b≠I→b≠d→s.heap.get? b=some o→h₂.get? b=some o:=fun b o h1 h2 e=>(hs₂.2 b h2).trans ((hs.2 b h1).trans e);refine ih (i+1) ⟨h₂,s.gens,s.drawn,s.toks+1,s.os⟩ (by rw [Nat.sub_succ,hk]; rfl) hlt ?_ ?_ hD₂ (fun j v q hv hq=> ?_) fun h3 k' hk3 hD3=>hR h3 k' (fun b o h1 h2 e=>hk3 b o h1 h2 (keep b o h1 h2 e)) hD3
  ·refine oEA hL fun o ho r=> ?_; (try clear hL)
   exact ⟨o,keep _ _ hlI hld ho,r⟩
  ·refine oEA hit' fun o ho r=> ?_; (try clear hit')
   exact ⟨o,(hs₂.2 I hId).trans ho,r⟩
  ·refine znI (hp j v q hv hq) fun b o1_ hbI hbd b' key' n' e'' hob hk'=> ?_; obtain rfl:=o1_
   cases e'';exact ⟨b,rfl,hbI,hbd,b,key',n',rfl,keep _ _ hbI hbd hob,hk'⟩
end
end Mine
namespace Mine
section
variable {prog:Program} {w:World} {A:Around} {E:Value→Shared→Prop} {s:Shared}
theorem call_dict_pairs {K:Type} [DecidableEq K] {knd:KeyKind prog w K} {l:Addr} {vals:List Value} {n:Nat} {kvs:List (K×Value)} {Q:Value→Shared→Prop} (hh:A.handled=none) (hl:s.heap.get? l=some (lstO vals n)) (hz:vals.length≤SZ)
  (hn:(kvs.map (·.1)).Nodup) (hlen:vals.length=kvs.length) (hp:∀ (j:Nat) v p,vals[j]? =some v→kvs[j]? =some p→yeF knd s.heap v p)
  (h:∀ h' tk,(∀ b o,s.heap.get? b=some o→h'.get? b=some o)→h'.DictOf knd s.heap.objs.size kvs→Q (.ref s.heap.objs.size) {s with heap:=h',toks:=tk}) :
  wpAny (model prog w) A (call (.type "dict") [.ref l]) Q E s:=by
 refine callType_codes (Q₁:=fun obj s₁=>obj= .ref s.heap.objs.size∧s₁={s with heap:=s.heap.push {cls:=.type "dict",data:=.dict #[]}}) F.kt_called_dict (F.kt_typeCall_dict_1 _) F.entry_dict_init (kt_code_dict_new _ ⟨rfl,rfl⟩) ?_
 rintro obj s₁ ⟨rfl,rfl⟩
 have hnew:(s.heap.push {cls:=.type "dict",data:=.dict #[]}).DictOf knd s.heap.objs.size []:=Heap.DictOf.new s.heap;have hl':(s.heap.push {cls:=.type "dict",data:=.dict #[]}).get? l=some (lstO vals n):=Heap.get?_push_of_some _ hl;have hld:l<s.heap.objs.size:=Heap.lt_size hl;refine ⟨hnew.typeIs,F.args_dict_init_2 _ _,?_⟩;unfold Builtin.«dict.__init__»;refine wpAny_bind ?_;unfold Builtin.Dict.selfAndRest;refine wpAny_bind (wpAny_notOrdered_dict hnew.typeIs ?_);show wpAny _ _ (pure (s.heap.objs.size,[Value.ref l])) _ _ _;refine wpAny_pure ?_;show wpAny _ _ (Builtin.Dict.updateFrom "dict.__init__" s.heap.objs.size (.ref l) [] .none) _ _ _;unfold Builtin.Dict.updateFrom;refine wpAny_bind (wpAny_typeOf (T:= "list") ⟨_,hl',rfl⟩ ?_);rw [if_pos (by decide)];refine wpAny_bind (m:=getAttr? (.ref l) "keys") (list_no_keys (A:=A.in1.in1) (s:={s with heap:=s.heap.push {cls:=.type "dict",data:=.dict #[]}}) hl' hh fun h₁ tk₁ k₁=> ?_);rw [if_pos (by rfl)];refine wpAny_bind (wpAny_rule ?_);have hL₁:h₁.IsList l vals.toArray:=⟨_,k₁ _ _ hl',rfl,n,rfl⟩;refine wpAny_bind (wpAny_pyIter_list (s:=⟨h₁,s.gens,s.drawn,tk₁,s.os⟩) hL₁ ?_);have hds:s.heap.objs.size<h₁.objs.size:=by
  refine wQ hnew fun o es ep ho _=> ?_; (try clear hnew);exact Heap.lt_size (k₁ _ _ ho)
 have hls:l<h₁.objs.size:=Heap.lt_size (k₁ _ _ hl');have old:∀ b o,s.heap.get? b=some o→(h₁.push {cls:=.type "list_iterator",data:=.fields #[.ref l,.int 0 0]}).get? b=some o:=fun b o e=>Heap.get?_push_of_some _ (k₁ b o (Heap.get?_push_of_some _ e));refine wpAny_pure ⟨plainId_quiet yY _,?_⟩;refine upd_loop (knd:=knd) (A:=A.in1) (kvs:=kvs) (vals:=vals) (l:=l) (I:=h₁.objs.size) (d:=s.heap.objs.size) hh hz (Nat.ne_of_gt hds) (Nat.ne_of_lt hls) (Nat.ne_of_lt hld) hn hlen vals.length 0 ⟨h₁.push _,s.gens,s.drawn,tk₁,s.os⟩ rfl (Nat.zero_le _) (hL₁.push _)
  ⟨_,Heap.get?_push_size _ rfl,rfl,rfl⟩ ?_ (fun j v p hv hpj=> ?_) fun h' k' hk hD=> ?_
 ·refine wQ hnew fun o es ep ho r=> ?_; (try clear hnew)
  exact ⟨o,es,ep,Heap.get?_push_of_some _ (k₁ _ _ ho),r⟩
 ·refine zY (hp j v p hv hpj) fun a key m o1_ ho hk=> ?_; obtain rfl:=o1_
  have hlt:=Heap.lt_size ho;exact ⟨a,rfl,Nat.ne_of_lt (Nat.lt_trans hlt hds),Nat.ne_of_lt hlt,a,key,m,rfl,old _ _ ho,hk⟩
 ·refine ⟨rfl,h h' k' (fun b o e=> ?_) hD⟩
  have hlt:=Heap.lt_size e;exact hk b o (Nat.ne_of_lt (Nat.lt_trans hlt hds)) (Nat.ne_of_lt hlt) (old b o e)
end
section
variable {G:Gl} {φ:Fx} {k:Nat} {R fz fz₁:zB} {μ μ₁:Mu} {loc:Loc} {H:Hp} {s:Shared} {Γ:MP}
inductive HQ {α β:Type} (W:MW α β) (G:Gl) (φ:Fx) (R fz:zB) (μ:Mu) (loc:Loc) (a:α) (H':Hp) (v:β) (s:Shared):Prop
 |mk (fz':zB) (μ':Mu) (x:Ext fz μ fz' μ') (S:Sat G φ R fz' μ' loc H' s) (w:W.r fz' μ' a v)
theorem Sat.mulen (S:Sat G φ R fz μ loc H s):μ.length=H.length:=by
 obtain ⟨_,m,vm,ce,⟨g,mu,tb,T,F,N,Sh⟩,L⟩:=S;exact Sh.len
theorem zeE:Ext fz μ fz (μ++[x]):=⟨fun _ h=>h,fun i y hi=>by rw [List.getElem?_append_left (List.getElem?_eq_some_iff.mp hi).1]; exact hi⟩
theorem Sat.mpush (S:Sat G φ R fz μ loc H s) (k:∀ b o,s.heap.get? b=some o→h'.get? b=some o) (hd:h'.get? d=some o) (hn:s.heap.get? d=none) (hl:live po) (hp:PoR G fz (μ++[(a,d)]) po a d o) :
  Sat G φ R fz (μ++[(a,d)]) loc (H++[po]) {s with heap:=h',toks:=tk} :=
 by obtain ⟨sm,m,vm,ce,B,L⟩:=S; exact ⟨sm,m,vm,ce,B.push k hd hn hl hp,L.ext zeE⟩
theorem Sat.newRef (S:Sat G φ R fz μ loc H s) (a d:Addr):VR G fz (μ++[(a,d)]) (.ref H.length) (.ref a):=.ref _ a d (by rw [← S.mulen]; simp)
theorem HQ.mpush (S:Sat G φ R fz μ loc H s) (k:∀ b o,s.heap.get? b=some o→h'.get? b=some o) (hd:h'.get? d=some o) (hn:s.heap.get? d=none) (hl:live po) (hp:PoR G fz (μ++[(d,d)]) po d d o) :
  HQ (wV G) G φ R fz μ loc (.ref H.length) (H++[po]) (.ref d) {s with heap:=h',toks:=tk} :=
 ⟨fz,_,zeE,S.mpush k hd hn hl hp,S.newRef d d⟩
theorem Sat.mupd (S:Sat G φ R fz μ loc H s) (hi:zA H i=po) (hl:live po) (hl':live po') (hm:μ[i]? =some (a,d)) (hs:Heap.SameBut d s.heap h') (ho:h'.get? d=some o') (hp:PoR G fz μ po' a d o') :
  Sat G φ R fz μ loc (zF H i po') {s with heap:=h',toks:=tk} :=
 by obtain ⟨sm,m,vm,ce,B,L⟩:=S; exact ⟨sm,m,vm,ce,B.upd (heapAt_live hi hl) hl hl' hm hs ho hp,L⟩
theorem Sat.notMods (D:Good G φ k) (O:GOk G) (S:Sat G φ R fz μ loc H s):zP s.heap.objs.size:=by
 refine xC (S.look D O) fun g m F B X T=> ?_;exact F.notModules (modules_low T.nolimit)
theorem Sat.fresh (S:Sat G φ R fz μ loc H s):s.heap.get? s.heap.objs.size=none:=S.none_
inductive PrOk {K κ:Type} [DecidableEq K] (knd:KeyKind G.prog G.w K) (cd:K→κ) (Z:K→Prop) (fz:zB) (μ:Mu) (s:Shared) (vals:List Value) (q:List κ×List PV):Prop
 |mk (kvs:List (K×Value)) (h1:q.1=kvs.map fun p=>cd p.1) (h2:∀ p∈kvs,Z p.1) (h3:(kvs.map (·.1)).Nodup) (h4:All2 (yeF knd s.heap) vals kvs) (h5:VRs G fz μ q.2 (kvs.map (·.2)))
theorem PrOk.nil {K κ:Type} [DecidableEq K] {knd:KeyKind G.prog G.w K} {cd:K→κ} {Z:K→Prop}:PrOk knd cd Z fz μ s [] ([],[]):=⟨[],rfl,fun _ h=>absurd h List.not_mem_nil,.nil,trivial,trivial⟩
theorem PrOk.cons {K κ:Type} [DecidableEq K] {knd:KeyKind G.prog G.w K} {cd:K→κ} {Z:K→Prop} {q:List κ×List PV} {kk:κ} {k:K} (h:PrOk knd cd Z fz μ s vals q) (hn:kk∉q.1) (e:cd k=kk) (z:Z k) (hp:yeF knd s.heap x (k,y)) (hv:VR G fz μ v y) :
  PrOk knd cd Z fz μ s (x::vals) (kk::q.1,v::q.2):=by
 cases h with
 |mk kvs h1 h2 h3 h4 h5 =>
  refine ⟨(k,y)::kvs,by rw [h1,List.map_cons,e],fun p hp=>(mN hp).elim (fun e=>e▸z) (h2 p),List.nodup_cons.mpr ⟨fun hm=>hn ?_,h3⟩,⟨hp,h4⟩,⟨hv,h5⟩⟩;refine oEA (List.mem_map.mp hm) fun p hp e'=> ?_;rw [h1,← e,← show p.1=k from e'];exact List.mem_map_of_mem (f:=fun p=>cd p.1) hp
theorem ztH {M:List PV→Option (List Int×List PV)→Prop} (h0:∀ vs,M vs none) (hn:M [] (some ([],[]))) (hc:∀ k v r,M (.tup [.int k,v]::r) ((zgJ r).bind fun q=>if k∈q.1 then none else some (k::q.1,v::q.2))):∀ vs,M vs (zgJ vs):=by
 intro l0;cases l0 with
 |nil =>exact hn
 |cons p r =>
  cases p with
  |tup l=>match l with
   |[]=>exact h0 _
   |[a]=>cases a <;> exact h0 _
   |[a,v]=>cases a <;> first|exact h0 _|exact hc _ v r
   |a::_::_::_=>cases a <;> exact h0 _
  |_=>exact h0 _
theorem ztG {M:List PV→Option (List (List Nat)×List PV)→Prop} (h0:∀ vs,M vs none) (hn:M [] (some ([],[]))) (hc:∀ k v r,M (.tup [.str k,v]::r) ((zgI r).bind fun q=>if k∈q.1 then none else some (k::q.1,v::q.2))):∀ vs,M vs (zgI vs):=by
 intro l0;cases l0 with
 |nil =>exact hn
 |cons p r =>
  cases p with
  |tup l=>match l with
   |[]=>exact h0 _
   |[a]=>cases a <;> exact h0 _
   |[a,v]=>cases a <;> first|exact h0 _|exact hc _ v r
   |a::_::_::_=>cases a <;> exact h0 _
  |_=>exact h0 _
theorem yhI (q:VRs G fz μ [a,b] l):∃ x y,l=[x,y]∧VR G fz μ a x∧VR G fz μ b y:=by
 cases l with
 |nil=>exact q.elim
 |cons x l=>cases l with
  |nil=>exact q.2.elim
  |cons y l=>cases l with
   |nil=>exact ⟨x,y,rfl,q.1,q.2.1⟩
   |cons=>exact q.2.2.elim
theorem pairsI_on (D:Good G φ k) (S:Sat G φ R fz μ loc H s):∀ {vs:List PV} {vals:List Value},VRs G fz μ vs vals→On (zgJ vs) (PrOk (intKind G.prog G.w) id (fun _=>True) fz μ s vals):=by
 intro vs l1
 induction l1 generalizing vs with
 |nil =>
  intro q;exact ztH (M:=fun vs o=>VRs G fz μ vs []→On o (PrOk (intKind G.prog G.w) id (fun _=>True) fz μ s [])) (fun _ _=>trivial) (fun _=>.nil) (fun _ _ _ q=>q.elim) vs q
 |cons x xs ih =>
  intro q;exact ztH (M:=fun vs o=>VRs G fz μ vs (x::xs)→On o (PrOk (intKind G.prog G.w) id (fun _=>True) fz μ s (x::xs))) (fun _ _=>trivial) (fun q=>q.elim) (fun k v r q=>On.bind (by
   have ih:=ih q.2;refine On.of fun z hz=>On.iteN fun hnot=> ?_;refine VR.tup_el q.1 fun vals' n a hp _ qq=> ?_;refine zcE (yhI qq) fun y1 y2 el h1 h2=> ?_;rw [el] at hp;obtain ⟨t,e⟩:=h1.int';exact (ih.get hz).cons hnot rfl trivial ⟨a,y1,n,rfl,S.P D hp,e▸intKind_is _ _ _ _⟩ h2)) vs q
theorem pairsS_on (D:Good G φ k) (S:Sat G φ R fz μ loc H s):∀ {vs:List PV} {vals:List Value},VRs G fz μ vs vals→On (zgI vs) (PrOk (PySem.strKind G.prog G.w) (fun x:Str=>x.cps.toList) (fun x=>x.cps.size≤SZ) fz μ s vals):=by
 intro vs l1
 induction l1 generalizing vs with
 |nil =>
  intro q;exact ztG (M:=fun vs o=>VRs G fz μ vs []→On o (PrOk (PySem.strKind G.prog G.w) (fun x:Str=>x.cps.toList) (fun x=>x.cps.size≤SZ) fz μ s [])) (fun _ _=>trivial) (fun _=>.nil) (fun _ _ _ q=>q.elim) vs q
 |cons x xs ih =>
  intro q;exact ztG (M:=fun vs o=>VRs G fz μ vs (x::xs)→On o (PrOk (PySem.strKind G.prog G.w) (fun x:Str=>x.cps.toList) (fun x=>x.cps.size≤SZ) fz μ s (x::xs))) (fun _ _=>trivial) (fun q=>q.elim) (fun k v r q=>On.bind (by
   have ih:=ih q.2;refine On.of fun z hz=>On.iteN fun hnot=> ?_;refine VR.tup_el q.1 fun vals' n a hp _ qq=> ?_;refine zcE (yhI qq) fun y1 y2 el h1 h2=> ?_;rw [el] at hp;refine zcE (h1.str') fun c t e hc zc=> ?_;exact (ih.get hz).cons hnot hc zc ⟨a,y1,n,rfl,S.P D hp,e▸strKind_is _ _ _ _⟩ h2)) vs q
theorem dicV_el {isI:Bool} {M:PV→Option PO→Prop} (h0:∀ v,M v none) (h1:∀ ks vs,isI=true→M (.dicI ks vs) (some (.dicI ks vs))) (h2:∀ ks vs,M (.dicS ks vs) (some (.dicS ks vs)))
  (h3:∀ vs,M (.lst vs) ((zgJ vs).map fun q=>.dicI q.1 q.2)) (h4:∀ vs,M (.lst vs) ((zgI vs).map fun q=>.dicS q.1 q.2)) (v:PV):M v (dicV isI v):=by
 cases isI <;> cases v <;> first|exact h0 _|exact h1 _ _ rfl|exact h2 _ _|exact h3 _|exact h4 _
theorem yjD {K κ:Type} [DecidableEq K] {knd:KeyKind G.prog G.w K} {cd:K→κ} {Z:K→Prop} (D:Good G φ k) (O:GOk G) (S:Sat G φ R fz μ loc H s) (hx:G.P fz l (lstO vals n)) (z:vals.length≤SZ) {q:List κ×List PV} (hl:live po) (h:PrOk knd cd Z fz μ s vals q)
  (hp:∀ (kvs:List (K×Value)) o,zP s.heap.objs.size→kvs.length≤SZ→(∀ p∈kvs,Z p.1)→zK knd kvs o→q.1=kvs.map (fun p=>cd p.1)→VRs G fz (μ++[(s.heap.objs.size,s.heap.objs.size)]) q.2 (kvs.map (·.2))→PoR G fz (μ++[(s.heap.objs.size,s.heap.objs.size)]) po s.heap.objs.size s.heap.objs.size o) :
  wpAny (model G.prog G.w) φ.A (call (.type "dict") [.ref l]) (HQ (wV G) G φ R fz μ loc (.ref H.length) (H++[po])) (fun _ _=>False) s:=by
 cases h with
 |mk kvs h1 h2 h3 h4 h5 =>
  refine call_dict_pairs D.hh (S.P D hx) z h3 (zE h4) (fun j v p=>xD h4 j v p) fun h' tk hk hd=> ?_;refine oEA (Heap.dictOf_iff.mp hd) fun o ho hd'=> ?_;exact HQ.mpush S hk ho S.fresh hl (hp kvs o (S.notMods D O) (zE h4▸z) h2 (zK.of hd ho) h1 (VRs.mono zeE h5))
theorem lf_dicO (D:Good G φ k) (O:GOk G) (S:Sat G φ R fz μ loc H s) {isI:Bool} {a:PV} {v:Value} (ha:VR G fz μ a v):On (dicV isI a) fun po=>wpAny (model G.prog G.w) φ.A (call (.type "dict") [v]) (HQ (wV G) G φ R fz μ loc (.ref H.length) (H++[po])) (fun _ _=>False) s :=
 dicV_el (isI:=isI) (M:=fun a o=>VR G fz μ a v→On o fun po=>wpAny (model G.prog G.w) φ.A (call (.type "dict") [v]) (HQ (wV G) G φ R fz μ loc (.ref H.length) (H++[po])) (fun _ _=>False) s) (fun _ _=>trivial)
  (fun ks vs _ ha=>by
   refine xJ (S.dicI D ha) fun kvs d e dd z hk q=> ?_;rw [e];refine kt_call_dict z.1 dd (Nat.le_trans z.2 y7) fun h' hd hs=> ?_;refine oEA (Heap.dictOf_iff.mp hd) fun o ho hd'=> ?_;exact HQ.mpush S (fun b o e=>(hs.2 b (Nat.ne_of_lt (Heap.lt_size e))).trans (Heap.get?_push_of_some _ e)) ho S.fresh trivial ⟨rfl,kvs,⟨S.notMods D O,z.2⟩,zK.of hd ho,hk,VRs.mono zeE q⟩)
  (fun ks vs ha=>by
   refine xJ (S.dicS D ha) fun kvs d e dd z hk q=> ?_;rw [e];refine kt_call_dict z.1 dd (Nat.le_trans z.2.1 y7) fun h' hd hs=> ?_;refine oEA (Heap.dictOf_iff.mp hd) fun o ho hd'=> ?_;exact HQ.mpush S (fun b o e=>(hs.2 b (Nat.ne_of_lt (Heap.lt_size e))).trans (Heap.get?_push_of_some _ e)) ho S.fresh trivial ⟨rfl,kvs,⟨S.notMods D O,z.2⟩,zK.of hd ho,hk,VRs.mono zeE q⟩)
  (fun vs ha=>On.map (On.of fun r h=>by
   refine VR.lst_el ha fun vals n l hx z q=> ?_;exact yjD D O S hx z (by trivial) ((pairsI_on D S q).get h) fun kvs o h1 h2 _ h3 h4 h5=>⟨rfl,kvs,⟨h1,h2⟩,h3,h4,h5⟩))
  (fun vs ha=>On.map (On.of fun r h=>by
   refine VR.lst_el ha fun vals n l hx z q=> ?_;exact yjD D O S hx z (by trivial) ((pairsS_on D S q).get h) fun kvs o h1 h2 h0 h3 h4 h5=>⟨rfl,kvs,⟨h1,h2,h0⟩,h3,h4,h5⟩)) a ha
theorem lf_dic (D:Good G φ k) (O:GOk G) (S:Sat G φ R fz μ loc H s) (ha:VR G fz μ a v) (e:dicV isI a=some po) :
  wpAny (model G.prog G.w) φ.A (call (.type "dict") [v]) (HQ (wV G) G φ R fz μ loc (.ref H.length) (H++[po])) (fun _ _=>False) s:=(lf_dicO D O S ha).get e
end
noncomputable abbrev EJ (G:Gl) (φ:Fx) (f:Loc→Hp→Rs PV) (t:Sem Value):=SJ G φ MP.top (wV G) f t
noncomputable def tst (f:Loc→Hp→Rs PV) (loc:Loc) (H:Hp):Rs Bool:=(f loc H).bind fun v H=>zC (zM v) H
noncomputable abbrev TJ (G:Gl) (φ:Fx) (f:Loc→Hp→Rs PV) (t:Sem Bool):=SJ G φ MP.top wB (tst f) t
theorem zR {α β γ:Type} (r:Rs α) (f:α→Hp→Rs β) (g:β→Hp→Rs γ):(r.bind f).bind g=r.bind fun a H=>(f a H).bind g:=by cases r <;> rfl
section
variable {G:Gl} {φ:Fx} {k:Nat} {R fz fz₁:zB} {μ μ₁:Mu} {loc:Loc} {H:Hp} {s:Shared} {Γ:MP} {α β γ δ:Type}
theorem SJ.any {W:MW α β} {f:Loc→Hp→Rs α} {t:Sem β} (h:SJ G φ MP.top W f t):SJ G φ Γ W f t:=h.weak fun _ _ _=>trivial
theorem SJ.operate {W:MW α Value} {f:Loc→Hp→Rs α} (h:SJ G φ Γ W f t):SJ G φ Γ W f (PySem.operate vs t) :=
 fun R fz μ loc H s S hΓ hF=>wpAny_operateT (h R fz μ loc H s S hΓ hF)
theorem SJ.release {W:MW α β} {f:Loc→Hp→Rs α} {t:Sem β} (h:SJ G φ Γ W f t):SJ G φ Γ W f (PySem.release vs ks >>= fun _=>t) :=
 fun R fz μ loc H s S hΓ hF=>wpAny_bind (wpAny_release (h R fz μ loc H s S hΓ hF))
theorem SJ.lf {W:MW α β} {op:Hp→Option α} {t:Sem β} (h:∀ R fz μ loc H s a,Sat G φ R fz μ loc H s→Γ.p fz μ→op H=some a→wpAny (model G.prog G.w) φ.A t (LQ W G φ R fz μ loc H a) (fun _ _=>False) s) :
  SJ G φ Γ W (fun _ H=>zC (op H) H) t:=SJ.leaf (op:=fun _ H=>op H) fun R fz μ loc H s a S g e=>h R fz μ loc H s a S g e
theorem SJ.hf {W:MW α β} {f:Hp→Rs α} {t:Sem β} (h:∀ R fz μ loc H s,Sat G φ R fz μ loc H s→Γ.p fz μ→f H≠ .bad→∃ a H',f H= .ok a H'∧wpAny (model G.prog G.w) φ.A t (HQ W G φ R fz μ loc a H') (fun _ _=>False) s) :
  SJ G φ Γ W (fun _ H=>f H) t:=by
 intro R fz μ loc H s S hΓ hF;have hb:f H≠ .bad:=fun e=>by
  show False;have:Fine φ (f H):=hF;rw [e] at this; exact this
 refine oEEA (h R fz μ loc H s S hΓ hb) fun a H' e w=> ?_;refine wpAny_mono w (fun v s' h_=>by obtain ⟨fz',μ',x,S',q⟩:=h_; exact ⟨a,H',fz',μ',e,x,S',q⟩) fun _ _ z=>z.elim
theorem SJ.on {W:MW α β} {f:Hp→Rs α} {t:Sem β} (h:∀ R fz μ loc H s,Sat G φ R fz μ loc H s→Γ.p fz μ→OnR (f H) fun a H'=>wpAny (model G.prog G.w) φ.A t (HQ W G φ R fz μ loc a H') (fun _ _=>False) s) :
  SJ G φ Γ W (fun _ H=>f H) t:=SJ.hf fun R fz μ loc H s S g hb=>(h R fz μ loc H s S g).get hb
theorem HQ.of {W:MW α β} {t:Sem β} {a:α} (h:wpAny (model G.prog G.w) φ.A t (LQ W G φ R fz μ loc H a) (fun _ _=>False) s):wpAny (model G.prog G.w) φ.A t (HQ W G φ R fz μ loc a H) (fun _ _=>False) s :=
 wpAny_mono h (fun _ _ h_=>by obtain ⟨fz',μ',x,S,w⟩:=h_; exact ⟨fz',μ',x,S,w⟩) fun _ _ z=>z
theorem ej_none:EJ G φ (evE T c (.cst .none)) (eval (.Constant .none p pos) φ.env) :=
 (SJ.pure (a:=PV.none) fun _ _ _=>VR.none).congr fun _ _=>rfl
theorem ej_bool:EJ G φ (evE T c (.cst (.bool b))) (eval (.Constant (.bool b) p pos) φ.env) :=
 (SJ.pure (a:=PV.bool b) fun _ _ _=>VR.bool b).congr fun _ _=>rfl
theorem ykG (h:∀ R fz μ loc H s,Sat G φ R fz μ loc H s→wpAny (model G.prog G.w) φ.A (eval e φ.env) (LQ (wV G) G φ R fz μ loc H v) (fun _ _=>False) s):EJ G φ (evE T c (.cst v)) (eval e φ.env) :=
 (SJ.lf (op:=fun _=>some v) fun R fz μ loc H s a S _ e=>by cases e; exact h R fz μ loc H s S).congr fun _ _=>rfl
theorem ej_int:EJ G φ (evE T c (.cst (.int i))) (eval (.Constant (.int i) p pos) φ.env) :=
 ykG fun R fz μ loc H s S=>wpAny_Constant_int (LQ.tok S (vrI _ _))
theorem ej_str (h:x.cps.toList=l) (z:x.cps.size≤SZ):EJ G φ (evE T c (.cst (.str l))) (eval (.Constant (.str x) p pos) φ.env) :=
 ykG fun R fz μ loc H s S=>wpAny_Constant_str (LQ.tok S (zwJ h z))
theorem ej_bytes (h:x.map UInt8.toNat=l) (z:x.length≤SZ):EJ G φ (evE T c (.cst (.bytes l))) (eval (.Constant (.bytes x) p pos) φ.env) :=
 ykG fun R fz μ loc H s S=>wpAny_mkTextBytes (LQ.tok S (zcC (x:=x.toArray) h z))
theorem ej_bin (D:Good G φ k) (O:GOk G) (ha:EJ G φ a (eval l φ.env)) (hb:EJ G φ b (eval r φ.env)) :
  EJ G φ (fun loc H=>(a loc H).bind fun v H=>(b loc H).bind fun w H=>zC (binV op v w) H) (eval (.BinOp l (opOf op) r pos) φ.env) :=
 ha.bind fun v x=>SJ.bind (SJ.holding hb.any) fun w y=>SJ.standAt (SJ.operate (SJ.lf (op:=fun _=>binV op v w) fun R fz μ loc H s q S g e=>lf_bin D O S g.1.2 g.2 e))
theorem ej_neg (ha:EJ G φ a (eval l φ.env)) :
  EJ G φ (fun loc H=>(a loc H).bind fun v H=>match v with | .int i=>.ok (.int (-i)) H|_=>.bad) (eval (.UnaryOp .USub l pos) φ.env) :=
 ha.bind fun v x=>SJ.standAt (SJ.holding ((SJ.lf (op:=fun _=>match v with | .int i=>some (.int (-i))|_=>none) fun R fz μ loc H s q S g e=>by
  cases v <;> cases e
  exact lf_neg S g.2).congr fun loc H=>by cases v <;> rfl))
theorem yqE (D:Good G φ k) (hm:behindInMarks (yA op) r=false) (ha:EJ G φ a (eval l φ.env)) (hb:EJ G φ b (eval r φ.env)) :
  EJ G φ (fun loc H=>(a loc H).bind fun v H=>(b loc H).bind fun w H=>zC ((cmpV op v w H).map .bool) H) (eval (.Compare l [yA op] [r] pos) φ.env) :=
 SJ.tm (t:=do let a ← eval l φ.env; let b ← holding [a] (eval r φ.env); standAt pos; operate [a,b] (compareOp (yA op) a b))
  (ha.bind fun v x=>SJ.bind (SJ.holding hb.any) fun w y=>SJ.standAt (SJ.operate (SJ.lf (op:=fun H=>(cmpV op v w H).map PV.bool) fun R fz μ loc H s q S g e=>by
   refine oEA (Option.map_eq_some_iff.mp e) fun r e' o1_=> ?_; obtain rfl:=o1_;exact yjE D S g.1.2 g.2 e' fun tk=>LQ.tok S (vrB r)))) (by rw [eval_Compare1,markedBehindIn_of_false hm])
theorem ynG (D:Good G φ k) (hm:behindInMarks (yA op) r=false) (ha:EJ G φ a (eval l φ.env)) (hb:EJ G φ b (eval r φ.env)) :
  TJ G φ (fun loc H=>(a loc H).bind fun v H=>(b loc H).bind fun w H=>zC ((cmpV op v w H).map .bool) H) (isTrue (.Compare l [yA op] [r] pos) φ.env whole) :=
 (SJ.tm (t:=do let a ← eval l φ.env; let b ← holding [a] (eval r φ.env); standAt pos; let c ← operate [a,b] (compareOp (yA op) a b); holding [c] (truthy c))
  (ha.bind fun v x=>SJ.bind (SJ.holding hb.any) fun w y=>SJ.standAt (SJ.bind (W₁:=wV G) (SJ.operate (SJ.lf (op:=fun H=>(cmpV op v w H).map PV.bool) fun R fz μ loc H s q S g e=>by
   refine oEA (Option.map_eq_some_iff.mp e) fun r e' o1_=> ?_; obtain rfl:=o1_;exact yjE D S g.1.2 g.2 e' fun tk=>LQ.tok S (vrB r)))
   fun c z=>SJ.holding (SJ.lf (op:=fun _=>zM c) fun R fz μ loc H s q S g e=>by
    cases c <;> cases e
    obtain rfl:=VR.bool' g.2;exact wpAny_truthy_bool (LQ.here S rfl)))) (by rw [isTrue_Compare1,markedBehindIn_of_false hm])).congr fun loc H=>by
  unfold tst;simp only [zR]
theorem tj_of (he:∀ w,isTrue e φ.env w=(do let v ← w; standAt e.pos; holding [v] (truthy v))) (h:EJ G φ f (eval e φ.env)):TJ G φ f (isTrue e φ.env (eval e φ.env)) :=
 SJ.tm (h.bind fun v x=>SJ.standAt (SJ.holding (SJ.lf (op:=fun _=>zM v) fun R fz μ loc H s q S g e=>by
  cases v <;> cases e
  obtain rfl:=VR.bool' g.2;exact wpAny_truthy_bool (LQ.here S rfl)))) (he _)
theorem tj_not (ha:TJ G φ a (isTrue l φ.env (eval l φ.env))) :
  TJ G φ (fun loc H=>(a loc H).bind fun v H=>zC ((zM v).map fun b=>PV.bool (!b)) H) (isTrue (.UnaryOp .Not l pos) φ.env w) :=
 (SJ.bind ha fun b b'=>SJ.lf (op:=fun _=>some (!b)) fun R fz μ loc H s q S g e=>by
  cases e;have h:b=b':=g.2;subst h;exact wpAny_pure (LQ.here S rfl)).congr fun loc H=>by
   show ((a loc H).bind _).bind _=((a loc H).bind _).bind _;simp only [zR]
   congr 1
   funext v H
   cases v <;> rfl
theorem ej_not (ha:EJ G φ a (eval l φ.env)) :
  EJ G φ (fun loc H=>(a loc H).bind fun v H=>zC ((zM v).map fun b=>PV.bool (!b)) H) (eval (.UnaryOp .Not l pos) φ.env) :=
 ha.bind fun v x=>SJ.standAt (SJ.holding (SJ.lf (op:=fun _=>(zM v).map fun b=>PV.bool (!b)) fun R fz μ loc H s q S g e=>by
  cases v <;> cases e
  obtain rfl:=VR.bool' g.2;exact wpAny_bind (wpAny_truthy_bool (wpAny_pure (LQ.here S (vrB _))))))
theorem SJ.iteB {W:MW α β} {f g:Loc→Hp→Rs α} {t u:Sem β} (hf:SJ G φ MP.top W f t) (hg:SJ G φ MP.top W g u) :
  SJ G φ (Γ.and wB b b') W (fun loc H=>if b then f loc H else g loc H) (if b' then t else u):=by
 intro R fz μ loc H s S hΓ hF;have h:b=b':=hΓ.2;subst h;cases b
 ·exact hg R fz μ loc H s S trivial hF
 ·exact hf R fz μ loc H s S trivial hF
theorem ej_ife (ht:TJ G φ t (isTrue e φ.env (eval e φ.env))) (ha:EJ G φ a (eval l φ.env)) (hb:EJ G φ b (eval r φ.env)) :
  EJ G φ (fun loc H=>(t loc H).bind fun v H=>(zC (zM v) H).bind fun x H=>if x then a loc H else b loc H) (eval (.IfExp e l r pos) φ.env) :=
 (SJ.bind ht fun x y=>SJ.iteB ha hb).congr fun loc H=>by unfold tst; simp only [zR]
theorem tj_ife (ht:TJ G φ t (isTrue e φ.env (eval e φ.env))) (ha:TJ G φ a (isTrue l φ.env (eval l φ.env))) (hb:TJ G φ b (isTrue r φ.env (eval r φ.env))) :
  TJ G φ (fun loc H=>(t loc H).bind fun v H=>(zC (zM v) H).bind fun x H=>if x then a loc H else b loc H) (isTrue (.IfExp e l r pos) φ.env w) :=
 (SJ.bind ht fun x y=>SJ.iteB ha hb).congr fun loc H=>by
  unfold tst;simp only [zR]
  congr 1; funext v H; congr 1; funext x H
  cases x <;> rfl
end
structure yW (φ φ':Fx) (m:Str→Option Value) (g:Heap):Prop where
 T:KtsTurn φ.fs φ.h₀ g
 F:Fr g φ.L φ'.h₀ m
 out:φ'.outer=φ.fenv::φ.outer
 s₀:φ'.s₀=φ.s₀
section
variable {G:Gl} {φ φ':Fx} {k:Nat} {R fz fz₁:zB} {μ μ₁:Mu} {loc:Loc} {H:Hp} {s:Shared} {m m':Str→Option Value} {g h:Heap}
theorem yW.fs (D:Good G φ k) (e:yW φ φ' m g):φ'.fs=φ.L::φ.fs:=by
 unfold Fx.fs;rw [e.out,List.filterMap_cons,D.hf]
theorem yW.self (e:yW φ φ' m g):g.get? φ.L=none:=kts_self e.F
theorem yW.turn (D:Good G φ k) (e:yW φ φ' m g) (T':KtsTurn φ'.fs φ'.h₀ g₁) (k₁:∀ b o,g₁.get? b=some o→h.get? b=some o) :
  ∃ g',KtsTurn φ.fs φ.h₀ g'∧Fr g' φ.L h m∧(∀ p:Addr,g₁.get? p=none→p≠φ.L∧g'.get? p=none):=by
 have hfs:=e.fs D;have Dg:KtsDicts φ.fs g:=D.D.turn e.T;obtain ⟨T,S⟩:=kts_turn_at (h:=h) (fs:=φ.fs) (g:=g) (fun b hb=>by refine wQ (Dg b hb) fun o _ _ ho _=> ?_; exact ⟨o,ho⟩)
  (fun b o e' nm=>k₁ b o (T'.other b o (e.F.keep b o e') fun q=>by
   rw [hfs] at q
   rcases mN q with z|z
   ·rw [z,e.self] at e'; cases e'
   ·exact nm z))
  (fun b o e' hm=>by
   obtain ⟨sl,hs⟩:=T'.up (e.F.keep b o e');exact ⟨sl,k₁ _ _ hs⟩)
 refine z0 (e.F.ns) fun oL es ep hL hLd hLk hLf=> ?_;obtain ⟨sl,hs⟩:=T'.up hL;refine ⟨_,e.T.trans T,⟨⟨_,es,ep,k₁ _ _ hs,hLd,hLk,hLf⟩,S,by rw [T.size]; exact e.F.above⟩,fun p hp=>⟨fun z=> ?_,?_⟩⟩
 ·rw [z,hs] at hp; cases hp
 ·refine T.none_ _ ?_
  cases q:g.get? p with
  |none=>rfl
  |some o =>
   obtain ⟨sl',h'⟩:=T'.up (e.F.keep _ _ q);rw [hp] at h'; cases h'
theorem yW.back (D:Good G φ k) (e:yW φ φ' m g) (x:Base G φ' m' R fz μ H h):Base G φ m R fz μ H h:=by
 obtain ⟨g₁,mu,tb,T',F',N',S⟩:=x;refine oEAA (e.turn D T' F'.keep) fun g' T F nn=> ?_;exact ⟨g',mu,tb,T,F,fun p hp=>⟨(N' p hp).1,nn _ (N' p hp).2.2⟩,S⟩
theorem yiI {env:Env} {outer:List Env} {L b:Addr} (hf:env.frame=some L) (hm:b∈(env::outer).filterMap (·.frame)):b=L∨b∈outer.filterMap (·.frame):=by
 rw [List.filterMap_cons,hf] at hm;exact mN hm
theorem yW.raise (D:Good G φ k) (e:yW φ φ' m g) {C:Nat} {x:Value} (X:XO G φ' R fz μ C H x s) :
  wpAny (model G.prog G.w) φ.A (leaving φ.fenv x) (fun _ s'=>XO G φ R fz μ C H x s') (fun _ _=>False) s:=by
 obtain ⟨a,mu,tb,rfl,sm,⟨B,a0,hB,hBG,hl,hfl⟩,hup,S⟩:=X;rw [e.out] at hBG hfl;rw [D.hA];refine wpAny_leaves_onW (Around.frames_deeper D.B.stack) D.hf hfl fun h' x1 x2=> ?_;have gt:=zaC D e.T;have keep:∀ b o,φ.h₀.get? b=some o→b∉φ.fs→φ'.h₀.get? b=some o:=fun b o q nm=>e.F.keep b o (e.T.other b o q nm);refine ⟨a,mu,tb,rfl,?_,⟨B,a0,hB,fun b o q nm=>hBG b o (keep b o q nm) fun hm=> ?_,fun q hq=>⟨(hl q hq).1,?_,(hl q hq).2.2⟩,x1⟩,?_,S⟩
 ·have:same φ'.s₀ s:=sm
  rw [e.s₀] at this;exact this
 ·rcases yiI D.hf hm with z|z
  ·have h1:=e.T.other b o q nm
   rw [z,e.self] at h1; cases h1
  ·exact nm z
 ·cases z:φ.h₀.get? q.1 with
  |none=>rfl
  |some o =>
   obtain ⟨sl,hs⟩:=e.T.up z;have:=e.F.keep _ _ hs;rw [(hl q hq).2.1] at this; cases this
 ·refine Heap.UpToSlots.trans ?_ (hup.trans x2)
  intro b o hb hd;obtain ⟨sl,hs⟩:=e.T.up hb;exact ⟨sl,e.F.keep _ _ hs⟩
end
theorem yH.hide (S:yH G R fz μ H mu tb) (nw:∀ p∈new,∀ q∈fz++(mu++(tb++R)),q.1≠p.1):yH G (new++R) fz μ H mu tb:=by
 refine ⟨S.len,S.live,S.own,S.inj,fun p hp q hq=> ?_,fun p hp q hq=> ?_,fun p hp q hq=> ?_,S.fun_,S.tab,S.tfun⟩
 ·simp only [List.mem_append] at hq
  rcases hq with hq|hq|hq|hq
  ·exact S.sepM p hp q (mL _ hq)
  ·exact S.sepM p hp q (mR _ (mL _ hq))
  ·exact fun e=>nw q hq p (mR _ (mL _ hp)) e.symm
  ·exact S.sepM p hp q (mR _ (mR _ hq))
 ·simp only [List.mem_append] at hq
  rcases hq with hq|hq|hq
  ·exact S.sepF p hp q (mL _ hq)
  ·exact fun e=>nw q hq p (mL _ hp) e.symm
  ·exact S.sepF p hp q (mR _ hq)
 ·rcases mP hq with hq|hq
  ·exact fun e=>nw q hq p (mR _ (mR _ (mL _ hp))) e.symm
  ·exact S.sepT p hp q hq
structure Near (φ:Fx) (A:Around) (k:Nat):Prop where
 fr:A.frames=some (φ.fenv::φ.outer)
 hh:A.handled=none
 hg:A.guards=some []
 de:A.depth+1+xE k≤recursionLimit
 un:A.units+3+zbE k≤cLine
noncomputable def FlR (G:Gl) (fz:zB) (μ:Mu) (loc':Loc) (fl:Fl) (f:Flow):Prop:=match fl,f with
 | .next l,.next=>loc'=l
 | .cont l,.cont=>loc'=l
 | .ret v,.ret x=>VR G fz μ v x
 |_,_=>False
inductive QS (G:Gl) (φ:Fx) (R fz:zB) (μ:Mu) (r:Rs Fl) (f:Flow) (s:Shared):Prop
 |mk (fl:Fl) (H':Hp) (fz':zB) (μ':Mu) (loc':Loc) (e:r= .ok fl H') (x:Ext fz μ fz' μ') (S:Sat G φ R fz' μ' loc' H' s) (w:FlR G fz' μ' loc' fl f)
noncomputable def SS (G:Gl) (φ:Fx) (f:Loc→Hp→Rs Fl) (t:Sem Flow):Prop :=
 ∀ R fz μ loc H s,Sat G φ R fz μ loc H s→Fine φ (f loc H)→wpAny (model G.prog G.w) φ.A t (QS G φ R fz μ (f loc H)) (EX G φ R fz μ (f loc H)) s
noncomputable def outR (r:Rs Fl):Rs PV:=r.bind fun r H=>match r with
 | .ret v=>.ok v H
 | .next _=>.ok .none H
 | .cont _=>.bad
noncomputable def CQ (G:Gl) (φ:Fx) (R fz:zB) (μ:Mu) (loc:Loc) (r:Rs PV) (res:Result) (s:Shared):Prop:=match res with
 | .ok (.ret v)=>QE (wV G) G φ R fz μ loc r v s
 | .ok _=>False
 | .error e=>EX G φ R fz μ r e s
section
variable {G:Gl} {φ:Fx} {k:Nat} {R fz fz₁:zB} {μ μ₁:Mu} {loc:Loc} {H:Hp} {s:Shared} {m:Str→Option Value} {g h:Heap}
theorem zaD:∀ {bs:List (Str×Value)} {m:Str→Option Value},ko n=some .local→(bs.map (·.1)).Nodup→(n,v)∈bs∨(m n=some v∧n∉bs.map (·.1))→bindL ko bs m n=some v:=by
 intro l0
 induction l0 with
 |nil =>
  intro m hk hn h;exact h.elim (fun h=>by cases h) (·.1)
 |cons p_ r ih =>
  obtain ⟨a,b⟩:=p_;intro m;intro hk;intro hn;intro h;rw [List.map_cons,List.nodup_cons] at hn;unfold bindL;refine ih hk hn.2 ?_
  rcases h with h|⟨h,h'⟩
  ·rcases mN h with e|e
   ·cases e
    refine .inr ⟨by rw [if_pos hk]; simp,hn.1⟩
   ·exact .inl e
  ·rw [List.map_cons,List.mem_cons,not_or] at h'
   refine .inr ⟨?_,h'.2⟩
   split
   ·simp only [h'.1,if_false]; exact h
   ·exact h
theorem bindC_get:∀ {bs:List (Str×Value)} {m:Str→Option Value},ko n≠some .local→(bs.map (·.1)).Nodup→(n,v)∈bs∨(m n=some v∧n∉bs.map (·.1))→bindC ko bs m n=some v:=by
 intro l0
 induction l0 with
 |nil =>
  intro m hk hn h;exact h.elim (fun h=>by cases h) (·.1)
 |cons p_ r ih =>
  obtain ⟨a,b⟩:=p_;intro m;intro hk;intro hn;intro h;rw [List.map_cons,List.nodup_cons] at hn;unfold bindC;refine ih hk hn.2 ?_
  rcases h with h|⟨h,h'⟩
  ·rcases mN h with e|e
   ·cases e
    refine .inr ⟨by rw [if_neg hk]; simp,hn.1⟩
   ·exact .inl e
  ·rw [List.map_cons,List.mem_cons,not_or] at h'
   refine .inr ⟨?_,h'.2⟩
   split
   ·exact h
   ·simp only [h'.1,if_false]; exact h
theorem cellsAre_get:∀ {cs:List (Str×Addr)} {cells:List (Addr×Obj)},CellsAre cm cs cells→cs.lookup n=some c→∃ o,(c,o)∈cells∧o.data= .cell (cm n):=by
 intro cs cells K h
 induction K with
 |nil=>cases h
 | @cons n' c' o _ _ hd hr ih =>
  rw [List.lookup_cons] at h
  by_cases e:n=n'
  ·subst e
   simp at h
   subst h;exact ⟨o,mQ,hd⟩
  ·have:(n==n')=false:=beq_eq_false_iff_ne.mpr e
   simp only [this] at h;refine oEA (ih h) fun o h1 h2=> ?_;exact ⟨o,mC _ h1,h2⟩
theorem pw_inj {cs:List (Str×Addr)} (h:cs.Pairwise fun x y=>x.2≠y.2) {x y:Str} {c:Addr} (hx:cs.lookup x=some c) (hy:cs.lookup y=some c):x=y:=by
 induction cs with
 |nil=>cases hx
 |cons a r ih =>
  obtain ⟨n,d⟩:=a;rw [List.pairwise_cons] at h;have mem:∀ {z:Str} {l:List (Str×Addr)},l.lookup z=some c→∃ q∈l,q.2=c:=fun {z l} hz=>by
   induction l with
   |nil=>cases hz
   |cons b t ih =>
    obtain ⟨n',d'⟩:=b;rw [List.lookup_cons] at hz
    split at hz
    ·cases hz; exact ⟨_,mQ,rfl⟩
    ·refine oEA (ih hz) fun q h1 h2=> ?_
     exact ⟨q,mC _ h1,h2⟩
  rw [List.lookup_cons] at hx hy
  by_cases e1:x=n <;> by_cases e2:y=n
  ·rw [e1,e2]
  ·subst e1
   simp at hx
   subst hx;have:(y==x)=false:=beq_eq_false_iff_ne.mpr e2;simp only [this] at hy;refine oEA (mem hy) fun q h1 h2=> ?_;exact absurd h2.symm (h.1 q h1)
  ·subst e2
   simp at hy
   subst hy;have:(x==y)=false:=beq_eq_false_iff_ne.mpr e1;simp only [this] at hx;refine oEA (mem hx) fun q h1 h2=> ?_;exact absurd h2.symm (h.1 q h1)
  ·have t1:(x==n)=false:=beq_eq_false_iff_ne.mpr e1
   have t2:(y==n)=false:=beq_eq_false_iff_ne.mpr e2;simp only [t1] at hx;simp only [t2] at hy;exact ih h.2 hx hy
theorem XO.sub (X:XO G φ R fz μ C H x s) (hs:∀ p∈R',p∈R):XO G φ R' fz μ C H x s:=by
 obtain ⟨a,mu,tb,rfl,sm,⟨B,a0,hB,hBG,hl,hfl⟩,hup,S⟩:=X;have im:∀ q,q∈fz++(mu++(tb++R'))→q∈fz++(mu++(tb++R)):=fun q hq=>by
  simp only [List.mem_append] at hq ⊢;exact hq.imp id fun h=>h.imp id fun h=>h.imp id (hs _)
 have im2:∀ q,q∈tb++R'→q∈tb++R:=fun q hq=>by
  simp only [List.mem_append] at hq ⊢;exact hq.imp id (hs _)
 have im3:∀ q,q∈fz++(tb++R')→q∈fz++(tb++R):=fun q hq=>by
  simp only [List.mem_append] at hq ⊢;exact hq.imp id fun h=>h.imp id (hs _)
 exact ⟨a,mu,tb,rfl,sm,⟨B,a0,hB,hBG,fun q hq=>hl q (im q hq),hfl⟩,hup,S.len,S.live,S.own,S.inj,fun p hp q hq=>S.sepM p hp q (im3 q hq),fun p hp q hq=>S.sepF p hp q (im2 q hq),fun p hp q hq=>S.sepT p hp q (hs q hq),S.fun_,S.tab,S.tfun⟩
noncomputable def zgB (G:Gl) (φ:Fx) (R' fz:zB) (μ:Mu) (loc:Loc):Prop:=∀ (i:Nat) y,φ.xs[i]? =some y→(φ.env.kindOf y=some .cell∨φ.env.kindOf y=some .free) →
 ∃ c o ov,φ.env.cells.lookup y=some c∧(c,o)∈R'∧o.data= .cell ov∧∀ v,loc[i]? =some (some v)→∃ val,ov=some val∧VR G fz μ v val
inductive CBv (G:Gl) (φ:Fx) (m:Str→Option Value) (R₁ fz:zB) (μ:Mu) (r:Rs PV) (v:Value) (s:Shared):Prop
 |mk (pv:PV) (H':Hp) (fz':zB) (μ':Mu) (e:r= .ok pv H') (x:Ext fz μ fz' μ') (sm:same φ.s₀ s) (B:Base G φ m R₁ fz' μ' H' s.heap) (w:VR G fz' μ' pv v)
noncomputable def CB (G:Gl) (φ:Fx) (m:Str→Option Value) (R₁ R fz:zB) (μ:Mu) (r:Rs PV) (res:Result) (s:Shared):Prop:=match res with
 | .ok (.ret v)=>CBv G φ m R₁ fz μ r v s
 | .ok _=>False
 | .error e=>EX G φ R fz μ r e s
theorem CB.toCQ (L:zgC G φ R m vm ce fz μ loc) (h:CB G φ m (ce++R) R fz μ r res s'):CQ G φ R fz μ loc r res s':=by
 cases res with
 |error e=>exact h
 |ok f =>
  cases f with
  |ret v =>
   obtain ⟨pv,H',fz',μ',e,x,sm,B,w⟩:=h;exact ⟨pv,H',fz',μ',e,x,⟨sm,m,vm,ce,B,L.ext x⟩,w⟩
  |_=>exact h.elim
theorem yqD {A:Around} {vm:Str→Option Value} {ce:zB} {oc:Value} {od:Option Addr} {osl:Array (Option Value)} {name qual:Str} {params:Arguments} {body:List Stmt} {scope:Scope} {dV kV doc pm cdv ct:Value} {an:Option Addr} {f:Addr} {args:Args} {binds:List (Str×Value)} {xs:List Str} {loc':Loc} {fb:Loc→Hp→Rs Fl}
  (D:Good G φ (k+1)) (O:GOk G) (NA:Near φ A k) (sm:same φ.s₀ s) (B₀:Base G φ m (ce++R) fz μ H s.heap) (L:zgC G φ R m vm ce fz μ loc)
  (ho:G.K.lookup f=some ⟨oc,od,.func (fnX name qual params body scope [] dV kV doc pm an cdv ct),osl⟩) (hcd:codeIn G.K cdv qual=true)
  (hbind:BindsTo s (fnX name qual params body scope [] dV kV doc pm an cdv ct) args binds) (hkind:(binds.all fun y=>scope.names.lookup y.1==some .local||scope.names.lookup y.1==some .cell)=true)
  (hnd:((cellsFrom 0 scope.names []).map (·.1)).Nodup) (hbn:(binds.map (·.1)).Nodup) (hxs:xs.Nodup)
  (hnf:∀ x∈xs,scope.names.lookup x≠some .free)
  (hloc:∀ (i:Nat) x v,xs[i]? =some x→loc'[i]? =some (some v)→∃ val,(x,val)∈binds∧VR G fz μ v val)
  (hco:scope.isCoroutine=false) (hgen:scope.isGenerator=false) (hk:scope.kind= .function)
  (hF:Fine φ (outR (fb loc' H)))
  (hbody:∀ φ' R' s₁,Good G φ' k→φ'.env=envOfC qual scope φ'.L f cdv→φ'.xs=xs→φ'.comp=none→φ'.env=φ'.fenv→(∀ p∈R,p∈R')→s₁.heap.Ns φ'.L (bindL φ'.env.kindOf binds fun _=>none)→Sat G φ' R' fz μ loc' H s₁→zgB G φ R' fz μ loc→Fine φ' (fb loc' H) →
   wpAny (model G.prog G.w) φ'.A (execs body φ'.env) (QS G φ' R' fz μ (fb loc' H)) (EX G φ' R' fz μ (fb loc' H)) s₁) :
  codeAny (model G.prog G.w) A (.call (.ref f) args) (CB G φ m (ce++R) R fz μ (outR (fb loc' H))) s:=by
 obtain ⟨g,mu,tb,T,F,N,Sh⟩:=B₀;have gt:=zaC D T;have X:G.K.In s.heap:=O.X.keeps fun b o e=>F.keep _ _ (gt.1.stays _ _ e);refine oAAA (groundX (R:=fun _ _=>True) gt.1 F N NA.fr D.hf D.hke) fun FG BG st _=> ?_;have nol:s.heap.NoLimit:=(O.T.keeps gt.1.stays).nolimit.keeps F.keep;have hroom:A.depth<recursionLimit:=by have:=NA.de; unfold xE at this; lia
 refine codeAny_call_function hroom (X _ _ ho) rfl hco hgen rfl (codeRec_of X hcd) (hbind _ _ _ _ ?_);refine wpAny_newFunctionEnv_cells hk (kindsX hkind _) fun env' he s' x=> ?_;subst he;refine ⟨nol.keeps x.toInCall.keep,codeAny_func ?_⟩;refine oEEA (x.done) fun h₁ tk o1_ _=> ?_; obtain rfl:=o1_;have hk₁:=x.toInCall.keep;refine oEA (Cl.news (h₀:=s.heap) (Nat.le_refl _) fun n c hm=>⟨x.cell n c (lookup_of_mem_nodup (cellsFrom_names scope.names 0 (s.heap.objs.size+1) [] [] rfl▸hnd) hm),x.above n c hm⟩) fun cells NC Y=> ?_;have nwc:∀ p∈cells,∀ q∈fz++(mu++(tb++(ce++R))),q.1≠p.1:=fun p hp q hq e=>by
  have h1:=(NC p hp).2.2;rw [← e,(N q hq).1] at h1; cases h1
 have hroom2:xE (k+1)=xE k+8:=by unfold xE; lia
 let E':Env:=newEnv scope s.heap.objs.size mainGlobals (cellsFrom (s.heap.objs.size+1) scope.names []) (qual++ ".<locals>.") (some f) cdv none builtinsNs
 let φ':Fx:=⟨A.deeper E',A,E',E',φ.fenv::φ.outer,hideAll s.heap ((fz++(mu++(tb++(ce++R)))).map (·.1)),s.heap.objs.size,xs,none,none,[],φ.s₀⟩
 have en:yW φ φ' m g:=⟨T,FG,rfl,rfl⟩;refine z0 (FG.ns) fun oL es ep hL hLd _ _=> ?_;have hfs:φ'.fs=φ.L::φ.fs:=en.fs D;have D':Good G φ' k:={
  B:=BG
  D:=fun b hb=>by
   rw [hfs] at hb
   rcases mN hb with rfl|hb
   ·exact ⟨oL,es,ep,hL,hLd⟩
   ·refine wQ (gt.2 b hb) fun o es' n' ho' hd'=> ?_
    exact ⟨o,es',n',st b o ho',hd'⟩
  hA:=rfl
  hf:=rfl
  hf':=rfl
  hke:=hk
  hk:=hk
  hgl:=rfl
  hbu:=rfl
  hh:=NA.hh
  hgu:=NA.hg
  hde:=by have:=NA.de; show A.depth+1+xE k≤_; omega
  hun:=by have:=NA.un; show A.units+3+zbE k≤_; omega
  hen:=fun _=>rfl
  hloc:=fun _=>rfl
  hcl:=fun C h=>by cases h
  nd:=hxs
  cinj:=fun a b c h1 h2=>pw_inj x.apart h1 h2}
 have ko:∀ y,E'.kindOf y=scope.names.lookup y:=fun y=>rfl;have S₁:Sat G φ' (ce++R) fz μ loc' H {s with heap:=h₁,toks:=tk}:=by
  refine ⟨?_,_,_,cells,⟨hideAll s.heap ((fz++(mu++(tb++(ce++R)))).map (·.1)),mu,tb,.refl,⟨x.toInCall.ns,fun b o e=>hk₁ b o (of_hideAll _ e),Nat.le_of_eq (hideAll_size _ _)⟩,fun p hp=> ?_,Sh.hide nwc⟩,fun p hp q hq=>nwc p hp q (mR _ (mR _ (mR _ hq))),(fun p hp=>nomatch hp),⟨fun _=>rfl,fun C h=>by cases h⟩,fun i y hy=>⟨fun hl v hv=> ?_,fun hc=> ?_⟩⟩
  ·exact sm
  ·simp only [List.mem_append] at hp
   have old:p∈fz++(mu++(tb++(ce++R)))→h₁.get? p.1=some p.2∧p.1≠s.heap.objs.size∧(hideAll s.heap ((fz++(mu++(tb++(ce++R)))).map (·.1))).get? p.1=none:=fun hp => ⟨hk₁ _ _ (N p hp).1,Nat.ne_of_lt (Heap.lt_size (N p hp).1),hideAll_none _ (List.mem_map_of_mem hp)⟩
   rcases hp with hp|hp|hp|hp|hp
   ·exact old (mL _ hp)
   ·exact old (mR _ (mL _ hp))
   ·exact old (mR _ (mR _ (mL _ hp)))
   ·refine ⟨(NC p hp).1,(NC p hp).2.1,?_⟩
    cases q:(hideAll s.heap ((fz++(mu++(tb++(ce++R)))).map (·.1))).get? p.1 with
    |none=>rfl
    |some o=>have:=of_hideAll _ q; rw [(NC p hp).2.2] at this; cases this
   ·exact old (mR _ (mR _ (mR _ (List.mem_append.mpr hp))))
  ·refine oEA (hloc i y v hy hv) fun val h1 h2=> ?_
   exact ⟨val,zaD hl hbn (.inl h1),h2⟩
  ·have hmem:y∈xs:=List.mem_of_getElem? hy
   have hc':scope.names.lookup y=some .cell:=by
    rcases hc with hc|hc
    ·exact hc
    ·exact absurd hc (hnf y hmem)
   have hcs:((cellsFrom (s.heap.objs.size+1) scope.names []).lookup y).isSome=true:=cellsFrom_some _ _ _ (.inl hc');obtain ⟨c,hcc⟩:=Option.isSome_iff_exists.mp hcs;refine oEA (cellsAre_get Y hcc) fun o h1 h2=> ?_;refine ⟨c,o,_,hcc,.inl h1,h2,fun v hv=> ?_⟩;refine oEA (hloc i y v hy hv) fun val h3 h4=> ?_;refine ⟨val,bindC_get ?_ hbn (.inl h3),h4⟩;show scope.names.lookup y≠_;rw [hc'];intro z; cases z
 have hF':Fine φ' (fb loc' H):=by
  revert hF
  cases fb loc' H with
  |ok a H=>exact fun _=>trivial
  |exc C H=>exact fun _=>rfl
  |bad=>exact id
 have hoc:zgB G φ (ce++R) fz μ loc:=fun i y hy hk=>by
  refine z0 ((L.at_ i y hy).2 hk) fun c o ov q1 q2 q3 q4=> ?_;exact ⟨c,o,ov,q1,q2.elim (mL _) fun z=>mR _ (L.rcR _ z.2),q3,q4⟩
 refine wpAny_mono (hbody φ' (ce++R) _ D' rfl rfl rfl rfl (fun p hp=>mR _ hp) x.toInCall.ns S₁ hoc hF') (fun fl s' hq=> ?_) fun e s' hx=> ?_
 ·obtain ⟨fl',H',fz',μ',loc'',er,ex,⟨sm',m',vm',ce',B',L'⟩,fr⟩:=hq
  have Bb:Base G φ m (ce++R) fz' μ' H' s'.heap:=en.back D (B'.sub fun p hp=>mR _ hp);rw [er] at hF ⊢;cases fl' with
  |next l =>
   cases fl with
   |next=>exact ⟨.none,H',fz',μ',rfl,ex,sm',Bb,VR.none⟩
   |_=>exact fr.elim
  |cont l=>exact hF.elim
  |ret v =>
   cases fl with
   |ret y=>exact ⟨v,H',fz',μ',rfl,ex,sm',Bb,fr⟩
   |_=>exact fr.elim
 ·have hc:φ.comp=none∨∀ C H',fb loc' H≠ .exc C H':=by
   revert hF
   cases fb loc' H with
   |ok a H=>exact fun _=>.inr fun _ _ z=>by cases z
   |exc C H=>exact fun h=>.inl h
   |bad=>exact fun h=>h.elim
  refine wpAny_mono hx.2 (fun _ s'' ⟨C,H',fz',μ',er,ex,X⟩=>⟨?_,?_⟩) fun _ _ z=>z.elim
  ·exact hc.elim id fun z=>absurd er (z C H')
  ·refine wpAny_mono (en.raise D X) (fun _ s3 X'=>⟨C,H',fz',μ',?_,ex,X'.sub fun p hp=>mR _ hp⟩) fun _ _ z=>z
   rw [er]; rfl
theorem enter {A:Around} {oc:Value} {od:Option Addr} {osl:Array (Option Value)} {name qual:Str} {params:Arguments} {body:List Stmt} {scope:Scope} {dV kV doc pm cdv ct:Value} {an:Option Addr} {f:Addr} {args:Args} {binds:List (Str×Value)} {xs:List Str} {loc':Loc} {fb:Loc→Hp→Rs Fl}
  (D:Good G φ (k+1)) (O:GOk G) (NA:Near φ A k) (S:Sat G φ R fz μ loc H s)
  (ho:G.K.lookup f=some ⟨oc,od,.func (fnX name qual params body scope [] dV kV doc pm an cdv ct),osl⟩) (hcd:codeIn G.K cdv qual=true)
  (hbind:BindsTo s (fnX name qual params body scope [] dV kV doc pm an cdv ct) args binds) (hkind:(binds.all fun y=>scope.names.lookup y.1==some .local||scope.names.lookup y.1==some .cell)=true)
  (hnd:((cellsFrom 0 scope.names []).map (·.1)).Nodup) (hbn:(binds.map (·.1)).Nodup) (hxs:xs.Nodup)
  (hnf:∀ x∈xs,scope.names.lookup x≠some .free)
  (hloc:∀ (i:Nat) x v,xs[i]? =some x→loc'[i]? =some (some v)→∃ val,(x,val)∈binds∧VR G fz μ v val)
  (hco:scope.isCoroutine=false) (hgen:scope.isGenerator=false) (hk:scope.kind= .function)
  (hF:Fine φ (outR (fb loc' H)))
  (hbody:∀ φ' R' s₁,Good G φ' k→φ'.env=envOfC qual scope φ'.L f cdv→φ'.xs=xs→φ'.comp=none→φ'.env=φ'.fenv→(∀ p∈R,p∈R')→s₁.heap.Ns φ'.L (bindL φ'.env.kindOf binds fun _=>none)→Sat G φ' R' fz μ loc' H s₁→zgB G φ R' fz μ loc→Fine φ' (fb loc' H) →
   wpAny (model G.prog G.w) φ'.A (execs body φ'.env) (QS G φ' R' fz μ (fb loc' H)) (EX G φ' R' fz μ (fb loc' H)) s₁) :
  codeAny (model G.prog G.w) A (.call (.ref f) args) (CQ G φ R fz μ loc (outR (fb loc' H))) s:=by
 obtain ⟨sm,m,vm,ce,B₀,L⟩:=S;exact codeAny_mono (yqD D O NA sm B₀ L ho hcd hbind hkind hnd hbn hxs hnf hloc hco hgen hk hF hbody) fun r s' h=>h.toCQ L
end
section
variable {G:Gl} {φ:Fx} {k:Nat} {R fz fz₁:zB} {μ μ₁:Mu} {loc:Loc} {H:Hp} {s:Shared} {Γ:MP}
theorem zqB {xs:List Str} (h:xs.Nodup) {i j:Nat} {x:Str} (hi:xs[i]? =some x) (hj:xs[j]? =some x):i=j:=by
 obtain ⟨li,ei⟩:=List.getElem?_eq_some_iff.mp hi;exact (List.getElem?_inj li h).mp (hi.trans hj.symm)
theorem setAt_len' {α:Type}:∀ (l:List α) (i:Nat) (x:α),(zF l i x).length=l.length:=by
 intro l0
 induction l0 with
 |nil =>
  intro _ _;exact rfl
 |cons _ r ih =>
  intro l1;cases l1 with
  |zero =>
   intro _;exact rfl
  |succ i =>
   intro x;exact congrArg (· + 1) (ih i x)
theorem xP {α:Type}:∀ {l:List α} {i:Nat} {x y:α},(zF l i x)[i]? =some y→y=x:=by
 intro l0
 induction l0 with
 |nil =>
  intro i _ _ h;cases h
 |cons _ r ih =>
  intro l1;cases l1 with
  |zero =>
   intro x y h;exact (Option.some.inj h).symm
  |succ i =>
   intro x y h;exact ih h
theorem yK {α:Type}:∀ {l:List α} {i j:Nat} {x:α},i≠j→(zF l i x)[j]? =l[j]? :=by
 intro l0
 induction l0 with
 |nil =>
  intro _ _ _ _;exact rfl
 |cons _ r ih =>
  intro l1;cases l1 with
  |zero =>
   intro l2;cases l2 with
   |zero =>
    intro _ h;exact absurd rfl h
   |succ j =>
    intro _ _;exact rfl
  |succ i =>
   intro l2;cases l2 with
   |zero =>
    intro _ _;exact rfl
   |succ j =>
    intro x h;show (zF r i x)[j]? =r[j]?;exact ih fun e=>h (congrArg (· + 1) e)
theorem zpD (D:Good G φ k) (hc:φ.comp=none) (S:Sat G φ R fz μ loc H s) {i:Nat} {x:Str} {v:PV} {val:Value} (hx:φ.xs[i]? =some x) (hkx:φ.env.kindOf x=some .local∨φ.env.kindOf x=some .cell) (hv:VR G fz μ v val) :
  wpAny (model G.prog G.w) φ.A (storeName φ.env x val) (fun _ s'=>Sat G φ R fz μ (zF loc i (some v)) H s') (fun _ _=>False) s:=by
 obtain ⟨sm,m,vm,ce,B,L⟩:=S;obtain rfl:=L.cs.1 hc
 rcases hkx with hk|hk
 ·refine wpAny_storeName_local hk (m:=vm) ?_ (fun h' hn hs=> ?_) ?_
  ·rw [D.hloc hc]; exact B.ns
  ·rw [D.hloc hc] at hn hs
   refine ⟨sm,_,_,ce,B.locals hn hs,L.sepR,L.rcR,⟨fun _=>rfl,fun C h=>by rw [hc] at h; cases h⟩,fun j y hy=>⟨fun hl w hw=> ?_,fun hl=> ?_⟩⟩
   ·by_cases e:i=j
    ·subst e
     rw [hx] at hy; cases hy;have:=xP hw;cases this;exact ⟨val,by simp,hv⟩
    ·rw [yK e] at hw
     refine oEA ((L.at_ j y hy).1 hl w hw) fun w' h1 h2=> ?_;refine ⟨w',?_,h2⟩;have:y≠x:=fun z=>e (zqB D.nd hx (z▸hy));simp only [this,if_false];exact h1
   ·by_cases e:i=j
    ·subst e
     rw [hx] at hy; cases hy;rw [hk] at hl
     rcases hl with z|z <;> cases z
    ·rw [yK e]
     exact (L.at_ j y hy).2 hl
  ·rw [D.hk]; rfl
 ·refine z0 ((L.at_ i x hx).2 (.inl hk)) fun c o ov h1 h2' h3 h4=> ?_
  have h2:(c,o)∈ce:=h2'.elim id fun z=>z.1.elim (fun z=>by rw [hk] at z; cases z) fun z=>absurd hc z;have hmem:(c,o)∈ce++R:=mL _ h2;have hat:s.heap.get? c=some o:=by
   obtain ⟨g,mu,tb,T,F,N,Sh⟩:=B;exact (N _ (mR _ (mR _ (mR _ hmem)))).1
  refine wpAny_storeName_cell D.hk hk h1 ⟨o,hat,h3⟩ fun h' hv' hs=> ?_;refine oEA hv' fun o' ho' hd'=> ?_; (try clear hv');have B':=B.hidSet hmem hs ho';rw [List.map_append] at B';have hR:R.map (fun p=>if p.1=c then (c,o') else p)=R:=by
   refine (List.map_congr_left fun p hp=> ?_).trans (List.map_id _);rw [if_neg (L.sepR _ h2 p hp)]; rfl
  rw [hR] at B';refine ⟨sm,_,_,_,B',fun p hp q hq=> ?_,L.rcR,⟨fun _=>rfl,fun C h=>by rw [hc] at h; cases h⟩,fun j y hy=>⟨fun hl w hw=> ?_,fun hl=> ?_⟩⟩
  ·refine oEA (List.mem_map.mp hp) fun p' hp' e=> ?_
   split at e
   ·subst e; exact L.sepR _ h2 q hq
   ·subst e; exact L.sepR _ hp' q hq
  ·by_cases e:i=j
   ·subst e
    rw [hx] at hy; cases hy;rw [hk] at hl; cases hl
   ·rw [yK e] at hw
    exact (L.at_ j y hy).1 hl w hw
  ·refine z0 ((L.at_ j y hy).2 hl) fun c2 o2 ov2 k1 k2 k3 k4=> ?_
   by_cases e:i=j
   ·subst e
    rw [hx] at hy; cases hy;refine ⟨c,o',_,h1,?_,hd',fun w hw=> ?_⟩
    ·exact .inl (List.mem_map.mpr ⟨_,h2,if_pos rfl⟩)
    ·have:=xP hw
     cases this;exact ⟨val,rfl,hv⟩
   ·have hcc:c2≠c:=fun z=>e (zqB D.nd hx (by rw [D.cinj x y c h1 (z▸k1)]; exact hy))
    refine ⟨c2,o2,ov2,k1,k2.imp (fun k2=>List.mem_map.mpr ⟨_,k2,if_neg hcc⟩) id,k3,?_⟩;rw [yK e];exact k4
theorem lf_name (D:Good G φ k) (S:Sat G φ R fz μ loc H s) {i:Nat} {x:Str} {pos:Pos} {v:PV} (hx:φ.xs[i]? =some x) (hkx:φ.env.kindOf x=some .local∨φ.env.kindOf x=some .cell∨φ.env.kindOf x=some .free) (hv:loc[i]? =some (some v))
  (hd:(x==("__debug__" : Str))=false) (hd2:(x==("__classdict__" : Str))=false):wpAny (model G.prog G.w) φ.A (eval (.Name x pos) φ.env) (LQ (wV G) G φ R fz μ loc H v) (fun _ _=>False) s:=by
 have S':=S;obtain ⟨sm,m,vm,ce,B,L⟩:=S;refine wpAny_Name ?_ hd
 rcases hkx with hk|hk
 ·refine oEA ((L.at_ i x hx).1 hk v hv) fun val h1 h2=> ?_
  have hn:s.heap.Ns φ.env.locals vm:=by
   cases hc:φ.comp with
   |none =>rw [D.hloc hc,L.cs.1 hc]; exact B.ns
   |some C =>
    refine oAEA (L.cs.2 C hc) fun _ oC k1 k2=> ?_;rw [D.hcl C hc];obtain ⟨g,mu,tb,T,F,N,Sh⟩:=B;exact k2.ns (N _ (mR _ (mR _ (mR _ (mL _ k1))))).1
  exact wpAny_loadName_local D.hk hk hn h1 (LQ.here S' h2)
 ·refine z0 ((L.at_ i x hx).2 hk) fun c o ov h1 h2 h3 h4=> ?_
  refine oEA (h4 v hv) fun val o1_ k2=> ?_; obtain rfl:=o1_;have hat:s.heap.IsCell c (some val):=by
   obtain ⟨g,mu,tb,T,F,N,Sh⟩:=B;refine ⟨o,(N (c,o) (mR _ (mR _ (mR _ ?_)))).1,h3⟩;exact h2.elim (mL _) fun z=>mR _ (L.rcR _ z.2)
  rcases hk with hk|hk
  ·exact wpAny_loadName_cell D.hk hk h1 hat (LQ.here S' k2)
  ·exact wpAny_loadName_free D.hk hk h1 hat (LQ.here S' k2) hd2
theorem kV_join (o:Option (Option PV)) (H:Hp):kV o H=zC o.join H:=by
 cases o with
 |none=>rfl
 |some o=>cases o <;> rfl
theorem ej_var (D:Good G φ k) {T:Tab} {c:Call} {i:Nat} {x:Str} {pos:Pos} (hx:φ.xs[i]? =some x) (hkx:φ.env.kindOf x=some .local∨φ.env.kindOf x=some .cell∨φ.env.kindOf x=some .free)
  (hd:(x==("__debug__" : Str))=false) (hd2:(x==("__classdict__" : Str))=false):EJ G φ (evE T c (.var i)) (eval (.Name x pos) φ.env) :=
 (SJ.leaf (op:=fun loc _=>loc[i]?.join) fun R fz μ loc H s a S _ e=>lf_name D S hx hkx (Option.join_eq_some_iff.mp e) hd hd2).congr fun loc H=>kV_join _ _
theorem ss_nil:SS G φ (fun loc H=>.ok (.next loc) H) (execs [] φ.env) :=
 fun R fz μ loc H s S hF=>wpAny_execs_nil ⟨_,H,fz,μ,loc,rfl,.refl,S,rfl⟩
theorem SS.congr (h:SS G φ f t) (e:∀ loc H,f' loc H=f loc H):SS G φ f' t:=by
 obtain rfl:f'=f:=funext fun loc=>funext fun H=>e loc H;exact h
theorem ss_cons {f g:Loc→Hp→Rs Fl} {st:Stmt} {rest:List Stmt} (hf:SS G φ f (exec st φ.env)) (hg:SS G φ g (execs rest φ.env)) :
  SS G φ (fun loc H=>(f loc H).bind fun r H=>match r with | .next loc=>g loc H|r=>.ok r H) (execs (st::rest) φ.env):=by
 intro R fz μ loc H s S hF;refine wpAny_execs_cons (wpAny_mono (hf R fz μ loc H s S hF.fst) (fun fl s' h_=> ?_) fun e s' h'=>h'.up .refl fun C H q=>by dsimp only; rw [q]; rfl);obtain ⟨fl',H',fz',μ',loc',e,x,S',q⟩:=h_;dsimp only at hF ⊢;rw [e] at hF ⊢;cases fl' with
 |next l =>
  cases fl with
  |next =>
   have q':loc'=l:=q;subst q';refine wpAny_mono (hg R fz' μ' loc' H' s' S' hF) (fun fl2 s2 h_=>by obtain ⟨fl3,H3,fz3,μ3,loc3,e3,x3,S3,q3⟩:=h_; exact ⟨fl3,H3,fz3,μ3,loc3,e3,x.trans x3,S3,q3⟩) fun e s' h'=>h'.up x fun _ _ q=>q
  |_=>exact q.elim
 |cont l =>
  cases fl with
  |cont=>exact ⟨_,H',fz',μ',loc',rfl,x,S',q⟩
  |_=>exact q.elim
 |ret v =>
  cases fl with
  |ret y=>exact ⟨_,H',fz',μ',loc',rfl,x,S',q⟩
  |_=>exact q.elim
theorem SS.open_ {α β:Type} {W:MW α β} {f:Loc→Hp→Rs α} {g:α→Loc→Hp→Rs Fl} {t:Sem β} (h:SJ G φ MP.top W f t) {Q:β→Shared→Prop} (S:Sat G φ R fz μ loc H s)
  (hF:Fine φ ((f loc H).bind fun a H=>g a loc H))
  (k:∀ a b H' fz' μ' s',f loc H= .ok a H'→Ext fz μ fz' μ'→Sat G φ R fz' μ' loc H' s'→W.r fz' μ' a b→Q b s'):wpAny (model G.prog G.w) φ.A t Q (EX G φ R fz μ ((f loc H).bind fun a H=>g a loc H)) s :=
 wpAny_mono (h R fz μ loc H s S trivial hF.fst) (fun b s' h_=>by obtain ⟨pv,H',fz',μ',e,x,S',w⟩:=h_; exact k pv b H' fz' μ' s' e x S' w) fun e s' h'=>h'.up .refl fun C H q=>by rw [q]; rfl
theorem SS.then_ (e:Ext fz μ fz₁ μ₁) (hr:r=r₂) (h:wpAny (model G.prog G.w) φ.A t (QS G φ R fz₁ μ₁ r₂) (EX G φ R fz₁ μ₁ r₂) s):wpAny (model G.prog G.w) φ.A t (QS G φ R fz μ r) (EX G φ R fz μ r) s:=by
 subst hr;exact wpAny_mono h (fun fl2 s2 h_=>by obtain ⟨fl3,H3,fz3,μ3,loc3,e3,x3,S3,q3⟩:=h_; exact ⟨fl3,H3,fz3,μ3,loc3,e3,e.trans x3,S3,q3⟩) fun e' s' h'=>h'.up e fun _ _ q=>q
theorem wpNo {α:Type} {A:Around} {t:Sem α} {Q:α→Shared→Prop} {E:Value→Shared→Prop} (h:wpAny (model G.prog G.w) A t Q (fun _ _=>False) s):wpAny (model G.prog G.w) A t Q E s:=wpAny_noRaise h
theorem ss_asg (D:Good G φ k) (hc:φ.comp=none) {f:Loc→Hp→Rs PV} {i:Nat} {x:Str} {px pos:Pos} {value:Expr} (hx:φ.xs[i]? =some x) (hkx:φ.env.kindOf x=some .local∨φ.env.kindOf x=some .cell)
  (hs:swapsWith value (some (.Name x px)) pos.line φ.env=pure false) (h:EJ G φ f (eval value φ.env)) :
  SS G φ (fun loc H=>(f loc H).bind fun v H=>.ok (.next (zF loc i (some v))) H) (exec (.Assign [.Name x px] value pos) φ.env):=by
 intro R fz μ loc H s S hF;refine wpAny_Assign_Name (SS.open_ (g:=fun v loc H=>.ok (.next (zF loc i (some v))) H) h S hF fun a b H' fz' μ' s' e x' S' w=> ?_) hs;refine wpNo (wpAny_mono (zpD D hc S' hx hkx w) (fun _ s2 S2=>⟨.next _,H',fz',μ',_,?_,x',S2,rfl⟩) fun _ _ z=>z);dsimp only;rw [e]; rfl
theorem ss_expr (hi:interactive φ.env=false) (hs:swapsWith value none pos.line φ.env=pure false) (h:EJ G φ f (eval value φ.env)) :
  SS G φ (fun loc H=>(f loc H).bind fun v H=>.ok (.next loc) H) (exec (.Expr value pos) φ.env):=by
 intro R fz μ loc H s S hF;refine wpAny_Expr_any (SS.open_ (g:=fun v loc H=>.ok (.next loc) H) h S hF fun a b H' fz' μ' s' e x' S' w=> ?_) hi hs;refine ⟨.next _,H',fz',μ',_,?_,x',S',rfl⟩;dsimp only;rw [e]; rfl
theorem ss_ret (h:EJ G φ f (eval value φ.env)):SS G φ (fun loc H=>(f loc H).bind fun v H=>.ok (.ret v) H) (exec (.Return (some value) pos) φ.env):=by
 intro R fz μ loc H s S hF;refine wpAny_Return_some (SS.open_ (g:=fun v loc H=>.ok (.ret v) H) h S hF fun a b H' fz' μ' s' e x' S' w=> ?_);refine ⟨.ret _,H',fz',μ',_,?_,x',S',w⟩;dsimp only;rw [e]; rfl
theorem ss_retN:SS G φ (fun loc H=>.ok (.ret .none) H) (exec (.Return none pos) φ.env) :=
 fun R fz μ loc H s S hF=>wpAny_Return_none ⟨_,H,fz,μ,loc,rfl,.refl,S,VR.none⟩
theorem ss_cont:SS G φ (fun loc H=>.ok (.cont loc) H) (exec (.Continue pos) φ.env) :=
 fun R fz μ loc H s S hF=>wpAny_Continue ⟨_,H,fz,μ,loc,rfl,.refl,S,rfl⟩
theorem ss_if (ht:TJ G φ t (isTrue test φ.env (eval test φ.env))) (hf:SS G φ f (execs body φ.env)) (hg:SS G φ g (execs orelse φ.env)) :
  SS G φ (fun loc H=>(t loc H).bind fun v H=>(zC (zM v) H).bind fun r H=>if r then f loc H else g loc H) (exec (.If test body orelse pos) φ.env):=by
 refine SS.congr (f:=fun loc H=>(tst t loc H).bind fun r H=>if r then f loc H else g loc H) ?_ fun loc H=>by unfold tst; simp only [zR]
 intro R fz μ loc H s S hF;refine wpAny_If (SS.open_ (g:=fun r loc H=>if r then f loc H else g loc H) ht S hF fun a b H' fz' μ' s' e x' S' w=> ?_);have w':a=b:=w;subst w';dsimp only at hF ⊢;rw [e] at hF ⊢;cases a
 ·exact SS.then_ x' rfl (hg R fz' μ' loc H' s' S' hF)
 ·exact SS.then_ x' rfl (hf R fz' μ' loc H' s' S' hF)
theorem EX.passes {α:Type} {r:Rs α} (D:Good G φ k) (h:EX G φ R fz μ r e s):notedBy (model G.prog G.w) φ.A φ.env (cameBackBy (model G.prog G.w) φ.A φ.env (EX G φ R fz μ r)) e s:=by
 obtain ⟨hc,w⟩:=h;rw [D.hen hc];have:=PassesOwn.leaving (Q₁:=fun e s''=>XQ G φ R fz μ r e s'') (E₁:=fun _ _=>False) e s w;unfold notedBy cameBackBy at this ⊢;exact wpAny_mono this (fun _ s1 h1=>wpAny_mono h1 (fun _ s2 h2=>⟨hc,h2⟩) fun _ _ z=>⟨hc,z⟩) fun _ _ z=>wpAny_mono z (fun _ s2 h2=>⟨hc,h2⟩) fun _ _ z=>⟨hc,z⟩
end
section
variable {G:Gl} {φ:Fx} {k:Nat} {R fz fz₁:zB} {μ μ₁:Mu} {loc:Loc} {H:Hp} {s:Shared} {Γ:MP}
theorem zcH (h:zA H i=po) (hl:live po):H[i]? =some po:=by
 unfold zA at h;cases q:H[i]? with
 |none=>rw [q] at h; simp only at h; subst h; cases hl
 |some o=>rw [q] at h; simp only at h; rw [h]
theorem Sat.freeze (S:Sat G φ R fz μ loc H s) (hi:zA H i=po) (hl:live po):∃ a d o,μ[i]? =some (a,d)∧PoR G fz μ po a d o∧Sat G φ R ((d,o)::fz) μ loc (zF H i .dead) s:=by
 obtain ⟨sm,m,vm,ce,B,L⟩:=S;refine zY (B.freeze (zcH hi hl) hl) fun a d o h1 h2 h3=> ?_;exact ⟨a,d,o,h1,h2,sm,m,vm,ce,h3,L.ext Ext.cons⟩
inductive FzQ (G:Gl) (φ:Fx) (R fz:zB) (μ:Mu) (loc:Loc) (s:Shared) (val:Value) (p:PV×Hp):Prop
 |mk (fz':zB) (x:Ext fz μ fz' μ) (S:Sat G φ R fz' μ loc p.2 s) (w:VR G fz' μ p.1 val)
theorem yqC {i:Nat} {H:Hp} {M:PO→Option (PV×Hp)→Prop} (h0:∀ o,M o none) (h1:∀ vs,M (.lst vs) (some (.lst vs,zF H i .dead))) (h2:∀ ks vs,M (.dicI ks vs) (some (.dicI ks vs,zF H i .dead))) (h3:∀ ks vs,M (.dicS ks vs) (some (.dicS ks vs,zF H i .dead))) (o:PO):M o (frO i H o):=by
 cases o <;> first|exact h0 _|exact h1 _|exact h2 _ _|exact h3 _ _
theorem frS_el {H:Hp} {M:PV→Option (PV×Hp)→Prop} (h0:∀ v,M v (some (v,H))) (h1:∀ i,M (.ref i) (frO i H (zA H i))) (v:PV):M v (xV v H):=by cases v <;> first|exact h0 _|exact h1 _
theorem ykB {H:Hp} {M:PV→Option (PV×Hp)→Prop} (h0:∀ v,M v (some (v,H))) (h1:∀ i,M (.ref i) (fvO i H (zA H i))) (v:PV):M v (frzV v H):=by cases v <;> first|exact h0 _|exact h1 _
theorem yqA {i:Nat} {H:Hp} {M:PO→Option (PV×Hp)→Prop} (h0:∀ o,M o (xV (.ref i) H)) (h1:∀ C ks vs,M (.att C ks vs) ((ycJ vs (zF H i .dead)).map fun q=>(.obj C ks q.1,q.2))) (o:PO):M o (fvO i H o):=by cases o <;> first|exact h0 _|exact h1 _ _ _
theorem Sat.freezeAt (S:Sat G φ R fz μ loc H s) (hm:μ[i]? =some (a,d)) (hi:zA H i=po) (hl:live po):∃ o,PoR G fz μ po a d o∧Sat G φ R ((d,o)::fz) μ loc (zF H i .dead) s:=by
 refine zY (S.freeze hi hl) fun a' d' o h1 h2 S'=> ?_;rw [hm] at h1;obtain ⟨e1,e2⟩:=Prod.mk.inj (Option.some.inj h1);rw [e1,e2];exact ⟨o,h2,S'⟩
theorem zeD (S:Sat G φ R fz μ loc H s) {v:PV} {val:Value} (ha:VR G fz μ v val):On (xV v H) (FzQ G φ R fz μ loc s val) :=
 frS_el (H:=H) (M:=fun v o=>VR G fz μ v val→On o (FzQ G φ R fz μ loc s val)) (fun _ ha=>⟨fz,.refl,S,ha⟩) (fun i ha=>by
  refine VR.ref_el ha fun a d hm=> ?_;refine yqC (i:=i) (H:=H) (M:=fun o r=>zA H i=o→On r (FzQ G φ R fz μ loc s (.ref a))) (fun _ _=>trivial) (fun vs hh=> ?_) (fun ks vs hh=> ?_) (fun ks vs hh=> ?_) _ rfl
  ·refine oEA (S.freezeAt hm hh trivial) fun o o1_ S'=> ?_; obtain ⟨e,vals,n,e',z,q⟩:=o1_
   rw [e'] at S';rw [e];exact ⟨_,Ext.cons,S',zrJ (n:=n) (.inr mQ) z (VRs.mono Ext.cons q)⟩
  ·refine oEA (S.freezeAt hm hh trivial) fun o o1_ S'=> ?_; obtain ⟨e,kvs,z,dd,hk,q⟩:=o1_
   rw [e,hk];rw [e] at z;exact ⟨_,Ext.cons,S',ynE (.inr mQ) z dd (VRs.mono Ext.cons q)⟩
  ·refine oEA (S.freezeAt hm hh trivial) fun o o1_ S'=> ?_; obtain ⟨e,kvs,z,dd,hk,q⟩:=o1_
   rw [e,hk];rw [e] at z;exact ⟨_,Ext.cons,S',ygC (.inr mQ) z dd (VRs.mono Ext.cons q)⟩) v ha
inductive FzQs (G:Gl) (φ:Fx) (R fz:zB) (μ:Mu) (loc:Loc) (s:Shared) (vals:List Value) (p:List PV×Hp):Prop
 |mk (fz':zB) (x:Ext fz μ fz' μ) (S:Sat G φ R fz' μ loc p.2 s) (w:VRs G fz' μ p.1 vals)
theorem frzAll_ok:∀ {vals:List Value} {vs:List PV} {fz:zB} {H:Hp} (S:Sat G φ R fz μ loc H s),VRs G fz μ vs vals→On (ycJ vs H) (FzQs G φ R fz μ loc s vals):=by
 intro vals l1
 induction l1 generalizing vals with
 |nil =>
  intro fz H S q;cases vals with
  |nil=>exact ⟨fz,.refl,S,trivial⟩
  |cons x y=>exact q.elim
 |cons v r ih =>
  intro fz H S q;cases vals with
  |nil=>exact q.elim
  |cons x xs =>
   refine On.bind (On.of fun p hp=>On.map (On.of fun p2 hp2=> ?_));obtain ⟨fz1,x1,S1,w1⟩:=(zeD S q.1).get hp;obtain ⟨fz2,x2,S2,w2⟩:=(ih S1 (VRs.mono x1 q.2)).get hp2;exact ⟨fz2,x1.trans x2,S2,w1.mono x2,w2⟩
theorem vrObj (h1:G.P fz a (instObj (G.ca C) d)) (h2:G.P fz d (dictOf es n)) (hk:All2 (fun k e=>∃ t,e.key= .str (nm k) t) ks es) (q:VRs G fz μ vs (es.map (·.val))):VR G fz μ (.obj C ks vs) (.ref a) :=
 .obj C ks vs es n a d h1 h2 hk (zE q) fun i v x hv hx=>xD q i v x hv hx
theorem yqB (S:Sat G φ R fz μ loc H s) {v:PV} {val:Value} (ha:VR G fz μ v val):On (frzV v H) (FzQ G φ R fz μ loc s val) :=
 ykB (H:=H) (M:=fun v o=>VR G fz μ v val→On o (FzQ G φ R fz μ loc s val)) (fun _ ha=>⟨fz,.refl,S,ha⟩) (fun i ha =>
  yqA (i:=i) (H:=H) (M:=fun o r=>zA H i=o→On r (FzQ G φ R fz μ loc s val)) (fun _ _=>zeD S ha) (fun C ks vs hh=>On.map (On.of fun q hq=>by
   refine oEEA (ha.ref') fun a d e hm=> ?_;refine oEA (S.freezeAt hm hh trivial) fun o o1_ S'=> ?_; obtain ⟨hi,es,n,e',hk,qq⟩:=o1_;rw [e'] at S';obtain ⟨fz2,x2,S2,w2⟩:=(frzAll_ok S' (VRs.mono Ext.cons qq)).get hq;exact ⟨fz2,Ext.cons.trans x2,S2,e▸vrObj (n:=n) ((hi.mono (fun p hp=>mC _ hp)).mono x2.1) (.inr (x2.1 _ mQ)) hk w2⟩)) _ rfl) v ha
theorem fzZ_fine (h:Fine φ (fzZ o)):∃ p,o=some p:=by
 cases o with
 |none=>exact h.elim
 |some p=>exact ⟨p,rfl⟩
theorem ej_frz (h:EJ G φ f t):EJ G φ (fun loc H=>(f loc H).bind fun v H=>fzZ (frzV v H)) t:=by
 intro R fz μ loc H s S hΓ hF
 replace hF:Fine φ ((f loc H).bind fun v H=>fzZ (frzV v H)):=hF
 refine wpAny_mono (h R fz μ loc H s S hΓ hF.fst) (fun v s' h_=> ?_) fun e s' h'=>h'.up .refl fun C H q=>by show (f loc _).bind _=_; rw [q]; rfl
 obtain ⟨pv,H',fz',μ',e,x,S',w⟩:=h_;rw [e] at hF;obtain ⟨p,q⟩:=fzZ_fine (o:=frzV pv H') hF;obtain ⟨fz2,x2,S2,w2⟩:=(yqB S' w).get q;exact ⟨p.1,p.2,fz2,μ',by show (f loc H).bind _=_; rw [e]; show fzZ (frzV pv H')=_; rw [q]; rfl,x.trans x2,S2,w2⟩
theorem zgC.put (S:Sat G φ R fz μ loc H s) (hv:loc[i]? =some (some v)) (hw:∀ val,VR G fz μ v val→VR G fz μ v' val):Sat G φ R fz μ (zF loc i (some v')) H s:=by
 obtain ⟨sm,m,vm,ce,B,L⟩:=S;refine ⟨sm,m,vm,ce,B,L.sepR,L.rcR,L.cs,fun j y hy=>⟨fun hl w hw'=> ?_,fun hl=> ?_⟩⟩
 ·by_cases e:i=j
  ·subst e
   have:=xP hw';cases this;refine oEA ((L.at_ i y hy).1 hl v hv) fun val h1 h2=> ?_;exact ⟨val,h1,hw val h2⟩
  ·rw [yK e] at hw'
   exact (L.at_ j y hy).1 hl w hw'
 ·refine z0 ((L.at_ j y hy).2 hl) fun c2 o2 ov2 k1 k2 k3 k4=> ?_
  refine ⟨c2,o2,ov2,k1,k2,k3,fun w hw'=> ?_⟩
  by_cases e:i=j
  ·subst e
   have:=xP hw';cases this;refine oEA (k4 v hv) fun val h1 h2=> ?_;exact ⟨val,h1,hw val h2⟩
  ·rw [yK e] at hw'
   exact k4 w hw'
theorem frz_same {v:PV} {p:PV×Hp} {H:Hp} {fz':zB} {val val':Value} (e:frzV v H=some p) (h1:VR G fz' μ v val) (h2:VR G fz' μ p.1 val) (h3:VR G fz' μ v val'):VR G fz' μ p.1 val' :=
 (ykB (H:=H) (M:=fun v o=>VR G fz' μ v val→VR G fz' μ v val'→On o fun p=>VR G fz' μ p.1 val→VR G fz' μ p.1 val') (fun v _ h3 _=>h3) (fun i h1 h3=>On.of fun p _ h2=>by
  refine oEEA (h1.ref') fun a d e hm=> ?_;refine oEEA (h3.ref') fun a' d' e' hm'=> ?_;rw [hm] at hm';rw [e',← (Prod.mk.inj (Option.some.inj hm')).1,← e];exact h2) v h1 h3).get e h2
theorem kFz_fine (h:Fine φ (kFz i loc o H)):∃ v p,o=some (some v)∧frzV v H=some p:=by
 cases o with
 |none=>exact h.elim
 |some o=>cases o with
  |none=>exact h.elim
  |some v =>
   cases q:frzV v H with
   |none =>
    replace h:Fine φ (fsZ i loc (frzV v H)):=h
    rw [q] at h; exact h.elim
   |some p=>exact ⟨v,p,rfl,q⟩
theorem slot_vr (S:Sat G φ R fz μ loc H s) {i:Nat} {x:Str} {v:PV} (hx:φ.xs[i]? =some x) (hkx:φ.env.kindOf x=some .local∨φ.env.kindOf x=some .cell) (q:loc[i]? =some (some v)):∃ val,VR G fz μ v val:=by
 obtain ⟨sm,m,vm,ce,B,L⟩:=S
 rcases hkx with hk|hk
 ·refine oEA ((L.at_ i x hx).1 hk v q) fun val _ h2=> ?_
  exact ⟨val,h2⟩
 ·refine z0 ((L.at_ i x hx).2 (.inl hk)) fun _ _ _ _ _ _ h4=> ?_
  refine oEA (h4 v q) fun val _ h2=> ?_;exact ⟨val,h2⟩
theorem ss_frz {f:Loc→Hp→Rs Fl} {i:Nat} {x:Str} {t:Sem Flow} (hx:φ.xs[i]? =some x) (hkx:φ.env.kindOf x=some .local∨φ.env.kindOf x=some .cell) (h:SS G φ f t) :
  SS G φ (fun loc H=>(kFz i loc loc[i]? H).bind (kN f)) t:=by
 intro R fz μ loc H s S hF
 replace hF:Fine φ ((kFz i loc loc[i]? H).bind (kN f)):=hF
 refine oEEA (kFz_fine hF.fst) fun v p q e=> ?_;have e2:kFz i loc loc[i]? H= .ok (.next (zF loc i (some p.1))) p.2:=by rw [q]; show fsZ i loc (frzV v H)=_; rw [e]; rfl
 obtain ⟨val,ha⟩:=slot_vr S hx hkx q;obtain ⟨fz',xx,S',w⟩:=(yqB S ha).get e;have S2:Sat G φ R fz' μ (zF loc i (some p.1)) p.2 s:=zgC.put S' q fun val' h'=>frz_same e (ha.mono xx) w h';rw [e2] at hF;exact SS.then_ xx (by show (kFz i loc loc[i]? H).bind (kN f)=_; rw [e2]; rfl) (h R fz' μ _ p.2 s S2 hF)
end
section
variable {G:Gl} {φ:Fx} {k:Nat} {R fz fz₁:zB} {μ μ₁:Mu} {loc:Loc} {H:Hp} {s:Shared} {Γ:MP} {m:Str→Option Value} {h h':Heap}
theorem zyD (F:Fr g L h m) (hk:∀ b ob,b≠c→h.get? b=some ob→h'.get? b=some ob) (hL:L≠c) (hI:g.get? c=none):Fr g L h' m :=
 ⟨F.ns.at' fun o e=>hk L o hL e,fun b o e=>hk b o (fun z=>by rw [z,hI] at e; cases e) (F.keep b o e),F.above⟩
variable {c:Addr} {o:Obj}
theorem Base.hidGrow (x:Base G φ m ((c,o)::R) fz μ H h) (keep:∀ b ob,b≠c→h.get? b=some ob→h'.get? b=some ob) (ho:h'.get? c=some o') (hR:∀ p∈R,p.1≠c):Base G φ m ((c,o')::R) fz μ H h':=by
 obtain ⟨g,mu,tb,T,F,N,S⟩:=x;have inn:(c,o)∈fz++(mu++(tb++(c,o)::R)):=mR _ (mR _ (mR _ mQ));have hd:=N _ inn;refine ⟨g,mu,tb,T,zyD F keep (Ne.symm hd.2.1) hd.2.2,fun p hp=> ?_,S.len,S.live,S.own,S.inj,fun p hp q hq=> ?_,fun p hp q hq=> ?_,fun p hp q hq=> ?_,S.fun_,S.tab,S.tfun⟩
 ·simp only [List.mem_append,List.mem_cons] at hp
  rcases hp with hp|hp|hp|rfl|hp
  ·have hN:=N p (mL _ hp)
   exact ⟨keep _ _ (fun e=>S.sepF p hp (c,o) (mR _ mQ) e.symm) hN.1,hN.2⟩
  ·have hN:=N p (mR _ (mL _ hp))
   exact ⟨keep _ _ (fun e=>S.sepM p hp (c,o) (mR _ (mR _ mQ)) e.symm) hN.1,hN.2⟩
  ·have hN:=N p (mR _ (mR _ (mL _ hp)))
   exact ⟨keep _ _ (fun e=>S.sepT p hp (c,o) mQ e.symm) hN.1,hN.2⟩
  ·exact ⟨ho,hd.2⟩
  ·have hN:=N p (mR _ (mR _ (mR _ (mC _ hp))))
   exact ⟨keep _ _ (hR p hp) hN.1,hN.2⟩
 ·simp only [List.mem_append,List.mem_cons] at hq
  rcases hq with hq|hq|rfl|hq
  ·exact S.sepM p hp q (mL _ hq)
  ·exact S.sepM p hp q (mR _ (mL _ hq))
  ·exact S.sepM p hp (c,o) (mR _ (mR _ mQ))
  ·exact S.sepM p hp q (mR _ (mR _ (mC _ hq)))
 ·simp only [List.mem_append,List.mem_cons] at hq
  rcases hq with hq|rfl|hq
  ·exact S.sepF p hp q (mL _ hq)
  ·exact S.sepF p hp (c,o) (mR _ mQ)
  ·exact S.sepF p hp q (mR _ (mC _ hq))
 ·simp only [List.mem_cons] at hq
  rcases hq with rfl|hq
  ·exact S.sepT p hp (c,o) mQ
  ·exact S.sepT p hp q (mC _ hq)
theorem Base.dropGrow (x:Base G φ m ((c,o)::R) fz μ H h) (keep:∀ b ob,b≠c→h.get? b=some ob→h'.get? b=some ob) (hR:∀ p∈R,p.1≠c):Base G φ m R fz μ H h':=by
 obtain ⟨g,mu,tb,T,F,N,S⟩:=x;have inn:(c,o)∈fz++(mu++(tb++(c,o)::R)):=mR _ (mR _ (mR _ mQ));have hd:=N _ inn;refine ⟨g,mu,tb,T,zyD F keep (Ne.symm hd.2.1) hd.2.2,fun p hp=> ?_,S.len,S.live,S.own,S.inj,fun p hp q hq=>S.sepM p hp q ?_,fun p hp q hq=>S.sepF p hp q ?_,fun p hp q hq=>S.sepT p hp q (mC _ hq),S.fun_,S.tab,S.tfun⟩
 ·simp only [List.mem_append] at hp
  rcases hp with hp|hp|hp|hp
  ·have hN:=N p (mL _ hp)
   exact ⟨keep _ _ (fun e=>S.sepF p hp (c,o) (mR _ mQ) e.symm) hN.1,hN.2⟩
  ·have hN:=N p (mR _ (mL _ hp))
   exact ⟨keep _ _ (fun e=>S.sepM p hp (c,o) (mR _ (mR _ mQ)) e.symm) hN.1,hN.2⟩
  ·have hN:=N p (mR _ (mR _ (mL _ hp)))
   exact ⟨keep _ _ (fun e=>S.sepT p hp (c,o) mQ e.symm) hN.1,hN.2⟩
  ·have hN:=N p (mR _ (mR _ (mR _ (mC _ hp))))
   exact ⟨keep _ _ (hR p hp) hN.1,hN.2⟩
 ·simp only [List.mem_append] at hq ⊢
  exact hq.imp id fun h=>h.imp id fun h=>mC _ h
 ·simp only [List.mem_append] at hq ⊢
  exact hq.imp id fun h=>mC _ h
theorem Sat.rMem (S:Sat G φ R fz μ loc H s) (hp:p∈R):s.heap.get? p.1=some p.2:=by
 obtain ⟨_,m,vm,ce,⟨g,mu,tb,T,F,N,Sh⟩,L⟩:=S;exact (N _ (mR _ (mR _ (mR _ (mR _ hp))))).1
theorem zqD:q∈p::(ce++R)→q∈ce++p::R:=fun h=>by
 simp only [List.mem_cons,List.mem_append] at h ⊢
 rcases h with h|h|h
 ·exact .inr (.inl h)
 ·exact .inl h
 ·exact .inr (.inr h)
theorem zuC:q∈ce++p::R→q∈p::(ce++R):=fun h=>by
 simp only [List.mem_cons,List.mem_append] at h ⊢
 rcases h with h|h|h
 ·exact .inr (.inl h)
 ·exact .inl h
 ·exact .inr (.inr h)
noncomputable def Out (φ:Fx) (R:zB) (c:Addr):Prop:=(∀ p∈R,p.1≠c)∧∀ p∈φ.rc,p∈R
theorem Sat.out (S:Sat G φ R fz μ loc H s) (hn:s.heap.get? c=none):Out φ R c:=by
 refine ⟨fun p hp e=> ?_,?_⟩
 ·have:=S.rMem hp
  rw [e,hn] at this; cases this
 ·obtain ⟨sm,m,vm,ce,B,L⟩:=S
  exact L.rcR
theorem Sat.hide1 (S:Sat G φ R fz μ loc H s) (kp:∀ b ob,s.heap.get? b=some ob→h'.get? b=some ob) (hc:h'.get? c=some o) (hn:s.heap.get? c=none) :
  Sat G φ ((c,o)::R) fz μ loc H {s with heap:=h',toks:=tk}∧Out φ R c:=by
 refine ⟨?_,S.out hn⟩;obtain ⟨sm,m,vm,ce,B,L⟩:=S;have B':=B.hideNew (h':=h') kp (new:=[(c,o)]) fun p hp=>by rw [List.mem_singleton] at hp; subst hp; exact ⟨hc,hn⟩
 refine ⟨sm,m,vm,ce,B'.sub fun p hp=>by simpa using zuC hp,fun p hp q hq=> ?_,fun p hp=>mC _ (L.rcR p hp),L.cs,L.at_⟩
 rcases mN hq with rfl|hq
 ·intro e
  obtain ⟨g,mu,tb,T,F,N,Sh⟩:=B;have:=(N _ (mR _ (mR _ (mR _ (mL _ hp))))).1;rw [← e] at this;dsimp only at this;rw [hn] at this; cases this
 ·exact L.sepR p hp q hq
theorem Sat.hidGrow (S:Sat G φ ((c,o)::R) fz μ loc H s) (kp:∀ b ob,b≠c→s.heap.get? b=some ob→h'.get? b=some ob) (hc:h'.get? c=some o') (hR:Out φ R c) :
  Sat G φ ((c,o')::R) fz μ loc H {s with heap:=h',toks:=tk}:=by
 obtain ⟨sm,m,vm,ce,B,L⟩:=S;have B':Base G φ m ((c,o')::(ce++R)) fz μ H h':=Base.hidGrow (o:=o) (B.sub fun p hp=>zqD hp) kp hc fun p hp=>by
  rcases mP hp with hp|hp
  ·exact Ne.symm (L.sepR p hp (c,o) mQ)
  ·exact hR.1 p hp
 refine ⟨sm,m,vm,ce,B'.sub fun p hp=>zuC hp,fun p hp q hq=> ?_,fun p hp=>mC _ (hR.2 p hp),L.cs,L.at_⟩
 rcases mN hq with rfl|hq
 ·exact L.sepR p hp (c,o) mQ
 ·exact L.sepR p hp q (mC _ hq)
theorem Sat.dropGrow (S:Sat G φ ((c,o)::R) fz μ loc H s) (kp:∀ b ob,b≠c→s.heap.get? b=some ob→h'.get? b=some ob) (hR:Out φ R c):Sat G φ R fz μ loc H {s with heap:=h',toks:=tk}:=by
 obtain ⟨sm,m,vm,ce,B,L⟩:=S;have B':Base G φ m (ce++R) fz μ H h':=Base.dropGrow (c:=c) (o:=o) (B.sub fun p hp=>zqD hp) kp fun p hp=>by
  rcases mP hp with hp|hp
  ·exact Ne.symm (L.sepR p hp (c,o) mQ)
  ·exact hR.1 p hp
 exact ⟨sm,m,vm,ce,B',fun p hp q hq=>L.sepR p hp q (mC _ hq),hR.2,L.cs,L.at_⟩
theorem Sat.drop (S:Sat G φ ((c,o)::R) fz μ loc H s) (hR:Out φ R c):Sat G φ R fz μ loc H s:=by
 obtain ⟨sm,m,vm,ce,B,L⟩:=S;refine ⟨sm,m,vm,ce,B.sub fun p hp=> ?_,fun p hp q hq=>L.sepR p hp q (mC _ hq),hR.2,L.cs,L.at_⟩
 rcases mP hp with hp|hp
 ·exact mL _ hp
 ·exact mR _ (mC _ hp)
inductive ItOk (G:Gl) (φ:Fx) (fz:zB) (μ:Mu) (I:Addr) (i:Nat) (items:List PV) (o:Obj):Prop
 |mk (n:Nat) (fp:List Addr) (P:Nat→Value→Prop) (St:Nat→Heap→Prop) (W:Walks G.prog G.w φ.A I fp [I] n P St) (hn:items.length=n) (h1:∀ (j:Nat) v pv,P j v→items[j]? =some pv→VR G fz μ pv v) (h2:∀ b∈fp,b=I∨∃ ob,G.P fz b ob)
  (h3:∀ (j:Nat) h,St j h→∃ o,h.get? I=some o) (h4:∀ h:Heap,h.get? I=some o→(∀ b ob,G.P fz b ob→h.get? b=some ob)→St i h)
theorem ItOk.mono (x:ItOk G φ fz μ I i items o) (e:Ext fz μ fz₁ μ₁):ItOk G φ fz₁ μ₁ I i items o:=by
 obtain ⟨n,fp,P,St,W,hn,h1,h2,h3,h4⟩:=x;exact ⟨n,fp,P,St,W,hn,fun j v pv hp hi=>(h1 j v pv hp hi).mono e,fun b hb=>(h2 b hb).imp id fun h_=>by obtain ⟨ob,h⟩:=h_; exact ⟨ob,h.mono e.1⟩,h3,fun h hI hf=>h4 h hI fun b ob hb=>hf b ob (hb.mono e.1)⟩
theorem ItOk.next (D:Good G φ k) (x:ItOk G φ fz μ I i items o) (S:Sat G φ ((I,o)::R) fz μ loc H s) (hR:Out φ R I) (hi:items[i]? =some pv) :
  wpAny (model G.prog G.w) φ.A (pyNext (.ref I)) (fun r s'=>∃ v o',r=some v∧VR G fz μ pv v∧Sat G φ ((I,o')::R) fz μ loc H s'∧ItOk G φ fz μ I (i+1) items o') (fun _ _=>False) s:=by
 obtain ⟨n,fp,P,St,W,rfl,h1,h2,h3,h4⟩:=x;refine W.item i s _ _ (List.getElem?_eq_some_iff.mp hi).1 (h4 _ (S.rMem mQ) fun b ob hb=>S.P D hb) fun v h' tk hP hst hk=> ?_;obtain ⟨o',ho'⟩:=h3 _ _ hst;have S':Sat G φ ((I,o')::R) fz μ loc H {s with heap:=h',toks:=tk}:=S.hidGrow (fun b ob hb e=>hk b ob (by simpa using hb) e) ho' hR;refine ⟨v,o',rfl,h1 i v pv hP hi,S',_,fp,P,St,W,rfl,h1,h2,h3,fun h hI hf=>W.frame _ h' h hst fun b hb ob e=> ?_⟩
 rcases h2 b hb with rfl|⟨ob',hob⟩
 ·rw [ho'] at e; cases e; exact hI
 ·have:=S'.P D hob
  rw [show ({s with heap:=h',toks:=tk}:Shared).heap=h' from rfl,e] at this;cases this;exact hf _ _ hob
theorem ItOk.done (D:Good G φ k) (x:ItOk G φ fz μ I items.length items o) (S:Sat G φ ((I,o)::R) fz μ loc H s) (hR:Out φ R I) :
  wpAny (model G.prog G.w) φ.A (pyNext (.ref I)) (fun r s'=>r=none∧Sat G φ R fz μ loc H s') (fun _ _=>False) s:=by
 obtain ⟨n,fp,P,St,W,rfl,h1,h2,h3,h4⟩:=x;refine W.done s _ _ (h4 _ (S.rMem mQ) fun b ob hb=>S.P D hb) fun h' tk hk=>⟨rfl,S.dropGrow (fun b ob hb e=>hk b ob (by simpa using hb) e) hR⟩
theorem ztB:Builtin.Range.rangeSize a b ((c:Int)+1)=(((b-a+(c:Int)).toNat / (c+1):Nat):Int):=by
 unfold Builtin.Range.rangeSize;rw [if_pos (by lia)]
 split
 ·rename_i h
  obtain ⟨n,hn⟩:∃ n:Nat,b-a=(n:Int)+1:=⟨(b-a-1).toNat,by lia⟩;rw [hn];have e1:((n:Int)+1+(c:Int)).toNat=n+(c+1):=by lia
  have e2:(n:Int)+1-1=((n:Nat):Int):=by lia
  rw [e1,e2,Nat.add_div_right _ (by lia)]
  push_cast
  rfl
 ·rename_i h
  have:(b-a+(c:Int)).toNat<c+1:=by lia
  rw [Nat.div_eq_of_lt this]; rfl
theorem yaJ:(rngL a b ((c:Int)+1)).length=(b-a+(c:Int)).toNat / (c+1):=by
 have:((c:Int)+1)=Int.ofNat (c+1):=rfl;rw [this];exact (List.length_map ..).trans List.length_range
theorem rngL_at {a b:Int} {c i:Nat} {pv:PV} (h:(rngL a b ((c:Int)+1))[i]? =some pv):pv= .int (a+(i:Int)*((c:Int)+1)):=by
 have e:((c:Int)+1)=Int.ofNat (c+1):=rfl;rw [e] at h;have h:=List.getElem?_map.symm.trans h;simp only [Option.map_eq_some_iff] at h;refine oEA h fun j hj o1_=> ?_; (try clear h); obtain rfl:=o1_;have:=List.getElem?_eq_some_iff.mp hj;obtain ⟨_,e2⟩:=this;rw [List.getElem_range] at e2;subst e2; rfl
theorem zeA (h:i.natAbs≤4000000):Builtin.Range.rangeFitsLong i=true:=by
 unfold Builtin.Range.rangeFitsLong;simp only [Bool.and_eq_true,decide_eq_true_eq]
 lia
theorem ycF {M:PV→List PV→Prop} (h1:∀ vs,M (.lst vs) vs) (h2:∀ l:List Nat,M (.bytes l) (l.map fun x=>.int (.ofNat x)))
  (h3:∀ a b c:Int,(0<c∧(a.natAbs≤1000000∧b.natAbs≤1000000∧c.natAbs≤1000)∧(rngL a b c).length≤SZ)→M (.rng a b c) (rngL a b c)) (h4:∀ ks vs,M (.dicI ks vs) (ks.map .int)) (h5:∀ ks vs,M (.dicS ks vs) (ks.map .str)) (v:PV):On (yS v) (M v):=by
 cases v <;> first|exact trivial|exact h1 _|exact h2 _|exact h4 _ _|exact h5 _ _|exact On.ite (h3 _ _ _)
inductive zfB (G:Gl) (φ:Fx) (R fz:zB) (μ:Mu) (loc:Loc) (H:Hp) (items:List PV) (it:Value) (s':Shared):Prop
 |mk (I:Addr) (o:Obj) (e:it= .ref I) (S:Sat G φ ((I,o)::R) fz μ loc H s') (hR:Out φ R I) (k:ItOk G φ fz μ I 0 items o)
theorem zfB.new (D:Good G φ k) (S:Sat G φ R fz μ loc H s) (hf:o.isFreed=false) (k:ItOk G φ fz μ s.heap.objs.size 0 items o):zfB G φ R fz μ loc H items (.ref s.heap.objs.size) {s with heap:=s.heap.push o} :=
 ⟨_,o,rfl,(S.hide1 (tk:=s.toks) (fun b ob e=>Heap.get?_push_of_some _ e) (Heap.get?_push_size _ hf) S.none_).1,S.out S.none_,k⟩
theorem fp1:∀ b∈[I],b=I∨∃ ob,G.P fz b ob:=fun b hb=>.inl (List.mem_singleton.mp hb)
theorem fp2 (h:G.P fz a oa):∀ b∈[I,a],b=I∨∃ ob,G.P fz b ob:=fun b hb=>(mN hb).imp id fun h'=>⟨oa,by rw [List.mem_singleton.mp h']; exact h⟩
theorem Sat.ne_new (D:Good G φ k) (S:Sat G φ R fz μ loc H s) (h:G.P fz a o):a≠s.heap.objs.size:=Nat.ne_of_lt (Heap.lt_size (S.P D h))
theorem open_lst (D:Good G φ k) (S:Sat G φ R fz μ loc H s) (hP:G.P fz a (lstO vals n)) (q:VRs G fz μ vs vals):wpAny (model G.prog G.w) φ.A (pyIter (.ref a)) (zfB G φ R fz μ loc H vs) (fun _ _=>False) s :=
 wpAny_pyIter_list (S.isLst D hP) (.new D S rfl ⟨_,[s.heap.objs.size,a],_,_,Walks.list D.hh _ _ (S.ne_new D hP) vals.toArray,by simpa using zE q,fun j v pv hp hi=>xD q j pv v hi (by simpa using hp),fp2 hP,fun j h hs=>by obtain ⟨⟨o,ho,_⟩,_⟩:=hs; exact ⟨o,ho⟩,fun h hI hf=>⟨⟨_,hI,rfl,rfl⟩,⟨_,hf _ _ hP,rfl,n,rfl⟩⟩⟩)
theorem open_bytes (D:Good G φ k) (S:Sat G φ R fz μ loc H s):wpAny (model G.prog G.w) φ.A (pyIter (.bytes b t)) (zfB G φ R fz μ loc H ((b.toList.map UInt8.toNat).map fun x=>.int (.ofNat x))) (fun _ _=>False) s:=by
 refine KBw.pyIter_bytes (.new D S rfl ⟨_,[s.heap.objs.size],_,_,KBw.walks D.hh _ b t,by simp,fun j v pv hp hi=> ?_,fp1,fun j h hs=>by refine oEA hs fun o ho _=> ?_; (try clear hs); exact ⟨o,ho⟩,fun h hI hf=>⟨_,hI,rfl,rfl⟩⟩);refine oEEA hp fun c u hc o1_=> ?_; (try clear hp); obtain rfl:=o1_;simp only [List.getElem?_map,Array.getElem?_toList,hc,Option.map_some] at hi;exact Option.some.inj hi▸VR.int _ _
theorem rng_small (h:a.natAbs≤1000000∧b.natAbs≤1000000∧((c:Int)+1).natAbs≤1000) (hz:(b-a+(c:Int)).toNat / (c+1)≤65536):Builtin.Range.small a b ((c:Int)+1)=true:=by
 refine oAA h fun ha1 ha2 ha3=> ?_; (try clear h);unfold Builtin.Range.small;rw [ztB,zeA (i:=a) (Nat.le_trans ha1 (by decide)),zeA (i:=b) (Nat.le_trans ha2 (by decide)),zeA (i:=(c:Int)+1) (Nat.le_trans ha3 (by decide)),zeA (i:=((_:Nat):Int)) (by rw [Int.natAbs_natCast]; exact Nat.le_trans hz (by decide)),if_pos (by lia),Int.add_sub_cancel,zeA (i:=b+_) (Nat.le_trans (Int.natAbs_add_le _ _) (Nat.le_trans (Nat.add_le_add ha2 (show (c:Int).natAbs≤1000 from Nat.le_of_succ_le ha3)) (by decide))),Bool.or_true]
 rfl
theorem open_rng (D:Good G φ k) (S:Sat G φ R fz μ loc H s) {a b c:Int} (hc:0<c∧(a.natAbs≤1000000∧b.natAbs≤1000000∧c.natAbs≤1000)∧(rngL a b c).length≤SZ) {x:Value} (hx:VR G fz μ (.rng a b c) x):wpAny (model G.prog G.w) φ.A (pyIter x) (zfB G φ R fz μ loc H (rngL a b c)) (fun _ _=>False) s:=by
 obtain ⟨c',rfl⟩:∃ c':Nat,c=(c':Int)+1:=⟨(c-1).toNat,by lia⟩;have hz:=hc.2.2;rw [yaJ,yfE] at hz;refine hx.inv (fun x=>wpAny (model G.prog G.w) φ.A (pyIter x) (zfB G φ R fz μ loc H (rngL a b ((c':Int)+1))) (fun _ _=>False) s) fun r o t u w hP hr=> ?_;refine wpAny_pyIter_range (hr _ (S.P D hP)) (rng_small hc.2.1 hz) (.new D S rfl ⟨_,[s.heap.objs.size],_,_,Walks.range D.hh _ a ((c':Int)+1) ((b-a+(c':Int)).toNat / (c'+1)),yaJ,fun j v pv hp hi=> ?_,fp1,fun j h hs=>⟨_,hs⟩,fun h hI hf=> ?_⟩)
 ·obtain ⟨t,rfl⟩:=hp
  exact rngL_at hi▸VR.int _ _
 ·show h.get? _=_
  rw [hI,ztB]
  simp
theorem ybC (D:Good G φ k) (S:Sat G φ R fz μ loc H s) {K:Type} [DecidableEq K] {kind:PySem.KeyKind G.prog G.w K} {kvs:List (K×Value)} (hP:G.P fz a o) (z:zP a) (dd:zK kind kvs o) (hl:ks.length=kvs.length)
  (hk:∀ (j:Nat) v pv (kk:K) x,kvs[j]? =some (kk,x)→kind.is kk v=true→ks[j]? =some pv→VR G fz μ pv v):wpAny (model G.prog G.w) φ.A (pyIter (.ref a)) (zfB G φ R fz μ loc H ks) (fun _ _=>False) s:=by
 refine xC (dd.2) fun es ep hd hk1 hk2 hk3=> ?_;have hat:∀ h:Heap,h.get? a=some o→h.DictAt kind a kvs ep:=fun h e=>⟨o,es,e,dd.1,hd,hk1,hk2,hk3⟩;exact wpAny_pyIter_dict z (hat _ (S.P D hP)) (.new D S rfl ⟨_,[s.heap.objs.size,a],_,_,Walks.dictKeys D.hh _ _ (S.ne_new D hP) kvs ep,hl,fun j v pv h_ hi=>by refine oEEA h_ fun kk x hx hi2=> ?_; (try clear h_); exact hk j v pv kk x hx hi2 hi,fp2 hP,fun j h hs=>by obtain ⟨⟨o,ho,_⟩,_⟩:=hs; exact ⟨o,ho⟩,fun h hI hf=>⟨⟨_,hI,rfl,rfl⟩,hat _ (hf _ _ hP)⟩⟩)
theorem zlC (D:Good G φ k) (S:Sat G φ R fz μ loc H s) {v:PV} {x:Value} {items:List PV} (ha:VR G fz μ v x) (e:yS v=some items) :
  wpAny (model G.prog G.w) φ.A (pyIter x) (zfB G φ R fz μ loc H items) (fun _ _=>False) s:=by
 refine (ycF (M:=fun v items=>∀ x,VR G fz μ v x→wpAny (model G.prog G.w) φ.A (pyIter x) (zfB G φ R fz μ loc H items) (fun _ _=>False) s) (fun vs x ha=> ?_) (fun l x ha=> ?_) (fun a b c hc x ha=>open_rng D S hc ha) (fun ks vs x ha=> ?_) (fun ks vs x ha=> ?_) v).get e x ha
 ·refine VR.lst_el ha fun vals n a hP z q=>open_lst D S hP q
 ·refine VR.bytes_el ha fun b t hb z=> ?_
  rw [← hb]; exact open_bytes D S
 ·refine VR.dicI_el ha fun kvs a o hP z dd hk q=> ?_
  rw [hk];refine ybC D S hP z.1 dd (by simp) fun j v pv kk x hx hi2 hi=> ?_;simp only [List.getElem?_map,hx,Option.map_some] at hi;obtain ⟨t,rfl⟩:=Value.isInt_shape hi2;exact Option.some.inj hi▸VR.int _ _
 ·refine VR.dicS_el ha fun kvs a o hP z dd hk q=> ?_
  rw [hk];refine ybC D S hP z.1 dd (by simp) fun j v pv kk x hx hi2 hi=> ?_;simp only [List.getElem?_map,hx,Option.map_some] at hi;obtain ⟨t,rfl⟩:=Value.isStrOf_shape hi2;exact Option.some.inj hi▸VR.str _ _ (z.2.2 _ (List.mem_of_getElem? hx))
end
section
variable {G:Gl} {φ:Fx} {k:Nat} {R fz fz₁:zB} {μ μ₁:Mu} {loc:Loc} {H:Hp} {s:Shared} {Γ:MP}
noncomputable def LR (G:Gl) (φ:Fx) (R fz:zB) (μ:Mu) (r:Rs Fl) (res:Result) (s:Shared):Prop:=match res with
 | .ok f=>QS G φ R fz μ r f s
 | .error e=>cameBackBy (model G.prog G.w) φ.A φ.env (EX G φ R fz μ r) e s
theorem QS.up {r r':Rs Fl} {f:Flow} (e:Ext fz μ fz₁ μ₁) (hr:r'=r) (h:QS G φ R fz₁ μ₁ r f s):QS G φ R fz μ r' f s:=by
 subst hr;obtain ⟨fl3,H3,fz3,μ3,loc3,e3,x3,S3,q3⟩:=h;exact ⟨fl3,H3,fz3,μ3,loc3,e3,e.trans x3,S3,q3⟩
noncomputable def yeI (k:Loc→Hp→Rs Fl) (r:Fl) (H:Hp):Rs Fl:=match r with
 | .next loc=>k loc H
 | .cont loc=>k loc H
 | .ret v=>.ok (.ret v) H
theorem while_succ {t:Loc→Hp→Rs PV} {f:Loc→Hp→Rs Fl} {n:Nat} {loc:Loc} {H:Hp}:zL t f (n+1) loc H=(tst t loc H).bind fun b H=>if b then (f loc H).bind (yeI (zL t f n)) else .ok (.next loc) H:=by
 exact (zR (t loc H) (fun v H=>zC (zM v) H) _).symm
theorem zsD {fl:Flow} {r:Rs Fl} {k:Loc→Hp→Rs Fl} {r₀:Rs Fl} {I:Nat→Shared→Prop} {n j:Nat} {Rr:Result→Shared→Prop} (h:QS G φ R fz₁ μ₁ r fl s) (x:Ext fz μ fz₁ μ₁) (hj:j<n) (hr:r₀=r.bind (yeI k))
  (hR:∀ f s,QS G φ R fz μ r₀ f s→Rr (.ok f) s) (hI:∀ loc' H' fz' μ',k loc' H'=r₀→Ext fz₁ μ₁ fz' μ'→Sat G φ R fz' μ' loc' H' s→I j s) :
  match (generalizing:=false) fl with
  | .next | .cont=>∃ m,m<n∧I m s
  | .brk=>Rr (.ok .next) s
  | .ret v=>Rr (.ok (.ret v)) s:=by
 obtain ⟨fl',H2,fz2,μ2,loc2,e3,x2,S2,q⟩:=h;subst e3;cases fl' with
 |next l =>
  cases fl with
  |next =>
   have q':loc2=l:=q;subst q';exact ⟨j,hj,hI loc2 H2 fz2 μ2 hr.symm x2 S2⟩
  |_=>exact q.elim
 |cont l =>
  cases fl with
  |cont =>
   have q':loc2=l:=q;subst q';exact ⟨j,hj,hI loc2 H2 fz2 μ2 hr.symm x2 S2⟩
  |_=>exact q.elim
 |ret v =>
  cases fl with
  |ret y=>exact hR _ _ ⟨_,H2,fz2,μ2,loc2,hr,x.trans x2,S2,q⟩
  |_=>exact q.elim
theorem ss_while (D:Good G φ k) {t:Loc→Hp→Rs PV} {f:Loc→Hp→Rs Fl} {test:Expr} {body:List Stmt} {pos:Pos} {n₀:Nat} (ht:TJ G φ t (isTrue test φ.env (eval test φ.env))) (hf:SS G φ f (execs body φ.env)) :
  SS G φ (fun loc H=>zL t f n₀ loc H) (exec (.While test body [] pos) φ.env):=by
 intro R fz μ loc H s S hF;dsimp only at hF ⊢;generalize hr:zL t f n₀ loc H=r₀ at hF ⊢;refine wpAny_While (codeAny_mono (R:=LR G φ R fz μ r₀) ?_ fun r s h=>by cases r <;> exact h)
 refine codeAny_whileLoop (fun n s=>∃ loc' H' fz' μ',zL t f n loc' H'=r₀∧Ext fz μ fz' μ'∧Sat G φ R fz' μ' loc' H' s) (fun n s hI=> ?_) n₀ ⟨loc,H,fz,μ,hr,.refl,S⟩;refine zcD hI fun loc' H' fz' μ' e x S'=> ?_; (try clear hI);cases n with
 |zero =>
  have:r₀= .bad:=e.symm;subst this;exact hF.elim
 |succ n =>
  rw [while_succ] at e;have hF':=hF;rw [← e] at hF';refine wpAny_mono (SS.open_ (g:=fun b loc H=>if b then (f loc H).bind (yeI (zL t f n)) else .ok (.next loc) H) ht S' hF' fun a b H1 fz1 μ1 s1 e2 x1 S1 w=> ?_) (fun _ _ z=>z) fun e2 s2 hx=>(hx.up x fun _ _ q=>e▸q).passes D;have w':a=b:=w;subst w';rw [e2] at e;rw [e2] at hF';cases a
  ·exact wpAny_execs_nil ⟨_,H1,fz1,μ1,loc',e.symm,x.trans x1,S1,rfl⟩
  ·have e':(f loc' H1).bind (yeI (zL t f n))=r₀:=e
   have hF1:Fine φ ((f loc' H1).bind (yeI (zL t f n))):=hF';refine wpAny_mono (hf R fz1 μ1 loc' H1 s1 S1 hF1.fst) (fun fl s2 hq=> ?_) fun e3 s2 hx=>EX.passes D (hx.up (x.trans x1) fun C H q=> ?_)
   ·exact zsD (Rr:=LR G φ R fz μ r₀) (I:=fun n s=>∃ loc' H' fz' μ',zL t f n loc' H'=r₀∧Ext fz μ fz' μ'∧Sat G φ R fz' μ' loc' H' s) hq (x.trans x1) (Nat.lt_succ_self n) e'.symm (fun f s h=>h) fun loc2 H2 fz2 μ2 h1 h2 h3=>⟨loc2,H2,fz2,μ2,h1,(x.trans x1).trans h2,h3⟩
   ·rw [← e',q]; rfl
theorem EX.sub {α:Type} {r:Rs α} (h:EX G φ R fz μ r e s) (hs:∀ p∈R',p∈R):EX G φ R' fz μ r e s :=
 ⟨h.1,wpAny_mono h.2 (fun _ s' h_=>by obtain ⟨C,H,fz',μ',h1,h2,h3⟩:=h_; exact ⟨C,H,fz',μ',h1,h2,h3.sub hs⟩) fun _ _ z=>z⟩
theorem QS.drop (h:QS G φ ((c,o)::R) fz μ r f s) (hR:Out φ R c):QS G φ R fz μ r f s:=by
 obtain ⟨fl3,H3,fz3,μ3,loc3,e3,x3,S3,q3⟩:=h;exact ⟨fl3,H3,fz3,μ3,loc3,e3,x3,S3.drop hR,q3⟩
theorem for_cons:z4 i f (v::vs) loc H=(f (zF loc i (some v)) H).bind (yeI (z4 i f vs)):=by
 rfl
inductive zwF (G:Gl) (φ:Fx) (R fz:zB) (μ:Mu) (I:Addr) (items:List PV) (i:Nat) (f:Loc→Hp→Rs Fl) (r₀:Rs Fl):Nat→Shared→Prop
 |mk {j:Nat} {loc':Loc} {H':Hp} {fz':zB} {μ':Mu} {o:Obj} {s:Shared}:z4 i f (items.drop j) loc' H'=r₀→j≤items.length→Ext fz μ fz' μ'→Sat G φ ((I,o)::R) fz' μ' loc' H' s→ItOk G φ fz' μ' I j items o→zwF G φ R fz μ I items i f r₀ (items.length+1-j) s
theorem for_turn (D:Good G φ k) (hc:φ.comp=none) {f:Loc→Hp→Rs Fl} {i:Nat} {x:Str} {px:Pos} {body:List Stmt} (hx:φ.xs[i]? =some x) (hkx:φ.env.kindOf x=some .local∨φ.env.kindOf x=some .cell) (hf:SS G φ f (execs body φ.env)) {I:Addr} {items:List PV} {r₀:Rs Fl} (hR:Out φ R I) (hF:Fine φ r₀) {n:Nat}
  (h:zwF G φ R fz μ I items i f r₀ n s):wpAny (model G.prog G.w) φ.A (pyNext (.ref I)) (fun r s₁=>match r with
   |none=>wpAny (model G.prog G.w) φ.A (execs [] φ.env) (fun f s₃=>LR G φ R fz μ r₀ (.ok f) s₃) (notedBy (model G.prog G.w) φ.A φ.env fun e s'=>LR G φ R fz μ r₀ (.error e) s') s₁
   |some v=>wpAny (model G.prog G.w) φ.A (letOwnedTupleGo (.Name x px) (.ref I) v) (fun _ s₁' =>
     wpAny (model G.prog G.w) φ.A (assign (.Name x px) φ.env v) (fun _ s₂=>wpAny (model G.prog G.w) φ.A (execs body φ.env) (fun f1 s₃=>match f1 with
      | .next | .cont=>∃ m,m<n∧zwF G φ R fz μ I items i f r₀ m s₃
      | .brk=>LR G φ R fz μ r₀ (.ok .next) s₃
      | .ret v=>LR G φ R fz μ r₀ (.ok (.ret v)) s₃) (notedBy (model G.prog G.w) φ.A φ.env fun e s'=>LR G φ R fz μ r₀ (.error e) s') s₂) (notedBy (model G.prog G.w) φ.A φ.env fun e s'=>LR G φ R fz μ r₀ (.error e) s') s₁') (notedBy (model G.prog G.w) φ.A φ.env fun e s'=>LR G φ R fz μ r₀ (.error e) s') s₁) (notedBy (model G.prog G.w) φ.A φ.env fun e s'=>LR G φ R fz μ r₀ (.error e) s') s:=by
 cases h with
 | @mk j loc' H' fz' μ' o' _ e hj x' S' it =>
  rcases Nat.lt_or_eq_of_le hj with hlt|rfl
  ·rw [List.drop_eq_getElem_cons hlt,for_cons] at e
   refine wpNo (wpAny_mono (it.next D S' hR (List.getElem?_eq_getElem hlt)) (fun r s4 h4=> ?_) fun _ _ z=>z);refine xC h4 fun val o2 o1_ w2 S4 it2=> ?_; (try clear h4); obtain rfl:=o1_;refine wpAny_pure (wpAny_assign_Name (wpNo (wpAny_mono (zpD D hc S4 hx hkx w2) (fun _ s5 S5=> ?_) fun _ _ z=>z)));rw [← e] at hF;refine wpAny_mono (hf _ fz' μ' _ H' s5 S5 hF.fst) (fun fl s6 hq=> ?_) fun e3 s6 hx=>EX.passes D ((hx.sub fun p hp=>mC _ hp).up x' fun C H q=>by rw [← e,q]; rfl);exact zsD (R:=(I,o2)::R) (fz:=fz) (μ:=μ) (n:=items.length+1-j) (j:=items.length+1-(j+1)) (Rr:=LR G φ R fz μ r₀) (I:=zwF G φ R fz μ I items i f r₀)
    hq x' (Nat.sub_lt_sub_left (Nat.lt_succ_of_lt hlt) (Nat.lt_succ_self j)) e.symm (fun f s h=>h.drop hR) fun loc2 H2 fz2 μ2 h1 h2 h3=>.mk h1 hlt (x'.trans h2) h3 (it2.mono h2)
  ·rw [List.drop_length] at e
   refine wpNo (wpAny_mono (it.done D S' hR) (fun r s4 h4=> ?_) fun _ _ z=>z);rw [h4.1];exact wpAny_execs_nil ⟨_,H',fz',μ',loc',e.symm,x',h4.2,rfl⟩
theorem ss_for (D:Good G φ k) (hc:φ.comp=none) (hx:φ.xs[i]? =some x) (hkx:φ.env.kindOf x=some .local∨φ.env.kindOf x=some .cell)
  (hs:∀ x,foldedSetIterable iter φ.env x=pure x) (ht:EJ G φ t (eval iter φ.env)) (hf:SS G φ f (execs body φ.env)) :
  SS G φ (fun loc H=>(t loc H).bind fun v H=>(zC (yS v) H).bind fun items H=>z4 i f items loc H) (exec (.For (.Name x px) iter body [] pos) φ.env):=by
 intro R fz μ loc H s S hF;dsimp only at hF ⊢;refine wpAny_For (SS.open_ (g:=fun v loc H=>(zC (yS v) H).bind fun items H=>z4 i f items loc H) ht S hF fun v xv H1 fz1 μ1 s1 e1 x1 S1 w=> ?_) hs;rw [e1] at hF ⊢;have hF1:Fine φ ((zC (yS v) H1).bind fun items H=>z4 i f items loc H):=hF;obtain ⟨items,hi⟩:=z9 hF1.fst;have e2:((Rs.ok v H1).bind fun v H=>(zC (yS v) H).bind fun items H=>z4 i f items loc H)=z4 i f items loc H1:=by
  show (zC (yS v) H1).bind _=_;rw [hi]; rfl
 rw [e2] at hF ⊢;refine wpNo (wpAny_mono (zlC D S1 w hi) (fun it s2 h2=> ?_) fun _ _ z=>z);obtain ⟨I,o,rfl,S2,hR,it0⟩:=h2;exact codeAny_mono (R:=LR G φ R fz μ (z4 i f items loc H1)) (codeAny_forLoop_any (zwF G φ R fz μ I items i f (z4 i f items loc H1)) (fun n s3 hI=>for_turn D hc hx hkx hf hR hF hI) (items.length+1) (.mk (j:=0) rfl (Nat.zero_le _) x1 S2 it0)) fun r s h=>by cases r <;> exact h
end
noncomputable def metT:List Str:=["fetch","get","put","drop","numbers","root","told","is_done","peek","take","starts","skip","skip_white","take_regular","skip_line_end","wants_key","go","undo","redo"]
noncomputable def metN (k:Nat):Str:=metT.getD k "fetch"
noncomputable def ymJ (K:Frag) (C:Addr) (name:Str):Bool :=
 plainGet K C name&&hasDictIn K C&&(match findIn K (.ref C) name with|some a=>noGet K a|none=>false)&&(findIn K (.ref C) "__setattr__" ==some (some (.builtin "object.__setattr__")))&&plainOver K C&&(takerIn K C name==some none)
noncomputable def metOk (K:Frag) (C:Addr) (name:Str) (f:Addr):Bool:=plainGet K C name&&(findIn K (.ref C) name==some (some (.ref f)))&&isFn K (.ref f)&&keepIn K (.ref f)
noncomputable def iniOk (K:Frag) (C:Addr) (f:Addr):Bool:=makesIn K C&&(findIn K (.ref C) "__init__" ==some (some (.ref f)))&&isFn K (.ref f)&&keepIn K (.ref C)
structure KOk (G:Gl) (T:Tab):Prop where
 att:∀ C k,okA C k=true→ymJ G.K (G.ca C) (nm k)=true
 met:∀ C k f,T.meth C k=some f→metOk G.K (G.ca C) (metN k) (G.fa f)=true
 ini:∀ C f,T.init C=some f→iniOk G.K (G.ca C) (G.fa f)=true
theorem yoI (h:okA C k=true):1≤k∧k<21:=by
 have:∀ p∈okL,1≤p.2∧p.2<21:=by decide
 exact this (C,k) (List.contains_iff_mem.mp h)
theorem nm_big (h:21≤k):nm k= "what" :=by
 unfold nm;rw [List.getD_eq_getElem?_getD,List.getElem?_eq_none (by exact h)]; rfl
theorem nm_inj (hk:1≤k∧k<21) (e:nm j=nm k):j=k:=by
 by_cases hj:j<21
 ·have:∀ a<21,∀ b<21,nm a=nm b→a=b:=by decide +kernel
  exact this j hj k hk.2 e
 ·rw [nm_big (Nat.le_of_not_lt hj)] at e
  have:∀ b<21,1≤b→nm 0=nm b→False:=by decide +kernel
  exact (this k hk.2 hk.1 e).elim
theorem met_nm:metN k≠nm j:=by
 have h1:metN k∈metT:=by
  unfold metN
  by_cases h:k<metT.length
  ·rw [List.getD_eq_getElem?_getD,List.getElem?_eq_getElem h]; exact List.getElem_mem h
  ·rw [List.getD_eq_getElem?_getD,List.getElem?_eq_none (Nat.le_of_not_lt h)]; exact mQ
 have h2:nm j∈nmT:=by
  unfold nm
  by_cases h:j<nmT.length
  ·rw [List.getD_eq_getElem?_getD,List.getElem?_eq_getElem h]; exact List.getElem_mem h
  ·rw [List.getD_eq_getElem?_getD,List.getElem?_eq_none (Nat.le_of_not_lt h)]; exact mQ
 have:∀ a∈metT,∀ b∈nmT,a≠b:=by decide +kernel
 exact this _ h1 _ h2
noncomputable abbrev yO (ks:List Nat) (es:List DictEntry):Prop:=All2 (fun k e=>∃ t,e.key= .str (nm k) t) ks es
theorem znJ (h:yO ks es):es.any (·.refKey)=false :=
 yJ (M:=fun _ es=>es.any (·.refKey)=false) rfl (fun {_ e _ es} ⟨t,ht⟩ _ ih=>by rw [List.any_cons,ih,Bool.or_false]; unfold DictEntry.refKey; rw [ht]) h
theorem zuJ:(Value.str (nm j) t).isStr (nm k)=decide (nm j=nm k):=by
 show (nm j==nm k)=_;rw [Bool.eq_iff_iff,beq_iff_eq,decide_eq_true_iff]
theorem zoA {k:Nat} {e:DictEntry} {t:Tok} (h:e.key= .str (nm k) t):e.key.isStr (nm k)=true:=by rw [h,zuJ]; exact decide_eq_true rfl
theorem zuI {k j:Nat} (hk:1≤k∧k<21) {e:DictEntry} {t:Tok} (h:e.key= .str (nm j) t) (hj:¬ j=k):e.key.isStr (nm k)=false:=by rw [h,zuJ]; exact decide_eq_false fun z=>hj (nm_inj hk z)
theorem lookK_cons {κ:Type} [DecidableEq κ] {j k:κ} {ks:List κ}:zS (j::ks) (w::vs) k=if j=k then some w else zS ks vs k:=rfl
theorem getL_val (h:es.find? (·.key.isStr name)=some e):getL name es=some (some e.val):=by unfold getL; rw [h]
theorem keys_find {G:Gl} {fz:zB} {μ:Mu} {k:Nat} (hk:1≤k∧k<21) {ks:List Nat} {es:List DictEntry} (h:yO ks es):∀ {vs:List PV},VRs G fz μ vs (es.map (·.val))→On (zS ks vs k) fun v=>∃ e,es.find? (·.key.isStr (nm k))=some e∧VR G fz μ v e.val :=
 yJ (M:=fun ks es=>∀ {vs:List PV},VRs G fz μ vs (es.map (·.val))→On (zS ks vs k) fun v=>∃ e,es.find? (·.key.isStr (nm k))=some e∧VR G fz μ v e.val) (fun _=>trivial) (fun {j e ks es} ⟨t,ht⟩ _ ih {vs} q=>by
  cases vs with
  |nil=>exact q.elim
  |cons w vs =>
   rw [lookK_cons]
   by_cases hj:j=k
   ·rw [if_pos hj]
    exact ⟨e,List.find?_cons_of_pos (by rw [hj] at ht; exact zoA ht),q.1⟩
   ·rw [if_neg hj,List.find?_cons_of_neg (by rw [zuI hk ht hj]; exact Bool.false_ne_true)]
    exact ih q.2) h
theorem keys_get (hk:1≤k∧k<21) (h:yO ks es) (q:VRs G fz μ vs (es.map (·.val))):On (zS ks vs k) fun v=>∃ x,getL (nm k) es=some (some x)∧VR G fz μ v x :=
 On.of fun v e=>by refine oEA ((keys_find hk h q).get e) fun d h1 h2=> ?_; exact ⟨d.val,getL_val h1,h2⟩
theorem keys_miss (hn:∀ j,nm j≠name) (h:yO ks es):getL name es=some none:=by
 have:es.find? (·.key.isStr name)=none:=yJ (M:=fun _ es=>es.find? (·.key.isStr name)=none) rfl (fun {j e _ es} ⟨t,ht⟩ _ ih=>by
  rw [List.find?_cons_of_neg,ih];rw [ht];exact fun h=>hn j (eq_of_beq h)) h
 unfold getL;rw [this,znJ h]; rfl
theorem keys_some (h:yO ks es):(getL (nm k) es).isSome=true:=by
 unfold getL;cases es.find? (·.key.isStr (nm k)) with
 |some e=>rfl
 |none=>rw [znJ h]; rfl
theorem setK_cons {κ:Type} [DecidableEq κ] {j k:κ} {ks:List κ}:setK (j::ks) (w::vs) k v=if j=k then (j::ks,v::vs) else (j::(setK ks vs k v).1,w::(setK ks vs k v).2):=rfl
theorem ztE:putL name hsh key x (e::es)=if e.key.isStr name then {e with val:=x}::es else e::putL name hsh key x es:=rfl
theorem keys_put {G:Gl} {fz:zB} {μ:Mu} {k:Nat} (hk:1≤k∧k<21) {v:PV} {x:Value} {hsh:Int} {t:Tok} (hv:VR G fz μ v x) {ks:List Nat} {es:List DictEntry} (h:yO ks es):∀ {vs:List PV},VRs G fz μ vs (es.map (·.val)) →
  yO (setK ks vs k v).1 (putL (nm k) hsh (.str (nm k) t) x es)∧VRs G fz μ (setK ks vs k v).2 ((putL (nm k) hsh (.str (nm k) t) x es).map (·.val)) :=
 yJ (M:=fun ks es=>∀ {vs:List PV},VRs G fz μ vs (es.map (·.val))→yO (setK ks vs k v).1 (putL (nm k) hsh (.str (nm k) t) x es)∧VRs G fz μ (setK ks vs k v).2 ((putL (nm k) hsh (.str (nm k) t) x es).map (·.val)))
  (fun {vs} q=>by
   cases vs with
   |nil=>exact ⟨⟨⟨t,rfl⟩,trivial⟩,hv,trivial⟩
   |cons=>exact q.elim)
  (fun {j e ks es} hu hKeys ih {vs} q=>by
   cases vs with
   |nil=>exact q.elim
   |cons w vs =>
    obtain ⟨u,ht⟩:=hu;rw [setK_cons,ztE]
    by_cases hj:j=k
    ·have hs:e.key.isStr (nm k)=true:=by rw [hj] at ht; exact zoA ht
     rw [if_pos hj,if_pos hs];exact ⟨⟨⟨u,ht⟩,hKeys⟩,hv,q.2⟩
    ·rw [if_neg hj,if_neg (by rw [zuI hk ht hj]; exact Bool.false_ne_true)]
     exact ⟨⟨⟨u,ht⟩,(ih q.2).1⟩,q.1,(ih q.2).2⟩) h
theorem putL_len:∀ {es:List DictEntry},(putL name hsh key v es).length≤es.length+1:=by
 intro l0
 induction l0 with
 |nil =>exact Nat.le_refl _
 |cons e r ih =>
  rw [ztE]
  by_cases h:e.key.isStr name=true
  ·rw [if_pos h]; exact Nat.le_succ _
  ·rw [if_neg h]; exact Nat.succ_le_succ ih
section
variable {G:Gl} {φ:Fx} {k:Nat} {R fz fz₁:zB} {μ μ₁:Mu} {loc:Loc} {H:Hp} {s:Shared} {Γ:MP} {T:Tab}
theorem vr_handed (h:VR G fz μ v x):handedIn x=true :=
 VR.casesOn (motive:=fun _ x _=>handedIn x=true) h rfl (fun _=>rfl) (fun _ _=>rfl) (fun _ _ _=>rfl) (fun _ _ _=>rfl) (fun _ _ _ _=>rfl) (fun _ _ _ _ _ _ _ _=>rfl) (fun _ _ _ _ _ _ _ _=>rfl) (fun _ _ _ _ _ _ _ _ _ _ _=>rfl) (fun _ _ _ _ _ _ _ _ _ _ _=>rfl)
  (fun _ _ _ _ _ _ _ _ _ _ _ _=>rfl) (fun _ _ _ _ _ _ _=>rfl) (fun _=>rfl) (fun _=>rfl) (fun _ _ _ _ _ _ _ _ _ _=>rfl)
theorem yeD {K:Frag} (h:ymJ K C name=true):plainGet K C name=true∧hasDictIn K C=true∧(∃ a,findIn K (.ref C) name=some a∧noGet K a=true)∧findIn K (.ref C) "__setattr__" =some (some (.builtin "object.__setattr__"))∧plainOver K C=true∧takerIn K C name=some none:=by
 unfold ymJ at h;simp only [Bool.and_eq_true,beq_iff_eq] at h;obtain ⟨⟨⟨⟨⟨h1,h2⟩,h3⟩,h4⟩,h5⟩,h6⟩:=h;refine ⟨h1,h2,?_,h4,h5,h6⟩;cases q:findIn K (.ref C) name with
 |none=>rw [q] at h3; cases h3
 |some a=>rw [q] at h3; exact ⟨a,rfl,h3⟩
inductive IsIn (G:Gl) (fz:zB) (μ:Mu) (s:Shared) (x:Value) (C:Nat):Prop
 |mk (a d:Addr) (ks:List Nat) (vs:List PV) (es:List DictEntry) (n:Nat) (e:x= .ref a) (I:InstAt s.heap a (instObj (G.ca C) d) (G.ca C) (some (dictOf es n))) (hk:yO ks es) (q:VRs G fz μ vs (es.map (·.val)))
theorem clsV_el {H:Hp} {M:PV→Option Nat→Prop} (h0:∀ v,M v none) (h1:∀ C ks vs,M (.obj C ks vs) (some C)) (h2:∀ i,M (.ref i) (clsO (zA H i))) (v:PV):M v (clsV v H):=by cases v <;> first|exact h0 _|exact h1 _ _ _|exact h2 _
theorem clsO_el {M:PO→Option Nat→Prop} (h0:∀ v,M v none) (h1:∀ C ks vs,M (.att C ks vs) (some C)) (v:PO):M v (clsO v):=by cases v <;> first|exact h0 _|exact h1 _ _ _
theorem attrV_el {H:Hp} {k:Nat} {M:PV→Option PV→Prop} (h0:∀ v,M v none) (h1:∀ C ks vs,M (.obj C ks vs) (if okA C k then zS ks vs k else none)) (h2:∀ i,M (.ref i) (ymA k (zA H i))) (v:PV):M v (zaE v k H):=by cases v <;> first|exact h0 _|exact h1 _ _ _|exact h2 _
theorem attrO_el {k:Nat} {M:PO→Option PV→Prop} (h0:∀ v,M v none) (h1:∀ C ks vs,M (.att C ks vs) (if okA C k then zS ks vs k else none)) (v:PO):M v (ymA k v):=by cases v <;> first|exact h0 _|exact h1 _ _ _
theorem VR.obj_ex (h:VR G fz μ (.obj C ks vs) v):∃ es n a d,v= .ref a∧G.P fz a (instObj (G.ca C) d)∧G.P fz d (dictOf es n)∧yO ks es∧VRs G fz μ vs (es.map (·.val)) :=
 h.inv (fun v=>∃ es n a d,v= .ref a∧G.P fz a (instObj (G.ca C) d)∧G.P fz d (dictOf es n)∧yO ks es∧VRs G fz μ vs (es.map (·.val))) fun es n a d h1 h2 h3 h4=>⟨es,n,a,d,rfl,h1,h2,h3,h4⟩
theorem ziF (D:Good G φ k) (S:Sat G φ R fz μ loc H s) (ha:VR G fz μ (.obj C ks vs) x):∃ a d es n,x= .ref a∧InstAt s.heap a (instObj (G.ca C) d) (G.ca C) (some (dictOf es n))∧yO ks es∧VRs G fz μ vs (es.map (·.val)) :=
 by refine oEEEEAAAA (ha.obj_ex) fun es n a d e h1 h2 h3 h4=> ?_; exact ⟨a,d,es,n,e,⟨S.P D h1,rfl,rfl,S.P D h2⟩,h3,h4⟩
theorem zqG (D:Good G φ k) (S:Sat G φ R fz μ loc H s) (ha:VR G fz μ (.ref i) x) (hh:zA H i= .att C ks vs):∃ a d es n,x= .ref a∧InstAt s.heap a (instObj (G.ca C) d) (G.ca C) (some (dictOf es n))∧yO ks es∧VRs G fz μ vs (es.map (·.val)):=by
 refine oEEA (ha.ref') fun a d e hm=> ?_;refine ziC (S.ref D hm hh trivial) fun o ho hi es n e' hk q=> ?_;rw [e'] at ho;exact ⟨a,d,es,n,e,⟨S.P D hi,rfl,rfl,ho⟩,hk,q⟩
theorem inst_of (D:Good G φ k) (S:Sat G φ R fz μ loc H s) {v:PV} {x:Value} (ha:VR G fz μ v x):On (clsV v H) (IsIn G fz μ s x) :=
 clsV_el (H:=H) (M:=fun v o=>VR G fz μ v x→On o (IsIn G fz μ s x)) (fun _ _=>trivial) (fun C ks vs ha=>by refine zeB (ziF D S ha) fun a d es n e I hk q=> ?_; exact ⟨a,d,ks,vs,es,n,e,I,hk,q⟩)
  (fun i ha=>clsO_el (M:=fun o r=>zA H i=o→On r (IsIn G fz μ s x)) (fun _ _=>trivial) (fun C ks vs hh=>by refine zeB (zqG D S ha hh) fun a d es n e I hk q=> ?_; exact ⟨a,d,ks,vs,es,n,e,I,hk,q⟩) _ rfl) v ha
theorem ycA (KO:KOk G T) (D:Good G φ k) (O:GOk G) (S:Sat G φ R fz μ loc H s) (hok:okA C j=true)
  (h:∃ a d es n,x= .ref a∧InstAt s.heap a (instObj (G.ca C) d) (G.ca C) (some (dictOf es n))∧yO ks es∧VRs G fz μ vs (es.map (·.val))):On (zS ks vs j) fun r=>wpAny (model G.prog G.w) φ.A (getAttr x (nm j) ex) (LQ (wV G) G φ R fz μ loc H r) (fun _ _=>False) s:=On.of fun r e=>by
 refine zeB h fun a d es n e' I hk q=> ?_; (try clear h);refine oAAA (yeD (KO.att C j hok)) fun h1 h2 o1_ _=> ?_; obtain ⟨at_,h3,h4⟩:=o1_;refine oEA ((keys_get (yoI hok) hk q).get e) fun y hy hv=> ?_;refine xC (S.look D O) fun g m F B X T=> ?_;rw [e'];exact get_own F X I h1 h2 h3 h4 hy (vr_handed hv) (LQ.tok S hv)
theorem lf_attr (KO:KOk G T) (D:Good G φ k) (O:GOk G) (S:Sat G φ R fz μ loc H s) {v r:PV} {x:Value} {j:Nat} {ex:Bool} (ha:VR G fz μ v x) (e:zaE v j H=some r) :
  wpAny (model G.prog G.w) φ.A (getAttr x (nm j) ex) (LQ (wV G) G φ R fz μ loc H r) (fun _ _=>False) s :=
 (attrV_el (H:=H) (k:=j) (M:=fun v o=>VR G fz μ v x→On o fun r=>wpAny (model G.prog G.w) φ.A (getAttr x (nm j) ex) (LQ (wV G) G φ R fz μ loc H r) (fun _ _=>False) s) (fun _ _=>trivial)
  (fun C ks vs ha=>On.ite' fun hok=>ycA KO D O S hok (ziF D S ha))
  (fun i ha=>attrO_el (k:=j) (M:=fun o r=>zA H i=o→On r fun r=>wpAny (model G.prog G.w) φ.A (getAttr x (nm j) ex) (LQ (wV G) G φ R fz μ loc H r) (fun _ _=>False) s) (fun _ _=>trivial)
   (fun C ks vs hh=>On.ite' fun hok=>ycA KO D O S hok (zqG D S ha hh)) _ rfl) v ha).get e
theorem Sat.one (D:Good G φ k) (O:GOk G) (S:Sat G φ R fz μ loc H s) (hi:zA H i=po) (hl:live po) (hm:μ[i]? =some (a,d)) (ho:s.heap.get? d=some o) :
  ∃ g m rest,Fr g φ.L s.heap m∧News g φ.L s.heap ((d,o)::rest)∧(∀ p∈rest,p.1≠d)∧Below φ.A₀ G.base φ.outer g∧G.K.In g∧Top G.p G.loose G.mean G.mg G.mb g ∧
   ∀ h' tk po' o',live po'→Fr g φ.L h' m→News g φ.L h' ((d,o')::rest)→PoR G fz μ po' a d o'→Sat G φ R fz μ loc (zF H i po') {s with heap:=h',toks:=tk}:=by
 obtain ⟨sm,m,vm,ce,B,L⟩:=S;have B0:=B;obtain ⟨g,mu,tb,T,F,N,Sh⟩:=B0;refine zY (Sh.live i po (zcH hi hl) hl) fun a' d' o2 h1 h2 h3=> ?_;rw [hm] at h1; cases h1;have hd:=N _ (mR _ (mL _ h2));have gt:=zaC D T;have all:∀ p∈(w4 g s.heap φ.L).filter (fun p=>decide (p.1≠d)),p.1≠d∧p∈w4 g s.heap φ.L:=fun p hp=>by
  obtain ⟨h1,h2⟩:=List.mem_filter.mp hp;exact ⟨by simpa using h2,h1⟩
 refine ⟨g,m,(w4 g s.heap φ.L).filter (fun p=>decide (p.1≠d)),F,fun p hp=> ?_,fun p hp=>(all p hp).1,gt.1,O.X.keeps gt.1.stays,O.T.keeps gt.1.stays,fun h' tk po' o' hl' F' N' hp=> ?_⟩
 ·rcases mN hp with rfl|hp
  ·exact ⟨ho,hd.2⟩
  ·refine oAA (xS.mp (show (p.1,p.2)∈_ from (all p hp).2)) fun q1 q2 q3=> ?_
   exact ⟨q3,q1,q2⟩
 ·refine ⟨sm,m,vm,ce,B.upd2 (zcH hi hl) hl hl' hm (fun b ob hb hbL e=> ?_) F'.ns (N' _ mQ).1 hp,L⟩
  cases q:g.get? b with
  |some o3 =>
   have:=F.keep _ _ q;rw [e] at this; cases this;exact F'.keep _ _ q
  |none=>exact (N' (b,ob) (mC _ (List.mem_filter.mpr ⟨xS.mpr ⟨hbL,q,e⟩,by simpa using hb⟩))).1
theorem lf_setAttr (KO:KOk G T) (D:Good G φ k) (O:GOk G) (S:Sat G φ R fz μ loc H s) (ha:VR G fz μ (.ref i) x) (hw:VR G fz μ w y) (hh:zA H i= .att C ks vs) (hok:okA C j=true) (hz:ks.length<100) :
  wpAny (model G.prog G.w) φ.A (setAttr x (nm j) y) (fun _ s'=>Sat G φ R fz μ loc (zF H i (.att C (setK ks vs j w).1 (setK ks vs j w).2)) s') (fun _ _=>False) s:=by
 refine oEEA (ha.ref') fun a d e hm=> ?_;refine ziC (S.ref D hm hh trivial) fun o ho hi es n eo hk q=> ?_;refine oAAAAA (yeD (KO.att C j hok)) fun h1 h2 o1_ h5 h6 h7=> ?_; obtain ⟨at_,h3,h4⟩:=o1_;refine zfF (S.one D O hh trivial hm ho) fun g m rest F N hr B X T up=> ?_;rw [eo] at ho N;have I:InstAt s.heap a (instObj (G.ca C) d) (G.ca C) (some (dictOf es n)):=⟨S.P D hi,rfl,rfl,ho⟩;have hlen:es.length<100:=zE hk▸hz;rw [e];exact set_dict F X N I rfl h5 h6 h7 h2 (keys_some hk) rfl (.head hr) (Nat.le_trans putL_len (Nat.le_trans hlen (by decide))) fun h' F' N' =>up h' (s.toks+2) (.att C (setK ks vs j w).1 (setK ks vs j w).2) _ trivial F' N' ⟨hi,_,_,rfl,keys_put (yoI hok) (hsh:=PyData.keyHash (model G.prog G.w).w.params (nm j)) (t:=s.toks+1) hw hk q⟩
end
section
variable {κ ι:Type} [DecidableEq κ] [DecidableEq ι] {k x:κ} {ks:List κ} {vs:List PV} {v w:PV}
theorem yoA:setK (k::ks) (v::vs) x w=if k=x then (k::ks,w::vs) else (k::(setK ks vs x w).1,v::(setK ks vs x w).2):=rfl
theorem yrB:delK (k::ks) (v::vs) x=if k=x then (ks,vs) else (k::(delK ks vs x).1,v::(delK ks vs x).2):=rfl
theorem setK_map (f:κ→ι) (hf:∀ a b,f a=f b→a=b) (k:κ) (w:PV):∀ (ks:List κ) (vs:List PV),setK (ks.map f) vs (f k) w=((setK ks vs k w).1.map f,(setK ks vs k w).2):=by
 intro l0
 induction l0 with
 |nil =>
  intro _;exact rfl
 |cons j ks ih =>
  intro l1;cases l1 with
  |nil =>exact rfl
  |cons v vs =>
   rw [List.map_cons,yoA,yoA]
   by_cases h:j=k
   ·rw [if_pos h,if_pos (congrArg f h)]; rfl
   ·rw [if_neg (fun e=>h (hf _ _ e)),if_neg h,ih vs]; rfl
theorem delK_map (f:κ→ι) (hf:∀ a b,f a=f b→a=b) (k:κ):∀ (ks:List κ) (vs:List PV),delK (ks.map f) vs (f k)=((delK ks vs k).1.map f,(delK ks vs k).2):=by
 intro l0
 induction l0 with
 |nil =>
  intro _;exact rfl
 |cons j ks ih =>
  intro l1;cases l1 with
  |nil =>exact rfl
  |cons v vs =>
   rw [List.map_cons,yrB,yrB]
   by_cases h:j=k
   ·rw [if_pos h,if_pos (congrArg f h)]
   ·rw [if_neg (fun e=>h (hf _ _ e)),if_neg h,ih vs]; rfl
end
theorem cps_inj:∀ a b:Str,a.cps.toList=b.cps.toList→a=b:=fun a b h=>by
 cases a; cases b;simp only at h;rw [Array.toList_inj.mp h]
theorem kpa_last' (y:Value):∀ p:List Value,kl_last (p++[y])=some (p,y):=by
 intro l0
 induction l0 with
 |nil =>exact rfl
 |cons x p ih =>
  have ih:=ih;cases p with
  |nil=>rfl
  |cons z r =>
   simp only [List.cons_append] at ih ⊢;unfold kl_last;rw [ih]
section
variable {G:Gl} {φ:Fx} {k:Nat} {R fz fz₁:zB} {μ μ₁:Mu} {loc:Loc} {H:Hp} {s:Shared} {Γ:MP} {T:Tab}
theorem any_key {κ:Type} [DecidableEq κ] {kvs:List (κ×Value)} {x:κ}:(kvs.any fun kv=>decide (kv.1=x))=decide (x∈kvs.map (·.1)):=by
 induction kvs with
 |nil=>rfl
 |cons p r ih =>
  rw [List.any_cons,ih,List.map_cons]
  by_cases h:p.1=x
  ·simp [h]
  ·have:¬ x=p.1:=fun e=>h e.symm
   simp [h,this]
theorem stored_cons_ne {κ:Type} [DecidableEq κ] {p:κ×Value} {r:List (κ×Value)} {x:κ} (h:p.1≠x):stored (p::r) x y=p::stored r x y:=by
 unfold stored;simp only [List.any_cons,h,decide_false,Bool.false_or,List.map_cons,if_false,List.cons_append]
 split <;> rfl
theorem map_same {κ:Type} [DecidableEq κ] {x:κ}:∀ {r:List (κ×Value)},x∉r.map (·.1)→r.map (fun kv=>if kv.1=x then (kv.1,y) else kv)=r:=by
 intro l0
 induction l0 with
 |nil =>
  intro _;exact rfl
 |cons p r ih =>
  intro h;simp only [List.map_cons,List.mem_cons,not_or] at h;rw [List.map_cons,ih h.2,if_neg (fun e=>h.1 e.symm)]
theorem zsH {κ:Type} [DecidableEq κ] {x:κ} (hw:VR G fz μ w y):∀ {kvs:List (κ×Value)} {vs:List PV},(kvs.map (·.1)).Nodup→VRs G fz μ vs (kvs.map (·.2)) →
  (setK (kvs.map (·.1)) vs x w).1=(stored kvs x y).map (·.1)∧VRs G fz μ (setK (kvs.map (·.1)) vs x w).2 ((stored kvs x y).map (·.2)):=by
 intro l0
 induction l0 with
 |nil =>
  intro l1;cases l1 with
  |nil =>
   intro _ _;exact ⟨rfl,hw,trivial⟩
  |cons _ _ =>intros; contradiction
 |cons p r ih =>
  intro l1;cases l1 with
  |nil =>intros; contradiction
  |cons v vs =>
   intro hn q;rw [List.map_cons,List.nodup_cons] at hn;show (if p.1=x then (p.1::r.map (·.1),w::vs) else (p.1::(setK (r.map (·.1)) vs x w).1,v::(setK (r.map (·.1)) vs x w).2)).1=_∧VRs G fz μ (if p.1=x then (p.1::r.map (·.1),w::vs) else (p.1::(setK (r.map (·.1)) vs x w).1,v::(setK (r.map (·.1)) vs x w).2)).2 _
   by_cases h:p.1=x
   ·rw [if_pos h]
    have e:stored (p::r) x y=(p.1,y)::r:=by
     unfold stored;simp only [List.any_cons,h,decide_true,Bool.true_or,if_true,List.map_cons]
     congr 1
     exact map_same (h▸hn.1)
    rw [e];exact ⟨rfl,hw,q.2⟩
   ·rw [if_neg h,stored_cons_ne h]
    obtain ⟨i1,i2⟩:=ih (vs:=vs) hn.2 q.2;exact ⟨by rw [List.map_cons,← i1],q.1,i2⟩
theorem zmH {κ:Type} [DecidableEq κ] {kvs:List (κ×Value)} {x:κ}:(stored kvs x y).length≤kvs.length+1:=by
 unfold stored
 split <;> simp
theorem without_ok {κ:Type} [DecidableEq κ] {x:κ}:∀ {kvs:List (κ×Value)} {vs:List PV},(kvs.map (·.1)).Nodup→VRs G fz μ vs (kvs.map (·.2)) →
  (delK (kvs.map (·.1)) vs x).1=(PySem.without kvs x).map (·.1)∧VRs G fz μ (delK (kvs.map (·.1)) vs x).2 ((PySem.without kvs x).map (·.2)):=by
 intro l0
 induction l0 with
 |nil =>
  intro l1;cases l1 with
  |nil =>
   intro _ _;exact ⟨rfl,trivial⟩
  |cons _ _ =>intros; contradiction
 |cons p r ih =>
  intro l1;cases l1 with
  |nil =>intros; contradiction
  |cons v vs =>
   intro hn q;rw [List.map_cons,List.nodup_cons] at hn;show (if p.1=x then (r.map (·.1),vs) else (p.1::(delK (r.map (·.1)) vs x).1,v::(delK (r.map (·.1)) vs x).2)).1=_∧VRs G fz μ (if p.1=x then (r.map (·.1),vs) else (p.1::(delK (r.map (·.1)) vs x).1,v::(delK (r.map (·.1)) vs x).2)).2 _
   by_cases h:p.1=x
   ·rw [if_pos h]
    have e:PySem.without (p::r) x=r:=by
     have:=without_of_not_mem r x (h▸hn.1);unfold PySem.without at this ⊢;rw [List.filter_cons_of_neg (by simp [h])];exact this
    rw [e];exact ⟨rfl,q.2⟩
   ·have e:PySem.without (p::r) x=p::PySem.without r x:=by
     unfold PySem.without;rw [List.filter_cons_of_pos (by simp [h])]
    rw [if_neg h,e];obtain ⟨i1,i2⟩:=ih (vs:=vs) hn.2 q.2;exact ⟨by rw [List.map_cons,← i1],q.1,i2⟩
theorem lf_setI (D:Good G φ k) (S:Sat G φ R fz μ loc H s) (ha:VR G fz μ (.ref i) x) (hk:VR G fz μ (.int j) key) (hw:VR G fz μ w y) (hh:zA H i= .dicI ks vs) (hz:ks.length<SZ) :
  wpAny (model G.prog G.w) φ.A (setItem x key y) (fun _ s'=>Sat G φ R fz μ loc (zF H i (.dicI (setK ks vs j w).1 (setK ks vs j w).2)) s') (fun _ _=>False) s:=by
 refine oEEA (ha.ref') fun a d o1_ hm=> ?_; obtain rfl:=o1_;refine oEA (S.ref D hm hh trivial) fun o ho hp=> ?_;refine zbI hp fun o1_ kvs z dd o2_ q=> ?_; (try clear hp); obtain rfl:=o1_; obtain rfl:=o2_;obtain ⟨t,rfl⟩:=hk.int';have hlen:kvs.length<SZ:=by simpa using hz
 refine wpAny_setItem_pairs (knd:=intKind G.prog G.w) (k:=j) (intKind_is _ _ _ _) (dd.at ho) (fun h' hd hs=> ?_) (Nat.le_trans z.2 y7);refine oEA (Heap.dictOf_iff.mp hd) fun o' ho' hd'=> ?_;refine xC (dd.2) fun es ep hd1 hk1 hk2 hk3=> ?_;obtain ⟨i1,i2⟩:=zsH (x:=j) hw hk3 q;exact S.mupd hh trivial trivial hm hs ho' ⟨rfl,stored kvs j y,⟨z.1,Nat.le_trans zmH hlen⟩,zK.of hd ho',i1,i2⟩
theorem lf_setS (D:Good G φ k) (S:Sat G φ R fz μ loc H s) (ha:VR G fz μ (.ref i) x) (hk:VR G fz μ (.str j) key) (hw:VR G fz μ w y) (hh:zA H i= .dicS ks vs) (hz:ks.length<SZ) :
  wpAny (model G.prog G.w) φ.A (setItem x key y) (fun _ s'=>Sat G φ R fz μ loc (zF H i (.dicS (setK ks vs j w).1 (setK ks vs j w).2)) s') (fun _ _=>False) s:=by
 refine oEEA (ha.ref') fun a d o1_ hm=> ?_; obtain rfl:=o1_;refine oEA (S.ref D hm hh trivial) fun o ho hp=> ?_;refine zbI hp fun o1_ kvs z dd o2_ q=> ?_; (try clear hp); obtain rfl:=o1_; obtain rfl:=o2_;refine zcE (hk.str') fun kx t o1_ o2_ zx=> ?_; obtain rfl:=o1_; obtain rfl:=o2_;have hlen:kvs.length<SZ:=by simpa using hz
 refine wpAny_setItem_pairs (knd:=PySem.strKind G.prog G.w) (k:=kx) (strKind_is _ _ _ _) (dd.at ho) (fun h' hd hs=> ?_) (Nat.le_trans z.2.1 y7);refine oEA (Heap.dictOf_iff.mp hd) fun o' ho' hd'=> ?_;refine xC (dd.2) fun es ep hd1 hk1 hk2 hk3=> ?_;obtain ⟨i1,i2⟩:=zsH (x:=kx) hw hk3 q;have e:=setK_map (fun a:Str=>a.cps.toList) cps_inj kx w (kvs.map (·.1)) vs;rw [List.map_map] at e;have e1:(setK (kvs.map (·.1.cps.toList)) vs kx.cps.toList w)=((setK (kvs.map (·.1)) vs kx w).1.map (·.cps.toList),(setK (kvs.map (·.1)) vs kx w).2):=e;rw [e1];refine S.mupd hh trivial trivial hm hs ho' ⟨rfl,stored kvs kx y,⟨z.1,Nat.le_trans zmH hlen,fun p hp=> ?_⟩,zK.of hd ho',?_,i2⟩
 ·unfold stored at hp
  split at hp
  ·refine oEA (List.mem_map.mp hp) fun p' hp' o1_=> ?_; obtain rfl:=o1_
   split
   ·exact z.2.2 p' hp'
   ·exact z.2.2 p' hp'
  ·rcases mP hp with hp|hp
   ·exact z.2.2 p hp
   ·rw [List.mem_singleton] at hp; subst hp; exact zx
 ·rw [i1,List.map_map]; rfl
theorem lf_append (D:Good G φ k) (S:Sat G φ R fz μ loc H s) (ha:VR G fz μ (.ref i) x) (hw:VR G fz μ w y) (hh:zA H i= .lst vs) (hz:vs.length<SZ) :
  wpAny (model G.prog G.w) φ.A (call (.builtin "list.append") [x,y]) (HQ (wV G) G φ R fz μ loc .none (zF H i (.lst (vs++[w])))) (fun _ _=>False) s:=by
 refine oEEA (ha.ref') fun a d o1_ hm=> ?_; obtain rfl:=o1_;refine oEA (S.ref D hm hh trivial) fun o ho hp=> ?_;refine zbH hp fun o1_ vals n o2_ z q=> ?_; (try clear hp); obtain rfl:=o1_; obtain rfl:=o2_;have hlen:vals.length<SZ:=by rw [← zE q]; exact hz
 refine wpAny_list_append_plain ⟨n,ho⟩ (fun h' hl hs=> ?_) (by simpa using Nat.le_trans z y7);obtain ⟨n',ho'⟩:=hl;exact ⟨fz,μ,.refl,S.mupd (tk:=s.toks) hh trivial trivial hm hs ho' ⟨rfl,vals++[y],n',by rw [List.push_toArray],by simp; lia,yM q ⟨hw,trivial⟩⟩,VR.none⟩
theorem lf_pop (D:Good G φ k) (O:GOk G) (S:Sat G φ R fz μ loc H s) (ha:VR G fz μ (.ref i) x) (hh:zA H i= .lst vs) (hl:vs.getLast? =some w) :
  wpAny (model G.prog G.w) φ.A (call (.builtin "list.pop") [x]) (HQ (wV G) G φ R fz μ loc w (zF H i (.lst vs.dropLast))) (fun _ _=>False) s:=by
 refine oEEA (ha.ref') fun a d o1_ hm=> ?_; obtain rfl:=o1_;refine oEA (S.ref D hm hh trivial) fun o ho hp=> ?_;refine zbH hp fun o1_ vals n o2_ z q=> ?_; (try clear hp); obtain rfl:=o1_; obtain rfl:=o2_;refine zfF (S.one D O hh trivial hm ho) fun g m rest F N hr B X T up=> ?_;obtain ⟨ws,rfl⟩:∃ ws,vs=ws++[w]:=by
  rcases List.eq_nil_or_concat vs with rfl|⟨ws,w',e⟩
  ·cases hl
  ·have e':vs=ws++[w']:=by simpa using e
   subst e'
   simp at hl
   exact ⟨ws,by rw [hl]⟩
 have hlen:=zE q;obtain ⟨vl,y,rfl⟩:∃ vl y,vals=vl++[y]:=by
  rcases List.eq_nil_or_concat vals with rfl|⟨vl,y,e⟩
  ·simp at hlen
  ·exact ⟨vl,y,by simpa using e⟩
 have q1:VRs G fz μ ws vl∧VR G fz μ w y:=by
  have hl2:ws.length=vl.length:=by simpa using hlen
  refine ⟨zdA hl2 fun i a b ha hb=>xD q i a b ?_ ?_,xD q ws.length w y (by simp) (by rw [hl2]; simp)⟩
  ·rw [List.getElem?_append_left (List.getElem?_eq_some_iff.mp ha).1]; exact ha
  ·rw [List.getElem?_append_left (List.getElem?_eq_some_iff.mp hb).1]; exact hb
 refine kl_pop F N (its:=(vl++[y]).toArray) (n:=n) (p:=vl) (y:=y) (by simpa using kpa_last' y vl) (.head hr) (by simpa using Nat.le_trans z y7) fun h' F' N'=> ?_;refine ⟨fz,μ,.refl,?_,q1.2⟩;rw [List.dropLast_concat];exact up h' s.toks (.lst ws) _ trivial F' N' ⟨rfl,vl,n+1,rfl,by simp at z; lia,q1.1⟩
end
noncomputable def ygD:List String:=["NoneType","bool","int","str","bytes","tuple","list","dict"]
noncomputable def subT (t:String) (c:Nat):Bool:=if t= "bool" then decide (c<2) else if t= "int" then decide (c=1) else if t= "list" then decide (c=2) else if t= "dict" then decide (c=3) else false
noncomputable def clsOk (K:Frag) (C:Addr):Bool :=
 plainGet K C "__class__" &&hasDictIn K C&&(findIn K (.ref C) "__class__" ==some (some (.builtin "object.__class__")))&&(specialIn K (.builtin "object.__class__") "__get__" ==some (some (.builtin "getset_descriptor.__get__"))) &&
  (takesIn K (.builtin "object.__class__")==some true)&&(mroIn K C (.type "object")==some true)
structure IOk (G:Gl):Prop where
 tc:∀ t∈ygD,∀ D<14,kitOne G.K (.type t) (.ref (G.ca D))=some false
 tt:∀ t∈ygD,∀ c<4,kitOne G.K (.type t) (.type (tyN c))=some (subT t c)
 cc:∀ C<14,∀ D<14,3≤C→kitOne G.K (.ref (G.ca C)) (.ref (G.ca D))=some (sub C D)
 ct:∀ C<14,∀ c<4,3≤C→kitOne G.K (.ref (G.ca C)) (.type (tyN c))=some false
 cls:∀ C<14,3≤C→clsOk G.K (G.ca C)=true
section
variable {G:Gl} {φ:Fx} {k:Nat} {R fz fz₁:zB} {μ μ₁:Mu} {loc:Loc} {H:Hp} {s:Shared} {Γ:MP} {T:Tab}
theorem zkJ (IO:IOk G) (hC:C<14) (h3:3≤C):KitX G.K (.ref a) (.ref (G.ca C)) (fun h=>InstAt h a (instObj (G.ca C) d) (G.ca C) (some od)):=by
 have h:=IO.cls C hC h3;unfold clsOk at h;simp only [Bool.and_eq_true,beq_iff_eq] at h;obtain ⟨⟨⟨⟨⟨h1,h2⟩,h3⟩,h4⟩,h5⟩,h6⟩:=h;exact kitx_own h1 h2 h3 h4 h5 h6
@[elab_as_elim] theorem VRx.exc_el {C:Nat} {v:Value} {P:Value→Prop} (h:VR G fz μ (.exc C) v) (k:∀ a o fs,G.P fz a o→o.cls= .ref (G.ca C)→o.data= .fields fs→P (.ref a)):P v:=h.inv P k
@[elab_as_elim] theorem VRx.cls_el {C:Nat} {v:Value} {P:Value→Prop} (h:VR G fz μ (.cls C) v) (k:P (.ref (G.ca C))):P v:=h.inv P k
@[elab_as_elim] theorem VRx.typ_el {t:Nat} {v:Value} {P:Value→Prop} (h:VR G fz μ (.typ t) v) (k:P (.type (tyN t))):P v:=h.inv P k
theorem isi_exact {x:Addr} {c:Value} {o:Obj} {prog:Program} {w:World} {A:Around} {E:Value→Shared→Prop} {Q:Value→Shared→Prop} (ho:s.heap.get? x=some o) (hc:o.cls=c) (h:∀ tk,Q (.bool true) {s with toks:=tk}) :
  wpAny (model prog w) A (call (.builtin "isinstance") [.ref x,c]) Q E s :=
 call_isinstance (S:=fun _ R s=>(s.heap.get? x=some o)∧∀ tk,R (.ok (.ret (.bool true))) {s with toks:=tk})
  (fun prog w A R s hs=>isinstance_outer (by
   have an:Answers (fun s=>s.heap.get? x=some o) (.ref x) c true:=by
    intro dep tk prog w A R s hs;obtain ⟨h0,g,d,tt,os⟩:=s;obtain ⟨p,hq⟩:=hs;have LT:Looks (model prog w) h0 (typeOf (.ref x)) c:=hc▸(Looks.ld p).andThen .now;unfold Builtin.«isinstance.nested»;refine wpAny_bind (LT.at ?_);rw [if_pos (by simp)];exact wpAny_bind (wpAny_rule (wpAny_pure (hq tt)))
   exact an 0 _ prog w A R s hs) (by intro z; cases z)) ⟨ho,h⟩
noncomputable def tyP (v:PV):Option String:=match v with
 | .none=>some "NoneType" | .bool _=>some "bool" | .int _=>some "int" | .str _=>some "str" | .bytes _=>some "bytes" | .tup _=>some "tuple" | .lst _=>some "list" | .dicI _ _=>some "dict" | .dicS _ _=>some "dict"
 |_=>none
noncomputable def IsT (G:Gl) (s:Shared) (x t:Value):Prop:=∃ Hh:Heap→Prop,KitX G.K x t Hh∧Hh s.heap
theorem ypG (D:Good G φ k) (S:Sat G φ R fz μ loc H s):∀ {a:PV} {x:Value},VR G fz μ a x→On (tyP a) fun T=>T∈ygD∧IsT G s x (.type T):=by
 intro a x ha;cases a with
 |none=>exact ⟨by decide,ha.none'.symm▸⟨_,kitx_none,trivial⟩⟩
 |bool b=>exact ⟨by decide,ha.bool'.symm▸⟨_,kitx_bool,trivial⟩⟩
 |int b=>exact ⟨by decide,by obtain ⟨t,e⟩:=ha.int'; exact e▸⟨_,kitx_int,trivial⟩⟩
 |str b=>exact ⟨by decide,by refine oEEA (ha.str') fun z t e _=> ?_; exact e▸⟨_,kitx_str,trivial⟩⟩
 |bytes b=>exact ⟨by decide,by refine oEEA (ha.bytes') fun z t e _=> ?_; exact e▸⟨_,kitx_bytes,trivial⟩⟩
 |tup vs=>exact ⟨by decide,by refine zY (ha.tup') fun vals n a e hp _=> ?_; exact e▸⟨_,kitx_tuple,_,S.P D hp,rfl⟩⟩
 |lst vs=>exact ⟨by decide,by refine zY (ha.lst') fun vals n a e hp _=> ?_; exact e▸⟨_,kitx_list,_,S.P D hp,rfl⟩⟩
 |dicI ks vs=>exact ⟨by decide,by refine ybE (ha.dicI') fun kvs a o e hp _ dd _=> ?_; exact e▸⟨_,kitx_dict,_,S.P D hp,dd.1.1⟩⟩
 |dicS ks vs=>exact ⟨by decide,by refine ybE (ha.dicS') fun kvs a o e hp _ dd _=> ?_; exact e▸⟨_,kitx_dict,_,S.P D hp,dd.1.1⟩⟩
 |_=>trivial
theorem isC_el {C':Nat} {H:Hp} {M:PV→Option Bool→Prop} (h0:∀ v,M v none) (h1:∀ C ks vs,M (.obj C ks vs) (if 3≤C∧C<14 then some (sub C C') else none)) (h2:∀ C,M (.exc C) (if C=C' then some true else none)) (h3:∀ i,M (.ref i) (isO C' (zA H i)))
  (hp:∀ v T,tyP v=some T→M v (some false)) (v:PV):M v (isC C' v H):=by cases v <;> first|exact h0 _|exact h1 _ _ _|exact h2 _|exact h3 _|exact hp _ _ rfl
theorem isO_el {C':Nat} {M:PO→Option Bool→Prop} (h0:∀ v,M v none) (h1:∀ C ks vs,M (.att C ks vs) (if 3≤C∧C<14 then some (sub C C') else none)) (h2:∀ vs,M (.lst vs) (some false)) (h3:∀ ks vs,M (.dicI ks vs) (some false)) (h4:∀ ks vs,M (.dicS ks vs) (some false)) (v:PO):M v (isO C' v):=by
 cases v <;> first|exact h0 _|exact h1 _ _ _|exact h2 _|exact h3 _ _|exact h4 _ _
theorem isT_el {t:Nat} {M:PV→Option Bool→Prop} (h0:∀ v,M v none) (h1:∀ C ks vs,M (.obj C ks vs) (if 3≤C∧C<14 then some false else none)) (hp:∀ v T,tyP v=some T→M v (some (subT T t))) (v:PV):M v (isT t v):=by
 cases v with
 |none=>exact hp .none "NoneType" rfl
 |bool b=>exact hp (.bool b) "bool" rfl
 |int b=>exact hp (.int b) "int" rfl
 |str b=>exact hp (.str b) "str" rfl
 |bytes b=>exact hp (.bytes b) "bytes" rfl
 |tup b=>exact hp (.tup b) "tuple" rfl
 |lst b=>exact hp (.lst b) "list" rfl
 |dicI b c=>exact hp (.dicI b c) "dict" rfl
 |dicS b c=>exact hp (.dicS b c) "dict" rfl
 |obj C ks vs=>exact h1 C ks vs
 |_=>exact h0 _
theorem isinV_el {H:Hp} {v:PV} {M:PV→Option Bool→Prop} (h0:∀ c,M c none) (h1:∀ D,M (.cls D) (if D<14 then isC D v H else none)) (h2:∀ t,M (.typ t) (if t<4 then isT t v else none)) (c:PV):M c (zuH v c H):=by cases c <;> first|exact h0 _|exact h1 _|exact h2 _
noncomputable def IG (G:Gl) (φ:Fx) (R fz:zB) (μ:Mu) (loc:Loc) (H:Hp) (s:Shared) (x y:Value) (r:Bool):Prop:=wpAny (model G.prog G.w) φ.A (call (.builtin "isinstance") [x,y]) (LQ (wV G) G φ R fz μ loc H (.bool r)) (fun _ _=>False) s
theorem zvD (D:Good G φ k) (O:GOk G) (S:Sat G φ R fz μ loc H s) (ha:VR G fz μ a x) (h:IsT G s x t) (p:kitOne G.K t y=some r):IG G φ R fz μ loc H s x y r :=
 by refine oEA h fun _ Z q=> ?_; (try clear h); exact kia_one Z (S.X D O) q p (ha.notBuiltin _) fun tk=>LQ.tok S (vrB r)
theorem ig_cls (IO:IOk G) (D:Good G φ k) (O:GOk G) (S:Sat G φ R fz μ loc H s) {a:PV} {x:Value} {C':Nat} (hD:C'<14) (ha:VR G fz μ a x):On (isC C' a H) (IG G φ R fz μ loc H s x (.ref (G.ca C'))) :=
 isC_el (C':=C') (H:=H) (M:=fun a o=>VR G fz μ a x→On o (IG G φ R fz μ loc H s x (.ref (G.ca C')))) (fun _ _=>trivial)
  (fun C ks vs ha=>On.ite fun hC=>by refine zcD (ziF D S ha) fun a d es n e I _=> ?_; exact zvD D O S ha ⟨_,e.symm▸zkJ IO hC.2 hC.1,I⟩ (IO.cc C hC.2 C' hD hC.1))
  (fun C ha=>On.ite fun hC=>VRx.exc_el ha fun a o fs hp hc hd=>isi_exact (S.P D hp) (hC▸hc) fun tk=>LQ.tok S (vrB _))
  (fun i ha=>isO_el (C':=C') (M:=fun o r=>zA H i=o→On r (IG G φ R fz μ loc H s x (.ref (G.ca C')))) (fun _ _=>trivial)
   (fun C ks vs hh=>On.ite fun hC=>by refine zcD (zqG D S ha hh) fun a d es n e I _=> ?_; exact zvD D O S ha ⟨_,e.symm▸zkJ IO hC.2 hC.1,I⟩ (IO.cc C hC.2 C' hD hC.1))
   (fun vs hh=>by
    refine oEEA (ha.ref') fun a d e hm=> ?_;refine oAEEA (S.mlst D hm hh) fun e' vals n ho _=> ?_;exact zvD D O S ha ⟨_,e.symm▸kitx_list,_,ho,rfl⟩ (IO.tc "list" (by decide) C' hD))
   (fun ks vs hh=>by
    refine oEEA (ha.ref') fun a d e hm=> ?_;refine oAEA (S.mdicI D hm hh) fun e' kvs o1_ _=> ?_; obtain ⟨o,es,ep,ho,hx,_⟩:=o1_;exact zvD D O S ha ⟨_,e.symm▸kitx_dict,_,ho,hx.1⟩ (IO.tc "dict" (by decide) C' hD))
   (fun ks vs hh=>by
    refine oEEA (ha.ref') fun a d e hm=> ?_;refine oAEA (S.mdicS D hm hh) fun e' kvs o1_ _=> ?_; obtain ⟨o,es,ep,ho,hx,_⟩:=o1_;exact zvD D O S ha ⟨_,e.symm▸kitx_dict,_,ho,hx.1⟩ (IO.tc "dict" (by decide) C' hD)) _ rfl)
  (fun v T hT ha=>let h:=(ypG D S ha).get hT; zvD D O S ha h.2 (IO.tc T h.1 C' hD)) a ha
theorem ig_typ (IO:IOk G) (D:Good G φ k) (O:GOk G) (S:Sat G φ R fz μ loc H s) {a:PV} {x:Value} {t:Nat} (ht:t<4) (ha:VR G fz μ a x):On (isT t a) (IG G φ R fz μ loc H s x (.type (tyN t))) :=
 isT_el (t:=t) (M:=fun a o=>VR G fz μ a x→On o (IG G φ R fz μ loc H s x (.type (tyN t)))) (fun _ _=>trivial)
  (fun C ks vs ha=>On.ite fun hC=>by refine zcD (ziF D S ha) fun a d es n e I _=> ?_; exact zvD D O S ha ⟨_,e.symm▸zkJ IO hC.2 hC.1,I⟩ (IO.ct C hC.2 t ht hC.1))
  (fun v T hT ha=>let h:=(ypG D S ha).get hT; zvD D O S ha h.2 (IO.tt T h.1 t ht)) a ha
theorem lf_isin (IO:IOk G) (D:Good G φ k) (O:GOk G) (S:Sat G φ R fz μ loc H s) {a b:PV} {x y:Value} {r:Bool} (ha:VR G fz μ a x) (hb:VR G fz μ b y) (e:zuH a b H=some r) :
  wpAny (model G.prog G.w) φ.A (call (.builtin "isinstance") [x,y]) (LQ (wV G) G φ R fz μ loc H (.bool r)) (fun _ _=>False) s :=
 (isinV_el (H:=H) (v:=a) (M:=fun b o=>VR G fz μ b y→On o (IG G φ R fz μ loc H s x y)) (fun _ _=>trivial)
  (fun D' hb=>On.ite' fun hD=>VRx.cls_el hb (ig_cls IO D O S hD ha))
  (fun t hb=>On.ite' fun ht=>VRx.typ_el hb (ig_typ IO D O S ht ha)) b hb).get e
end
section
variable {G:Gl} {φ:Fx} {k:Nat} {R fz fz₁:zB} {μ μ₁:Mu} {loc:Loc} {H:Hp} {s:Shared} {Γ:MP} {T:Tab}
theorem ypC (D:Good G φ k) (S:Sat G φ R fz μ loc H s) {a:PV} {x:Value} {vs:List PV} (ha:VR G fz μ a x) (e:lstV a H=some vs):∃ b vals n,x= .ref b∧s.heap.get? b=some (lstO vals n)∧vals.length≤SZ∧VRs G fz μ vs vals :=
 (yjB D S (P:=fun x vs=>∃ b vals n,x= .ref b∧s.heap.get? b=some (lstO vals n)∧vals.length≤SZ∧VRs G fz μ vs vals) ha fun l vs vals n h z q=>⟨l,vals,n,rfl,h,z,q⟩).get e
theorem lf_extend (D:Good G φ k) (S:Sat G φ R fz μ loc H s) {i:Nat} {vs ws:List PV} {w:PV} {x y:Value} (ha:VR G fz μ (.ref i) x) (hw:VR G fz μ w y) (hh:zA H i= .lst vs) (hl:lstV w H=some ws) (hz:(vs++ws).length≤SZ) :
  wpAny (model G.prog G.w) φ.A (call (.builtin "list.extend") [x,y]) (HQ (wV G) G φ R fz μ loc .none (zF H i (.lst (vs++ws)))) (fun _ _=>False) s:=by
 refine VR.ref_el ha fun a d hm=> ?_;refine ziC (S.ref D hm hh trivial) fun o ho e vals n eo z q=> ?_;refine z0 (ypC D S hw hl) fun b vals2 n2 eb hb z2 q2=> ?_;rw [← e,eo] at ho;rw [← e] at hm;have hz':=zwA hz (zE q) (zE q2);rw [eb];refine call_meets PySem.F.slot_list_extend ⟨_,ho,rfl⟩ PySem.F.entry_list_extend (PySem.F.args_list_extend_2 _ _) (PySem.AutoSeq1.list_extend_list_list_0 a vals.toArray n b vals2.toArray n2 ?_ (Nat.le_trans z y7) (Nat.le_succ_of_le (yeH z z2))) ⟨ho,hb,?_⟩
 ·unfold Builtin.List.listTooLong
  rw [Bool.and_eq_true,decide_eq_true_eq];exact fun h=>absurd (yeH z z2) (Nat.not_le_of_gt h.2)
 ·have u:(s.heap.update a (Obj.mapSeq fun x=>x++vals2.toArray)).get? a=some ({cls:=.type "list",data:=.seq (vals.toArray++vals2.toArray) (if ((vals.toArray++vals2.toArray).size==vals.toArray.size) then n else n+1)}:Obj):=PySem.IsL.update (show PySem.IsL s.heap a vals.toArray n from ho) (fun x=>x++vals2.toArray)
  rw [List.append_toArray] at u;exact ⟨fz,μ,.refl,S.mupd (tk:=s.toks) hh trivial trivial hm (Heap.SameBut.update ..) u ⟨rfl,_,_,rfl,hz',yM q q2⟩,VR.none⟩
theorem lf_dpop (D:Good G φ k) (O:GOk G) (S:Sat G φ R fz μ loc H s) {i:Nat} {ks:List Int} {vs:List PV} {w:PV} {j:Int} {x key:Value} (ha:VR G fz μ (.ref i) x) (hk:VR G fz μ (.int j) key) (hh:zA H i= .dicI ks vs) (hl:zS ks vs j=some w) :
  wpAny (model G.prog G.w) φ.A (call (.builtin "dict.pop") [x,key]) (HQ (wV G) G φ R fz μ loc w (zF H i (.dicI (delK ks vs j).1 (delK ks vs j).2))) (fun _ _=>False) s:=by
 refine VR.int_el hk fun t=> ?_;refine VR.ref_el ha fun a d hm=> ?_;refine zpI (S.ref D hm hh trivial) fun o ho e kvs z dd ek q=> ?_;refine zfF (S.one D O hh trivial hm ho) fun g m rest F N hr B X T up=> ?_;rw [ek] at hl ⊢;rw [← e] at N hr up;refine xC (dd.2) fun es ep hd1 hk1 hk2 hk3=> ?_;refine oEA (zqE q hl) fun val hv vx=> ?_;obtain ⟨i1,i2⟩:=without_ok (x:=j) hk3 q;refine kob_pop (knd:=intKind G.prog G.w) (k:=j) (more:=[]) F N (.head hr) ⟨es,ep,dd.1,hd1,hk1,hk2,hk3⟩ (intKind_is _ _ _ _) (.inl rfl) rfl (PySem.F.args_dict_pop_2 _ _) hv (Nat.le_trans z.2 y7) fun h' o' F' N' hd'=> ?_;refine oEEA hd' fun es' ep' e1 r=> ?_; (try clear hd');exact ⟨fz,μ,.refl,up h' (s.toks+1) _ o' trivial F' N' ⟨rfl,PySem.without kvs j,⟨z.1,Nat.le_trans (List.length_filter_le _ _) z.2⟩,⟨e1,es',ep',r⟩,i1,i2⟩,vx⟩
theorem ypI {K:Type} [DecidableEq K] {kvs:List (K×Value)} {vs:List PV} {w:PV} {x:K} {y:Value} (q:VRs G fz μ vs (kvs.map (·.2))) (hw:VR G fz μ w y):VR G fz μ ((zS (kvs.map (·.1)) vs x).getD w) ((PySem.valueAt kvs x).getD y):=by
 cases hl:zS (kvs.map (·.1)) vs x with
 |none=>rw [lookK_none q hl]; exact hw
 |some v =>
  refine oEA (zqE q hl) fun val hv vx=> ?_;rw [hv]; exact vx
theorem lf_dget (D:Good G φ k) (S:Sat G φ R fz μ loc H s) {ks:List (List Nat)} {vs:List PV} {j:List Nat} {x key:Value} (ha:VR G fz μ (.dicS ks vs) x) (hk:VR G fz μ (.str j) key) :
  wpAny (model G.prog G.w) φ.A (call (.builtin "dict.get") [x,key]) (LQ (wV G) G φ R fz μ loc H ((zS ks vs j).getD .none)) (fun _ _=>False) s:=by
 refine VR.str_el hk fun kx t hj zx=> ?_;refine xJ (S.dicS D ha) fun kvs a e dd z ek q=> ?_;rw [e,ek,← hj,lookS];exact call_meetsIn PySem.F.slot_dict_get dd.typeIs PySem.F.entry_dict_get (PySem.F.args_dict_get_2 _ _) (meets_dict_get (PySem.strKind G.prog G.w) a (strKind_is _ _ _ _) z.1) ⟨_,dd.mapOf,LQ.tok S (ypI q VR.none)⟩
theorem lf_dget2 (D:Good G φ k) (S:Sat G φ R fz μ loc H s) {ks:List Int} {vs:List PV} {j:Int} {w:PV} {x key y:Value} (ha:VR G fz μ (.dicI ks vs) x) (hk:VR G fz μ (.int j) key) (hw:VR G fz μ w y) :
  wpAny (model G.prog G.w) φ.A (call (.builtin "dict.get") [x,key,y]) (LQ (wV G) G φ R fz μ loc H ((zS ks vs j).getD w)) (fun _ _=>False) s:=by
 refine VR.int_el hk fun t=> ?_;refine xJ (S.dicI D ha) fun kvs a e dd z ek q=> ?_;rw [e,ek];exact call_meetsIn PySem.F.slot_dict_get dd.typeIs PySem.F.entry_dict_get (PySem.F.args_dict_get_3 _ _ _) (meets_dict_get_default (PySem.intKind G.prog G.w) a (intKind_is _ _ _ _) z.1 y) ⟨_,dd.mapOf,LQ.tok S (ypI q hw)⟩
theorem isStrs_on:∀ vs:List PV,On (zhD vs) fun l=>vs=l.map PV.str:=by
 intro l0
 induction l0 with
 |nil =>exact rfl
 |cons v vs ih =>
  have ih:=ih;cases v with
  |str i=>exact On.map (On.of fun l e=>congrArg (PV.str i:: ·) (ih.get e))
  |_=>exact trivial
theorem zfJ {vs:List PV} {l:List (List Nat)} (e:zhD vs=some l):vs=l.map PV.str:=(isStrs_on vs).get e
theorem isStrs_are {vs:List PV} {ls:List (List Nat)} {vals:List Value} (e:zhD vs=some ls) (q:VRs G fz μ vs vals):∃ xs:List Str,ls=xs.map (·.cps.toList)∧CarriedAll vals (xs.map PyData.str):=by
 rw [zfJ e] at q;clear e
 induction ls generalizing vals with
 |nil=>cases vals with
  |nil=>exact ⟨[],rfl,.nil⟩
  |cons=>exact q.elim
 |cons l ls ih=>cases vals with
  |nil=>exact q.elim
  |cons x xs =>
   refine oEA (ih q.2) fun ys e c=> ?_;refine zcE (q.1.str') fun y t e1 e2 _=> ?_;rw [e,e1,← e2];exact ⟨y::ys,rfl,.cons (.str y t) c⟩
theorem ycD:∀ {xs:List Str} {e:Str},e.cps.toList=[]→(Str.join e xs).cps.toList=(xs.map (·.cps.toList)).flatten
 |[],e,h=>rfl
 |[x],e,h=>by simp [Str.join]
 |x::y::r,e,h=>by
  show (x++e++Str.join e (y::r)).cps.toList=_;have ih:=ycD (xs:=y::r) h;have a1:∀ a b:Str,(a++b).cps.toList=a.cps.toList++b.cps.toList:=fun a b=>by
   show (a.cps++b.cps).toList=_
   simp
  rw [a1,a1,h,ih]
  simp
theorem lf_join (D:Good G φ k) (S:Sat G φ R fz μ loc H s) {v w:PV} {x y:Value} {ws:List PV} {l:List Nat} (ha:VR G fz μ (.str []) x) (hw:VR G fz μ w y) (hl:lstV w H=some ws) (hj:zyA ws=some l) (hz:l.length≤SZ) :
  wpAny (model G.prog G.w) φ.A (call (.builtin "str.join") [x,y]) (LQ (wV G) G φ R fz μ loc H (.str l)) (fun _ _=>False) s:=by
 refine VR.str_el ha fun e t he _=> ?_;refine z0 (ypC D S hw hl) fun b vals n eb hb z q=> ?_;rw [eb];refine On.get (o:=zyA ws) (P:=fun l=>l.length≤SZ→wpAny (model G.prog G.w) φ.A (call (.builtin "str.join") [.str e t,.ref b]) (LQ (wV G) G φ R fz μ loc H (.str l)) (fun _ _=>False) s) (On.bind (On.of fun ls h1=>On.ite fun hall hz=> ?_)) hj hz;refine oEA (isStrs_are h1 q) fun xs ex c=> ?_;rw [ex] at hall hz ⊢;have hlen:xs.length≤SZ:=(List.length_map _).symm.trans c.length_eq.symm▸z;have ez:e.length=0:=(Array.length_toList).symm.trans (congrArg List.length he);refine join_madeW (l:=xs) (g:=id) 16 (x:=e) ⟨_,hb,rfl,n,rfl⟩ ((List.map_id xs).symm▸c) (fun a ha=>of_decide_eq_true (List.all_eq_true.mp hall a.cps.toList (List.mem_map_of_mem (f:=fun x:Str=>x.cps.toList) ha))) (Nat.le_trans hlen (by rw [yfE]; decide)) (by rw [ez]; decide) fun t' k=> ?_;rw [List.map_id];have e1:(Txt.join e xs).cps.toList=(xs.map (·.cps.toList)).flatten:=by
  show (Builtin.Str.glued e xs).cps.toList=_;rw [StrLaws.glued_eq_join];exact ycD he
 exact LQ.tok S (zwJ e1 (by rw [← Array.length_toList,e1]; exact hz))
theorem lf_min2 (D:Good G φ k) (O:GOk G) (S:Sat G φ R fz μ loc H s) {a b:Int} {x y:Value} (ha:VR G fz μ (.int a) x) (hb:VR G fz μ (.int b) y) :
  wpAny (model G.prog G.w) φ.A (call (.builtin "min") [x,y]) (LQ (wV G) G φ R fz μ loc H (.int (if b<a then b else a))) (fun _ _=>False) s:=by
 refine VR.int_el ha fun t=> ?_;refine VR.int_el hb fun u=> ?_;refine zaI (S.whole D O) fun g m F N _ _ _ up=> ?_;exact min_two_N D.hh F N fun h' tk F' N'=>⟨fz,μ,.refl,up h' tk [] F' N' (fun p hp=>by cases hp),vrI _ _⟩
theorem vrRng (S:Sat G φ R fz μ loc H s) {h':Heap} {tk:Nat} {a b c:Int} {t u v:Tok} (hr:IsRange h' s.heap.objs.size a b c t u v) (kp:∀ b o,s.heap.get? b=some o→h'.get? b=some o) :
  LQ (wV G) G φ R fz μ loc H (.rng a b c) (.ref s.heap.objs.size) {s with heap:=h',toks:=tk}:=by
 have o:Obj:={cls:=.type "range",dict:=none,data:=.fields #[.int a t,.int b u,.int c v],slots:= #[]};have S':Sat G φ R ([(s.heap.objs.size,({cls:=.type "range",dict:=none,data:=.fields #[.int a t,.int b u,.int c v],slots:= #[]}:Obj))]++fz) μ loc H {s with heap:=h',toks:=tk}:=S.more kp fun p hp=>by
  rw [List.mem_singleton] at hp; subst hp;exact ⟨hr,S.none_⟩
 exact ⟨_,μ,⟨fun p hp=>mR _ hp,fun _ _ h=>h⟩,S',VR.rng a b c _ _ t u v (.inr (mL _ (List.mem_singleton.mpr rfl))) fun h e=>e⟩
theorem lf_rng1 (D:Good G φ k) (O:GOk G) (S:Sat G φ R fz μ loc H s) {a:Int} {x:Value} (ha:VR G fz μ (.int a) x) :
  wpAny (model G.prog G.w) φ.A (call (.type "range") [x]) (LQ (wV G) G φ R fz μ loc H (.rng 0 a 1)) (fun _ _=>False) s:=by
 refine VR.int_el ha fun t=> ?_;refine oEEA (S.frN D) fun g m F N=> ?_;exact range1_rows F N fun h' tk t₁ u₁ v₁ hr F' N' kp=>vrRng S hr kp
theorem lf_rng3 (D:Good G φ k) (O:GOk G) (S:Sat G φ R fz μ loc H s) {a b c:Int} {x y z:Value} (ha:VR G fz μ (.int a) x) (hb:VR G fz μ (.int b) y) (hc:VR G fz μ (.int c) z) (h:0<c∧c≤1000) :
  wpAny (model G.prog G.w) φ.A (call (.type "range") [x,y,z]) (LQ (wV G) G φ R fz μ loc H (.rng a b c)) (fun _ _=>False) s:=by
 refine VR.int_el ha fun t=> ?_;refine VR.int_el hb fun u=> ?_;refine VR.int_el hc fun v=> ?_;refine oEEA (S.frN D) fun g m F N=> ?_;exact range3_rows F N (by lia) (fun h' tk t₁ u₁ v₁ hr F' N' kp=>vrRng S hr kp) (.inl (PyProof.noPylong_small (by omega)))
end
section
variable {G:Gl} {φ:Fx} {k:Nat} {R fz fz₁:zB} {μ μ₁:Mu} {loc:Loc} {H:Hp} {s:Shared} {Γ:MP} {T:Tab} {α β γ δ:Type} {m:Str→Option Value} {h:Heap} {c:Addr} {o:Obj}
theorem Base.reveal (x:Base G φ m ((c,o)::R) fz μ H h) (hR:∀ p∈R,p.1≠c):Base G φ m R ((c,o)::fz) μ H h:=by
 obtain ⟨g,mu,tb,T,F,N,S⟩:=x;refine ⟨g,mu,tb,T,F,fun p hp=>N p ?_,S.len,fun i po hi hl=> ?_,S.own,S.inj,fun p hp q hq=>S.sepM p hp q ?_,fun p hp q hq=> ?_,fun p hp q hq=>S.sepT p hp q (mC _ hq),S.fun_,?_,S.tfun⟩
 ·simp only [List.mem_append,List.mem_cons] at hp ⊢
  rcases hp with (hp|hp)|hp|hp|hp
  ·exact .inr (.inr (.inr (.inl hp)))
  ·exact .inl hp
  ·exact .inr (.inl hp)
  ·exact .inr (.inr (.inl hp))
  ·exact .inr (.inr (.inr (.inr hp)))
 ·refine zY (S.live i po hi hl) fun a d o h1 h2 h3=> ?_
  exact ⟨a,d,o,h1,h2,h3.mono ⟨fun p hp=>mC _ hp,fun _ _ h=>h⟩⟩
 ·simp only [List.mem_append,List.mem_cons] at hq ⊢
  rcases hq with (hq|hq)|hq|hq
  ·exact .inr (.inr (.inl hq))
  ·exact .inl hq
  ·exact .inr (.inl hq)
  ·exact .inr (.inr (.inr hq))
 ·rcases mN hp with rfl|hp
  ·rcases mP hq with hq|hq
   ·exact Ne.symm (S.sepT q hq (c,o) mQ)
   ·exact hR q hq
  ·refine S.sepF p hp q ?_
   rcases mP hq with hq|hq
   ·exact mL _ hq
   ·exact mR _ (mC _ hq)
 ·exact fun q hq=>by refine oEAA (S.tab q hq) fun ps h1 h2 h3=> ?_; exact ⟨ps,h1,h2,fun pos cv hc=>by refine zcD (h3 pos cv hc) fun c' oc vs t k1 k2 k3=> ?_; exact ⟨c',oc,vs,t,k1,mC _ k2,k3⟩⟩
theorem Sat.reveal (S:Sat G φ ((c,o)::R) fz μ loc H s) (hR:Out φ R c):Sat G φ R ((c,o)::fz) μ loc H s:=by
 obtain ⟨sm,m,vm,ce,B,L⟩:=S;have B':Base G φ m (ce++R) ((c,o)::fz) μ H s.heap:=Base.reveal (B.sub fun p hp=>zqD hp) fun p hp=>by
  rcases mP hp with hp|hp
  ·exact Ne.symm (L.sepR p hp (c,o) mQ)
  ·exact hR.1 p hp
 exact ⟨sm,m,vm,ce,B',fun p hp q hq=>L.sepR p hp q (mC _ hq),hR.2,L.cs,(L.ext Ext.cons).at_⟩
structure AJ (G:Gl) (φ:Fx) (f:Loc→Hp→Rs (List PV)) (ts:List (Bool×Sem Value)):Prop where
 pl:ts.any (·.1)=false
 nl:ts=[]→∀ loc H,f loc H= .ok [] H
 sj:SJ G φ MP.top (wVs G) f (spliced ts)
theorem zwC:AJ G φ (fun _ H=>.ok [] H) []:=⟨rfl,fun _ _ _=>rfl,fun R fz μ loc H s S hΓ hF=>spliced_nil ⟨[],H,fz,μ,rfl,.refl,S,trivial⟩⟩
theorem zdB (hf:EJ G φ f x) (hg:AJ G φ g ts) :
  AJ G φ (fun loc H=>(f loc H).bind fun v H=>(g loc H).bind fun vs H=>.ok (v::vs) H) ((false,x)::ts):=by
 refine ⟨by simpa using hg.pl,(fun h=>nomatch h),fun R fz μ loc H s S hΓ hF=> ?_⟩
 try dsimp only at hF ⊢
 refine spliced_cons (wpAny_mono (hf R fz μ loc H s S trivial hF.fst) (fun v s1 h_=> ?_) fun e s' h'=>h'.up .refl fun C H q=>by rw [q]; rfl);obtain ⟨pv,H1,fz1,μ1,e1,x1,S1,w1⟩:=h_;rw [e1] at hF ⊢;have hF1:Fine φ ((g loc H1).bind fun vs H=>.ok (pv::vs) H):=hF;refine wpAny_mono (hg.sj R fz1 μ1 loc H1 s1 S1 trivial hF1.fst) (fun vs s2 ⟨pvs,H2,fz2,μ2,e2,x2,S2,w2⟩=> ?_) fun e s' h'=>h'.up x1 fun C H q=>by
  show (g loc H1).bind _=_;rw [q]; rfl
 refine ⟨pv::pvs,H2,fz2,μ2,?_,x1.trans x2,S2,w1.mono x2,w2⟩;show (g loc H1).bind _=_;rw [e2]; rfl
theorem ej_tup (h:AJ G φ f (backTo pos (starEach elts φ.env))) :
  EJ G φ (fun loc H=>(f loc H).bind fun vs H=>if vs.length≤SZ then .ok (.tup vs) H else .bad) (eval (.Tuple elts n pos) φ.env):=by
 rw [arm_eval_Tuple];exact SJ.standAt (h.sj.bind fun vs xs=>(SJ.lf (op:=fun _=>if vs.length≤SZ then some (.tup vs) else none) fun R fz μ loc H s a S g e=>by
  split at e
  ·rename_i hz
   cases e;exact zkH S g.2 (by rw [← zE g.2]; exact hz)
  ·cases e).congr fun loc H=>by split <;> rfl)
theorem ej_lst (h:AJ G φ f (backTo pos (starEach elts φ.env))) :
  EJ G φ (fun loc H=>(f loc H).bind fun vs H=>match vs with
   |[]=>.ok (.ref H.length) (H++[.lst []])
   |v::vs=>if (v::vs).length≤SZ then .ok (.lst (v::vs)) H else .bad) (eval (.List elts pos) φ.env):=by
 rw [arm_eval_List];refine SJ.standAt (h.sj.bind fun vs xs=> ?_);cases vs with
 |nil =>
  refine SJ.hf (f:=fun H=>Rs.ok (PV.ref H.length) (H++[PO.lst []])) fun R fz μ loc H s S g _=>⟨_,_,rfl,?_⟩;have hx:xs=[]:=by
   have:=zE g.2;cases xs with
   |nil=>rfl
   |cons a b=>cases this
  subst hx;exact wpAny_newList (HQ.mpush S (tk:=s.toks) (fun b ob e=>Heap.get?_push_of_some _ e) (Heap.get?_push_size _ rfl) S.none_ trivial ⟨rfl,[],0,rfl,Nat.zero_le _,trivial⟩) (Nat.zero_le _)
 |cons v vs =>
  exact (SJ.lf (op:=fun _=>if (v::vs).length≤SZ then some (.lst (v::vs)) else none) fun R fz μ loc H s a S g e=>by
   split at e
   ·rename_i hz
    cases e;exact lf_newList S g.2 (by rw [← zE g.2]; exact hz)
   ·cases e).congr fun loc H=>by
    show (if (v::vs).length≤SZ then _ else _)=_
    split <;> rfl
noncomputable def flat2 (ps:List (Value×Value)):List Value:=ps.flatMap fun p=>[p.1,p.2]
noncomputable def wPs (G:Gl):MW (List PV) (List (Value×Value)):=⟨fun fz μ vs ps=>VRs G fz μ vs (flat2 ps),fun e h=>VRs.mono e h⟩
theorem pj_nil:SJ G φ MP.top (wPs G) (fun _ H=>.ok [] H) (evalPairs []):=fun R fz μ loc H s S hΓ hF=>evalPairs_nil ⟨[],H,fz,μ,rfl,.refl,S,trivial⟩
theorem pj_cons (hf:EJ G φ f x) (hf':EJ G φ f' y) (hg:SJ G φ MP.top (wPs G) g (evalPairs ps)) :
  SJ G φ MP.top (wPs G) (fun loc H=>(f loc H).bind fun v H=>((f' loc H).bind fun w H=>(g loc H).bind fun vs H=>.ok (w::vs) H).bind fun vs H=>.ok (v::vs) H) (evalPairs ((x,y)::ps)):=by
 intro R fz μ loc H s S hΓ hF
 try dsimp only at hF ⊢
 refine evalPairs_cons (wpAny_mono (hf R fz μ loc H s S trivial hF.fst) (fun v s1 h_=> ?_) fun e s' h'=>h'.up .refl fun C H q=>by rw [q]; rfl);obtain ⟨pv,H1,fz1,μ1,e1,x1,S1,w1⟩:=h_;rw [e1] at hF ⊢;have hF1:Fine φ (((f' loc H1).bind fun w H=>(g loc H).bind fun vs H=>.ok (w::vs) H).bind fun vs H=>.ok (pv::vs) H):=hF;refine wpAny_mono (hf' R fz1 μ1 loc H1 s1 S1 trivial hF1.fst.fst) (fun v2 s2 ⟨pv2,H2,fz2,μ2,e2,x2,S2,w2⟩=> ?_) fun e s' h'=>h'.up x1 fun C H q=>by
  show ((f' loc H1).bind _).bind _=_;rw [q]; rfl
 rw [e2] at hF1;have hF2:Fine φ (((g loc H2).bind fun vs H=>.ok (pv2::vs) H).bind fun vs H=>.ok (pv::vs) H):=hF1;have e12:((Rs.ok pv H1).bind fun v H=>((f' loc H).bind fun w H=>(g loc H).bind fun vs H=>.ok (w::vs) H).bind fun vs H=>.ok (v::vs) H)=((g loc H2).bind fun vs H=>.ok (pv2::vs) H).bind fun vs H=>.ok (pv::vs) H:=by
  show ((f' loc H1).bind _).bind _=_;rw [e2]; rfl
 rw [e12];refine wpAny_mono (hg R fz2 μ2 loc H2 s2 S2 trivial hF2.fst.fst) (fun vs s3 h_=> ?_) fun e s' h'=>h'.up (x1.trans x2) fun C H q=>by rw [q]; rfl
 obtain ⟨pvs,H3,fz3,μ3,e3,x3,S3,w3⟩:=h_;refine ⟨pv::pv2::pvs,H3,fz3,μ3,?_,(x1.trans x2).trans x3,S3,(w1.mono x2).mono x3,w2.mono x3,w3⟩;rw [e3]; rfl
theorem zyJ:∀ {vs:List PV} {ps:List (Value×Value)},VRs G fz μ vs (flat2 ps)→VRs G fz μ (alt vs).1 (ps.map (·.1))∧VRs G fz μ (alt vs).2 (ps.map (·.2))
 |[],[],_=>⟨trivial,trivial⟩
 |[],_::_,h=>h.elim
 |[_],[],h=>h.elim
 |[_],_::_,h=>h.2.elim
 |_::_::_,[],h=>h.elim
 |a::b::r,p::ps,h=>by
  refine oAA h fun h1 h2 h3=> ?_; (try clear h);obtain ⟨i1,i2⟩:=zyJ (vs:=r) (ps:=ps) h3;exact ⟨⟨h1,i1⟩,h2,i2⟩
theorem isInts_map:∀ {vs:List PV} {l:List Int},zaB vs=some l→vs=l.map PV.int:=fun {vs l} e=>by
 have:∀ vs,On (zaB vs) fun l=>vs=l.map PV.int:=fun vs=>by
  induction vs with
  |nil=>exact rfl
  |cons v vs ih=>cases v with
   |int i=>exact On.map (On.of fun l e=>congrArg (PV.int i:: ·) (ih.get e))
   |_=>exact trivial
 exact (this vs).get e
theorem carry_ints (h:VRs G fz μ (l.map PV.int) (ps.map (·.1))):∃ kvs:List (Int×Value),l=kvs.map (·.1)∧ps.map (·.2)=kvs.map (·.2)∧Carries (PySem.intKind G.prog G.w) ps kvs:=by
 induction l generalizing ps with
 |nil=>cases ps with
  |nil=>exact ⟨[],rfl,rfl,trivial⟩
  |cons=>exact h.elim
 |cons i l ih=>cases ps with
  |nil=>exact h.elim
  |cons p ps =>
   refine oEAA (ih h.2) fun kvs e1 e2 c=> ?_;obtain ⟨t,ht⟩:=VR.int' h.1;exact ⟨(i,p.2)::kvs,congrArg (i:: ·) e1,congrArg (p.2:: ·) e2,(congrArg (fun a=>(intKind G.prog G.w).is i a) ht).trans (intKind_is _ _ _ _),rfl,c⟩
theorem ints_carry (e:zaB ks=some l) (h:VRs G fz μ ks (ps.map (·.1))):∃ kvs:List (Int×Value),l=kvs.map (·.1)∧ps.map (·.2)=kvs.map (·.2)∧Carries (PySem.intKind G.prog G.w) ps kvs:=carry_ints (isInts_map e▸h)
theorem carry_strs (h:VRs G fz μ (l.map PV.str) (ps.map (·.1))):∃ kvs:List (Str×Value),l=kvs.map (·.1.cps.toList)∧xH kvs∧ps.map (·.2)=kvs.map (·.2)∧Carries (PySem.strKind G.prog G.w) ps kvs:=by
 induction l generalizing ps with
 |nil=>cases ps with
  |nil=>exact ⟨[],rfl,(fun p h=>nomatch h),rfl,trivial⟩
  |cons=>exact h.elim
 |cons i l ih=>cases ps with
  |nil=>exact h.elim
  |cons p ps =>
   refine ymG (ih h.2) fun kvs e1 e0 e2 c=> ?_;refine zcE (VR.str' h.1) fun x t ht hx z=> ?_;exact ⟨(x,p.2)::kvs,by rw [List.map_cons,← e1,← hx],fun q hq=>(mN hq).elim (fun e=>e▸z) (e0 q),congrArg (p.2:: ·) e2,(congrArg (fun a=>(PySem.strKind G.prog G.w).is x a) ht).trans (strKind_is _ _ _ _),rfl,c⟩
theorem strs_carry (e:zhD ks=some l) (h:VRs G fz μ ks (ps.map (·.1))):∃ kvs:List (Str×Value),l=kvs.map (·.1.cps.toList)∧xH kvs∧ps.map (·.2)=kvs.map (·.2)∧Carries (PySem.strKind G.prog G.w) ps kvs:=carry_strs (zfJ e▸h)
theorem nodup_map {κ ι:Type} (f:κ→ι):∀ {l:List κ},(l.map f).Nodup→l.Nodup:=by
 intro l0
 induction l0 with
 |nil =>
  intro _;exact .nil
 |cons a l ih =>
  intro h;rw [List.map_cons,List.nodup_cons] at h;exact List.nodup_cons.mpr ⟨fun hm=>h.1 (List.mem_map_of_mem hm),ih h.2⟩
theorem zyI:∀ {vs:List PV},(alt vs).1.length≤vs.length
 |[]=>Nat.le_refl _
 |[_]=>Nat.zero_le _
 |_::_::r=>by
  have:=zyI (vs:=r);exact Nat.le_succ_of_le (Nat.succ_le_succ this)
noncomputable abbrev emD:Obj:={cls:=.type "dict",data:=.dict #[]}
theorem zvG {κ:Type} [DecidableEq κ] (knd:PySem.KeyKind G.prog G.w κ) (S:Sat G φ ((d,emD)::R) fz μ loc H s):s.heap.DictOf knd d [] :=
 (zK.of (Heap.DictOf.new (knd:=knd) s.heap) (Heap.get?_push_size s.heap rfl)).at (S.rMem mQ)
theorem ydI {κ:Type} [DecidableEq κ] (knd:PySem.KeyKind G.prog G.w κ) {kvs:List (κ×Value)} (hR:Out φ R d) (hn:(kvs.map (·.1)).Nodup) (x1:Ext fz μ fz1 μ1)
  (S1:Sat G φ ((d,emD)::R) fz1 μ1 loc H1 s1) (hd:h'.DictOf knd d (merged [] kvs)) (hs:Heap.SameBut d s1.heap h') (hv:∀ fz2 o',Ext fz1 μ1 fz2 μ1→G.P fz2 d o'→zK knd kvs o'→VR G fz2 μ1 pv (.ref d)) :
  ∃ fz2,Ext fz μ fz2 μ1∧Sat G φ R fz2 μ1 loc H1 {s1 with heap:=h',toks:=tk}∧VR G fz2 μ1 pv (.ref d):=by
 rw [merged_nil_of_nodup kvs hn] at hd;refine oEA (Heap.dictOf_iff.mp hd) fun o' ho' hd'=> ?_;have S2:=S1.hidGrow (h':=h') (tk:=tk) (fun b ob hb e=>(hs.2 b hb).trans e) ho' hR;exact ⟨_,x1.trans Ext.cons,S2.reveal hR,hv _ o' Ext.cons (.inr mQ) (zK.of hd ho')⟩
theorem ej_dct (D:Good G φ k) (O:GOk G)
  (hshape:(evalEachOpt keys φ.env).zip ((evalEach values φ.env).map fun v=>do let x ← v; standAt pos; pure x)=pairs.map fun p=>(some p.1,p.2)) (h0:pairs≠[]) (hlen:pairs.length≤15)
  (h:SJ G φ MP.top (wPs G) f (evalPairs pairs)) :
  EJ G φ (fun loc H=>(f loc H).bind fun q H=>match q with
   |[]=>.ok (.ref H.length) (H++[if isI then .dicI [] [] else .dicS [] []])
   |k::r=>if (k::r).length≤SZ then zC (y9 isI (alt (k::r)).1 (alt (k::r)).2) H else .bad) (eval (.Dict keys values pos) φ.env):=by
 intro R fz μ loc H s S hΓ hF;dsimp only at hF ⊢;have nmd:=S.notMods D O;have fin:∀ {κ:Type} [DecidableEq κ] (knd:KeyKind G.prog G.w κ) (Q:Value→Shared→Prop) (E:Value→Shared→Prop),
   wpAny (model G.prog G.w) φ.A (evalPairs pairs) (fun vs s₁=>∃ kvs,Carries knd vs kvs∧s₁.heap.DictOf knd s.heap.objs.size [] ∧
    ∀ h',h'.DictOf knd s.heap.objs.size (merged [] kvs)→Heap.SameBut s.heap.objs.size s₁.heap h'→Q (.ref s.heap.objs.size) {s₁ with heap:=h',toks:=s₁.toks+vs.length}) E {s with heap:=s.heap.push {cls:=.type "dict",data:=.dict #[]}} →
   wpAny (model G.prog G.w) φ.A (eval (.Dict keys values pos) φ.env) Q E s:=fun knd Q E w=>wpAny_Dict_pairs (knd:=knd) hshape h0 hlen w
 obtain ⟨S0,hR⟩:=S.hide1 (tk:=s.toks) (fun b ob e=>Heap.get?_push_of_some _ e) (Heap.get?_push_size s.heap (o:={cls:=.type "dict",data:=.dict #[]}) rfl) S.none_;have run:=h _ fz μ loc H _ S0 trivial hF.fst;have exc:∀ e s',EX G φ ((s.heap.objs.size,({cls:=.type "dict",data:=.dict #[]}:Obj))::R) fz μ (f loc H) e s'→EX G φ R fz μ ((f loc H).bind fun q H=>match q with
   |[]=>.ok (.ref H.length) (H++[if isI then .dicI [] [] else .dicS [] []])
   |k::r=>if (k::r).length≤SZ then zC (y9 isI (alt (k::r)).1 (alt (k::r)).2) H else .bad) e s':=fun e s' h'=>(h'.sub fun p hp=>mC _ hp).up .refl fun C H q=>by rw [q]; rfl
 cases isI with
 |true =>
  refine fin (PySem.intKind G.prog G.w) _ _ (wpAny_mono (wpAny_evalPairs_len run) (fun ps s1 h_=> ?_) exc);obtain ⟨hl,pvs,H1,fz1,μ1,e1,x1,S1,w1⟩:=h_;rw [e1] at hF ⊢;cases pvs with
  |nil =>
   cases ps with
   |nil=>exact absurd (List.length_eq_zero_iff.mp hl.symm) h0
   |cons p r=>exact w1.elim
  |cons k r =>
   have hF1:Fine φ (if (k::r).length≤SZ then zC (y9 true (alt (k::r)).1 (alt (k::r)).2) H1 else .bad):=hF;have eR:((Rs.ok (k::r) H1).bind fun q H=>match q with
     |[]=>.ok (.ref H.length) (H++[if true then .dicI [] [] else .dicS [] []])
     |k::r=>if (k::r).length≤SZ then zC (y9 true (alt (k::r)).1 (alt (k::r)).2) H else .bad)=if (k::r).length≤SZ then zC (y9 true (alt (k::r)).1 (alt (k::r)).2) H1 else .bad:=rfl
   rw [eR]
   split at hF1
   ·rename_i hz
    obtain ⟨pv,hpv⟩:=z9 hF1;rw [if_pos hz,hpv];unfold y9 at hpv;refine oEA (Option.bind_eq_some_iff.mp hpv) fun l q1 q2=> ?_
    split at q2
    ·rename_i hn
     cases q2;obtain ⟨a1,a2⟩:=zyJ w1;refine oEAA (ints_carry q1 a1) fun kvs o1_ i2 i3=> ?_; obtain rfl:=o1_;refine ⟨kvs,i3,zvG _ S1,fun h' hd hs=> ?_⟩;have hlen2:kvs.length≤SZ:=by
      have e1:=i3.length;have e2:=zE a1;have e3:=zyI (vs:=k::r);rw [List.length_map] at e2
      lia
     refine oEAA (ydI (PySem.intKind G.prog G.w) (tk:=s1.toks+ps.length) (pv:=.dicI (kvs.map (·.1)) (alt (k::r)).2) hR hn x1 S1 hd hs fun fz2 o' x hP dd=>ynE hP ⟨nmd,hlen2⟩ dd (i2▸VRs.mono x a2)) fun fz2 y1 y2 y3=> ?_;exact ⟨_,H1,fz2,μ1,rfl,y1,y2,y3⟩
    ·cases q2
   ·exact hF1.elim
 |false =>
  refine fin (PySem.strKind G.prog G.w) _ _ (wpAny_mono (wpAny_evalPairs_len run) (fun ps s1 h_=> ?_) exc);obtain ⟨hl,pvs,H1,fz1,μ1,e1,x1,S1,w1⟩:=h_;rw [e1] at hF ⊢;cases pvs with
  |nil =>
   cases ps with
   |nil=>exact absurd (List.length_eq_zero_iff.mp hl.symm) h0
   |cons p r=>exact w1.elim
  |cons k r =>
   have hF1:Fine φ (if (k::r).length≤SZ then zC (y9 false (alt (k::r)).1 (alt (k::r)).2) H1 else .bad):=hF;have eR:((Rs.ok (k::r) H1).bind fun q H=>match q with
     |[]=>.ok (.ref H.length) (H++[if false then .dicI [] [] else .dicS [] []])
     |k::r=>if (k::r).length≤SZ then zC (y9 false (alt (k::r)).1 (alt (k::r)).2) H else .bad)=if (k::r).length≤SZ then zC (y9 false (alt (k::r)).1 (alt (k::r)).2) H1 else .bad:=rfl
   rw [eR]
   split at hF1
   ·rename_i hz
    obtain ⟨pv,hpv⟩:=z9 hF1;rw [if_pos hz,hpv];unfold y9 at hpv;refine oEA (Option.bind_eq_some_iff.mp hpv) fun l q1 q2=> ?_
    split at q2
    ·rename_i hn
     cases q2;obtain ⟨a1,a2⟩:=zyJ w1;refine ymG (strs_carry q1 a1) fun kvs o1_ i0 i2 i3=> ?_; obtain rfl:=o1_;refine ⟨kvs,i3,zvG _ S1,fun h' hd hs=> ?_⟩;have hlen2:kvs.length≤SZ:=by
      have e1:=i3.length;have e2:=zE a1;have e3:=zyI (vs:=k::r);rw [List.length_map] at e2
      lia
     have hn':(kvs.map (·.1)).Nodup:=nodup_map (fun a:Str=>a.cps.toList) (by rw [List.map_map]; exact hn);refine oEAA (ydI (PySem.strKind G.prog G.w) (tk:=s1.toks+ps.length) (pv:=.dicS (kvs.map (·.1.cps.toList)) (alt (k::r)).2) hR hn' x1 S1 hd hs fun fz2 o' x hP dd=>ygC hP ⟨nmd,hlen2,i0⟩ dd (i2▸VRs.mono x a2)) fun fz2 y1 y2 y3=> ?_;exact ⟨_,H1,fz2,μ1,rfl,y1,y2,y3⟩
    ·cases q2
   ·exact hF1.elim
end
section
variable {G:Gl} {φ:Fx} {k:Nat} {R fz fz₁:zB} {μ μ₁:Mu} {loc:Loc} {H:Hp} {s:Shared} {Γ:MP} {T:Tab} {α β γ δ:Type}
theorem tr_bool:SJ G φ (Γ.and (wV G) v x) wB (fun _ H=>zC (zM v) H) (truthy x) :=
 SJ.lf (op:=fun _=>zM v) fun R fz μ loc H s q S g e=>by
  cases v <;> cases e
  obtain rfl:=VR.bool' g.2;exact wpAny_truthy_bool (LQ.here S rfl)
theorem cmp_J (D:Good G φ k) (hv:∀ fz μ,Γ'.p fz μ→VR G fz μ v x) (hw:∀ fz μ,Γ'.p fz μ→VR G fz μ w y):SJ G φ Γ' (wV G) (fun _ H=>zC ((cmpV op v w H).map PV.bool) H) (compareOp (yA op) x y) :=
 SJ.lf (op:=fun H=>(cmpV op v w H).map PV.bool) fun R fz μ loc H s q S g e=>by
  refine oEA (Option.map_eq_some_iff.mp e) fun r e' o1_=> ?_; obtain rfl:=o1_;exact yjE D S (hv _ _ g) (hw _ _ g) e' fun tk=>LQ.tok S (vrB r)
theorem yrE (D:Good G φ k):SJ G φ ((Γ.and (wV G) v x).and (wV G) w y) (wV G) (fun _ H=>zC ((cmpV op v w H).map PV.bool) H) (compareOp (yA op) x y) :=
 cmp_J D (fun _ _ g=>g.1.2) fun _ _ g=>g.2
theorem yrD (D:Good G φ k):SJ G φ (((Γ.and (wV G) v x).and (wV G) cv z).and (wV G) w y) (wV G) (fun _ H=>zC ((cmpV op v w H).map PV.bool) H) (compareOp (yA op) x y) :=
 cmp_J D (fun _ _ g=>g.1.1.2) fun _ _ g=>g.2
theorem znG {f:Bool→Hp→Rs α}:((zC (o.map PV.bool) H).bind fun c H=>(zC (zM c) H).bind f)=(zC o H).bind f:=by cases o <;> rfl
theorem SJ.two {W:MW α β} {f g:Loc→Hp→Rs α} {t u:Sem β} (hf:SJ G φ Γ W f t) (hg:SJ G φ Γ W g u) :
  SJ G φ (Γ.and wB b b') W (fun loc H=>if b then f loc H else g loc H) (if b' then t else u):=by
 intro R fz μ loc H s S hΓ hF;have h:b=b':=hΓ.2;subst h;cases b
 ·exact hg R fz μ loc H s S hΓ.1 hF
 ·exact hf R fz μ loc H s S hΓ.1 hF
theorem SJ.onBool {W:MW α β} {f:Loc→Hp→Rs α} {g:Hp→Rs α} {t u:Sem β} (hf:SJ G φ (Γ.and (wV G) cv z) W f t) (hg:cv= .bool false→SJ G φ (Γ.and (wV G) cv z) W (fun _ H=>g H) u) :
  SJ G φ (Γ.and (wV G) cv z) W (fun loc H=>(zC (zM cv) H).bind fun r H=>if r then f loc H else g H) (PySem.holding vs (truthy z) >>= fun (b:Bool)=>if b then t else u):=by
 cases cv with
 |bool d =>
  intro R fz μ loc H s S hΓ hF;have hz:=VR.bool' hΓ.2;subst hz;refine wpAny_bind (wpAny_holding (wpAny_truthy_bool ?_));cases d
  ·exact hg rfl R fz μ loc H s S hΓ hF
  ·exact hf R fz μ loc H s S hΓ hF
 |_=>exact fun R fz μ loc H s S hΓ hF=>hF.elim
theorem ej_chain (D:Good G φ k) (hm:lastMarks [yA o1,yA o2] [r,q]=false) (ha:EJ G φ a (eval l φ.env)) (hb:EJ G φ b (eval r φ.env)) (hc:EJ G φ c (eval q φ.env)) :
  EJ G φ (fun loc H=>(a loc H).bind fun v H=>(b loc H).bind fun w H=>(zC (cmpV o1 v w H) H).bind fun r H =>
   if r then (c loc H).bind fun x H=>zC ((cmpV o2 w x H).map .bool) H else .ok (.bool false) H) (eval (.Compare l [yA o1,yA o2] [r,q] pos) φ.env):=by
 have e:eval (.Compare l [yA o1,yA o2] [r,q] pos) φ.env=(do
   let a ← eval l φ.env
   let rv ← holding [a] (eval r φ.env)
   standAt pos
   let c ← holding [a,rv] (compareOp (yA o1) a rv)
   release [a,rv] [c]
   if ← holding [c,rv] (truthy c) then (do
    let r2 ← holding [rv] (eval q φ.env)
    standAt pos
    operate [rv,r2] (compareOp (yA o2) rv r2)) else pure c):=by
  rw [arm_eval_Compare,markedEach_of_false _ _ _ hm]
  rfl
 rw [e];refine ha.bind fun v x=>SJ.congr (f:=fun loc H=>(b loc H).bind fun w H=>(zC ((cmpV o1 v w H).map PV.bool) H).bind fun cv H=>(zC (zM cv) H).bind fun r H =>if r then (c loc H).bind fun x H=>zC ((cmpV o2 w x H).map PV.bool) H else .ok (.bool false) H) ?_ fun loc H=>by simp only [znG]
 refine SJ.bind (SJ.holding hb.any) fun w y=>SJ.standAt (SJ.bind (W₁:=wV G) (SJ.holding (yrE D)) fun cv z=>SJ.release ?_);exact SJ.onBool (SJ.bind (SJ.holding hc.any) fun u t=>SJ.standAt (SJ.operate (yrD D))) fun hcv R fz μ loc H s S hΓ hF=>by
  subst hcv;obtain rfl:=VR.bool' hΓ.2;exact wpAny_pure ⟨.bool false,H,fz,μ,rfl,.refl,S,VR.bool false⟩
theorem tj_chain (D:Good G φ k) (hm:lastMarks [yA o1,yA o2] [r,q]=false) (ha:EJ G φ a (eval l φ.env)) (hb:EJ G φ b (eval r φ.env)) (hc:EJ G φ c (eval q φ.env)) :
  TJ G φ (fun loc H=>(a loc H).bind fun v H=>(b loc H).bind fun w H=>(zC (cmpV o1 v w H) H).bind fun r H =>
   if r then (c loc H).bind fun x H=>zC ((cmpV o2 w x H).map .bool) H else .ok (.bool false) H) (isTrue (.Compare l [yA o1,yA o2] [r,q] pos) φ.env whole):=by
 have e:isTrue (.Compare l [yA o1,yA o2] [r,q] pos) φ.env whole=(do
   let a ← eval l φ.env
   let rv ← holding [a] (eval r φ.env)
   standAt pos
   let c ← holding [a,rv] (compareOp (yA o1) a rv)
   release [a,rv] [c]
   if ← holding [c,rv] (truthy c) then (do
    let r2 ← holding [rv] (eval q φ.env)
    standAt pos
    let c ← operate [rv,r2] (compareOp (yA o2) rv r2)
    holding [c] (truthy c)) else pure false):=by
  rw [arm_isTrue_Compare,markedEach_of_false _ _ _ hm]
  rfl
 rw [e];refine SJ.congr (f:=fun loc H=>(a loc H).bind fun v H=>(b loc H).bind fun w H=>(zC ((cmpV o1 v w H).map PV.bool) H).bind fun cv H=>(zC (zM cv) H).bind fun r H =>
   if r then (c loc H).bind fun x H=>(zC ((cmpV o2 w x H).map PV.bool) H).bind fun c2 H=>zC (zM c2) H else .ok false H) ?_ fun loc H=>by
  unfold tst;simp only [znG,zR]
  congr 1; funext v H; congr 1; funext w H; congr 1; funext r H
  cases r
  ·rfl
  ·simp only [if_true,zR]
 refine SJ.bind ha fun v x=>SJ.bind (SJ.holding hb.any) fun w y=>SJ.standAt (SJ.bind (W₁:=wV G) (SJ.holding (yrE D)) fun cv z=>SJ.release ?_);exact SJ.onBool (SJ.bind (SJ.holding hc.any) fun u t=>SJ.standAt (SJ.bind (W₁:=wV G) (SJ.operate (yrD D)) fun c2 z2=>SJ.holding tr_bool)) fun hcv R fz μ loc H s S hΓ hF=>wpAny_pure ⟨false,H,fz,μ,rfl,.refl,S,rfl⟩
theorem yrF (h:EJ G φ a (eval x φ.env)):EJ G φ a (boolOp pos op (evalEach [x] φ.env)):=h
theorem ba_cons (ha:EJ G φ a (eval x φ.env)) (hb:EJ G φ b (boolOp pos .And (evalEach (y::r) φ.env))) :
  EJ G φ (fun loc H=>(a loc H).bind fun v H=>(zC (zM v) H).bind fun t H=>if t then b loc H else .ok (.bool false) H) (boolOp pos .And (evalEach (x::y::r) φ.env)):=by
 have e:boolOp pos .And (evalEach (x::y::r) φ.env)=(do
   let v ← eval x φ.env
   standAt pos
   if ← holding [v] (truthy v) then boolOp pos .And (evalEach (y::r) φ.env) else pure v):=by
  show (eval x φ.env >>= fun v=>standAt pos >>= fun _=>holding [v] (truthy v) >>= fun t=>_)=_
  congr 1; funext v; congr 1; funext _; congr 1; funext t
  cases t <;> rfl
 rw [e];refine SJ.bind ha fun v z=>SJ.standAt ?_;cases v with
 |bool d =>
  intro R fz μ loc H s S hΓ hF;obtain rfl:=VR.bool' hΓ.2;refine wpAny_bind (wpAny_holding (wpAny_truthy_bool ?_));cases d
  ·exact wpAny_pure ⟨.bool false,H,fz,μ,rfl,.refl,S,VR.bool false⟩
  ·exact hb R fz μ loc H s S trivial hF
 |_=>exact fun R fz μ loc H s S hΓ hF=>hF.elim
theorem bo_cons (ha:EJ G φ a (eval x φ.env)) (hb:EJ G φ b (boolOp pos .Or (evalEach (y::r) φ.env))) :
  EJ G φ (fun loc H=>(a loc H).bind fun v H=>(zC (zM v) H).bind fun t H=>if t then .ok (.bool true) H else b loc H) (boolOp pos .Or (evalEach (x::y::r) φ.env)):=by
 have e:boolOp pos .Or (evalEach (x::y::r) φ.env)=(do
   let v ← eval x φ.env
   standAt pos
   if ← holding [v] (truthy v) then pure v else boolOp pos .Or (evalEach (y::r) φ.env)):=by
  show (eval x φ.env >>= fun v=>standAt pos >>= fun _=>holding [v] (truthy v) >>= fun t=>_)=_
  congr 1; funext v; congr 1; funext _; congr 1; funext t
  cases t <;> rfl
 rw [e];refine SJ.bind ha fun v z=>SJ.standAt ?_;cases v with
 |bool d =>
  intro R fz μ loc H s S hΓ hF;obtain rfl:=VR.bool' hΓ.2;refine wpAny_bind (wpAny_holding (wpAny_truthy_bool ?_));cases d
  ·exact hb R fz μ loc H s S trivial hF
  ·exact wpAny_pure ⟨.bool true,H,fz,μ,rfl,.refl,S,VR.bool true⟩
 |_=>exact fun R fz μ loc H s S hΓ hF=>hF.elim
theorem ynH (h:TJ G φ a (isTrue x φ.env (eval x φ.env))):TJ G φ a (allTrue op [x] φ.env):=by
 have e:allTrue op [x] φ.env=(isTrue x φ.env (eval x φ.env) >>= fun b=>pure b):=by
  rw [arm_allTrue_cons]
  congr 1; funext b
  cases op <;> cases b <;> rfl
 rw [e];exact (SJ.bind h fun b b'=>SJ.lf (op:=fun _=>some b) fun R fz μ loc H s q S g e=>by cases e; exact wpAny_pure (LQ.here S g.2)).congr fun loc H=>by
  show tst a loc H=(tst a loc H).bind _;cases tst a loc H <;> rfl
theorem ta_cons (ha:TJ G φ a (isTrue x φ.env (eval x φ.env))) (hb:TJ G φ b (allTrue .And r φ.env)) :
  TJ G φ (fun loc H=>(a loc H).bind fun v H=>(zC (zM v) H).bind fun t H=>if t then b loc H else .ok (.bool false) H) (allTrue .And (x::r) φ.env):=by
 have e:allTrue .And (x::r) φ.env=(do if ← isTrue x φ.env (eval x φ.env) then allTrue .And r φ.env else pure false):=by
  rw [arm_allTrue_cons]
  congr 1; funext t
  cases t <;> rfl
 rw [e];refine SJ.congr (SJ.bind ha fun t t'=>SJ.iteB hb (SJ.pure (a:=false) fun _ _ _=>rfl)) fun loc H=> ?_;unfold tst;simp only [zR]
 congr 1; funext v H; congr 1; funext t H
 cases t <;> rfl
theorem to_cons (ha:TJ G φ a (isTrue x φ.env (eval x φ.env))) (hb:TJ G φ b (allTrue .Or r φ.env)) :
  TJ G φ (fun loc H=>(a loc H).bind fun v H=>(zC (zM v) H).bind fun t H=>if t then .ok (.bool true) H else b loc H) (allTrue .Or (x::r) φ.env):=by
 have e:allTrue .Or (x::r) φ.env=(do if ← isTrue x φ.env (eval x φ.env) then pure true else allTrue .Or r φ.env):=by
  rw [arm_allTrue_cons]
  congr 1; funext t
  cases t <;> rfl
 rw [e];refine SJ.congr (SJ.bind ha fun t t'=>SJ.iteB (SJ.pure (a:=true) fun _ _ _=>rfl) hb) fun loc H=> ?_;unfold tst;simp only [zR]
 congr 1; funext v H; congr 1; funext t H
 cases t <;> rfl
end
noncomputable def zpJ (e:Expr):Bool:= !(e.ctorIdx==26)
noncomputable def z3 (e:Expr):Bool:=if h:e.ctorIdx=16 then Expr.Call.elim (motive_1:=fun _=>Bool) e h fun _ a _ _=> !a.isEmpty else true
theorem sub_plain (h:zpJ slice=true) (o i:Value):subscripted slice false o i=operate [o,i] (getItem o i):=by
 cases slice <;> first|cases h; done|rfl
theorem zrE (h:z3 o=true) (attr:Str) (env:Env) (w:Sem Value):attributeBase o attr env w=w:=by
 cases o with
 |Call f args kws pos =>
  cases args with
  |nil=>cases h
  |cons x r=>cases f <;> rfl
 |_=>rfl
section
variable {G:Gl} {φ:Fx} {k:Nat} {R fz fz₁:zB} {μ μ₁:Mu} {loc:Loc} {H:Hp} {s:Shared} {Γ:MP} {T:Tab} {α β γ δ:Type}
theorem ej_idx (D:Good G φ k) (hn:zpJ slice=true) (ha:EJ G φ a (eval value φ.env)) (hb:EJ G φ b (eval slice φ.env)) :
  EJ G φ (fun loc H=>(a loc H).bind fun v H=>(b loc H).bind fun w H=>zC (idxV v w H) H) (eval (.Subscript value slice pos) φ.env):=by
 intro R fz μ loc H s S hΓ hF;dsimp only at hF ⊢;refine Subscript_ (wpAny_mono (ha R fz μ loc H s S trivial hF.fst) (fun v s1 h_=> ?_) fun e s' h'=>h'.up .refl fun C H q=>by rw [q]; rfl);obtain ⟨pv,H1,fz1,μ1,e1,x1,S1,w1⟩:=h_;rw [e1] at hF ⊢;have hF1:Fine φ ((b loc H1).bind fun w H=>zC (idxV pv w H) H):=hF;refine wpAny_mono (hb R fz1 μ1 loc H1 s1 S1 trivial hF1.fst) (fun i s2 ⟨pw,H2,fz2,μ2,e2,x2,S2,w2⟩=> ?_) fun e s' h'=>h'.up x1 fun C H q=>by
  show (b loc H1).bind _=_;rw [q]; rfl
 rw [e2] at hF1;have hF2:Fine φ (zC (idxV pv pw H2) H2):=hF1;obtain ⟨r,hr⟩:=z9 hF2;refine wpNo (wpAny_mono (lf_idx (value:=value) (ops:=[v,i]) D S2 (w1.mono x2) w2 hr (sub_plain hn v i)) (fun y s3 ⟨fz3,μ3,x3,S3,w3⟩=>⟨r,H2,fz3,μ3,?_,(x1.trans x2).trans x3,S3,w3⟩) fun _ _ z=>z);show (b loc H1).bind _=_;rw [e2];show zC (idxV pv pw H2) H2=_;rw [hr]; rfl
noncomputable def optJ (G:Gl) (φ:Fx) (f:Loc→Hp→Rs PV) (o:Option Expr):Prop:=match o with
 |some e=>EJ G φ f (eval e φ.env)
 |none=>∀ loc H,f loc H= .ok .none H
theorem yoG (h:optJ G φ f o):EJ G φ f (valueOrNone (evalOpt o φ.env)):=by
 cases o with
 |some e=>exact h
 |none=>exact (SJ.pure (a:=PV.none) (b:=Value.none) fun _ _ _=>VR.none).congr h
theorem ej_slc (D:Good G φ k) (O:GOk G) {a lo hi:Loc→Hp→Rs PV} {value:Expr} {l u:Option Expr} {pos p2:Pos} (ha:EJ G φ a (eval value φ.env)) (hl:optJ G φ lo l) (hu:optJ G φ hi u) :
  EJ G φ (fun loc H=>(a loc H).bind fun v H=>(lo loc H).bind fun w H=>(hi loc H).bind fun x H=>zC (slcV v w x) H) (eval (.Subscript value (.Slice l u none p2) pos) φ.env):=by
 intro R fz μ loc H s S hΓ hF;dsimp only at hF ⊢;refine Subscript_ (wpAny_mono (ha R fz μ loc H s S trivial hF.fst) (fun v s1 h_=> ?_) fun e s' h'=>h'.up .refl fun C H q=>by rw [q]; rfl);obtain ⟨pv,H1,fz1,μ1,e1,x1,S1,w1⟩:=h_;rw [e1] at hF ⊢;have hF1:Fine φ ((lo loc H1).bind fun w H=>(hi loc H).bind fun x H=>zC (slcV pv w x) H):=hF;rw [arm_eval_Slice];refine wpAny_bind (wpAny_mono (yoG hl R fz1 μ1 loc H1 s1 S1 trivial hF1.fst) (fun i s2 ⟨pw,H2,fz2,μ2,e2,x2,S2,w2⟩=> ?_) fun e s' h'=>h'.up x1 fun C H q=>by
  show (lo loc H1).bind _=_;rw [q]; rfl)
 rw [e2] at hF1;have hF2:Fine φ ((hi loc H2).bind fun x H=>zC (slcV pv pw x) H):=hF1;have eR:((Rs.ok pv H1).bind fun v H=>(lo loc H).bind fun w H=>(hi loc H).bind fun x H=>zC (slcV v w x) H)=(hi loc H2).bind fun x H=>zC (slcV pv pw x) H:=by
  show (lo loc H1).bind _=_;rw [e2]; rfl
 rw [eR];refine wpAny_bind (wpAny_holding (wpAny_mono (yoG hu R fz2 μ2 loc H2 s2 S2 trivial hF2.fst) (fun j s3 h_=> ?_) fun e s' h'=>h'.up (x1.trans x2) fun C H q=>by rw [q]; rfl));obtain ⟨px,H3,fz3,μ3,e3,x3,S3,w3⟩:=h_;rw [e3] at hF2 ⊢;have hF3:Fine φ (zC (slcV pv pw px) H3):=hF2;obtain ⟨r,hr⟩:=z9 hF3;refine wpAny_bind (wpAny_holding (wpAny_pure ?_));refine wpNo (wpAny_mono (lf_slc (value:=value) (slice:= .Slice l u none p2) D O S3 ((w1.mono x2).mono x3) (w2.mono x3) w3 hr fun o i=>rfl) (fun sl s4 h4=> ?_) fun _ _ z=>z);refine wpNo (wpAny_mono h4 (fun y s5 ⟨fz5,μ5,x5,S5,w5⟩=>⟨r,H3,fz5,μ5,?_,((x1.trans x2).trans x3).trans x5,S5,w5⟩) fun _ _ z=>z);show zC (slcV pv pw px) H3=_;rw [hr]; rfl
theorem ej_attr (KO:KOk G T) (D:Good G φ k) (O:GOk G) {a:Loc→Hp→Rs PV} {value:Expr} {j:Nat} {pos:Pos} (hn:z3 value=true) (ha:EJ G φ a (eval value φ.env)) :
  EJ G φ (fun loc H=>(a loc H).bind fun v H=>zC (zaE v j H) H) (eval (.Attribute value (nm j) pos) φ.env):=by
 rw [arm_eval_Attribute,zrE hn];refine ha.bind fun v x=>SJ.standAt ?_;refine SJ.lf (op:=fun H=>zaE v j H) fun R fz μ loc H s q S g e=> ?_;refine wpAny_bind (wpAny_holding (wpAny_mono (lf_attr KO D O S g.2 e) (fun y s2 h_=> ?_) fun _ _ z=>z));obtain ⟨fz2,μ2,x2,S2,w2⟩:=h_;exact wpAny_bind (wpAny_letTemporaryGo (wpAny_pure ⟨fz2,μ2,x2,S2,w2⟩))
theorem xU (D:Good G φ k) (O:GOk G) (S:Sat G φ R fz μ loc H s) {x:Str} {pos:Pos} {v:Value} {Q:Value→Shared→Prop} {E:Value→Shared→Prop} (hk:φ.env.kindOf x=some .globalImplicit) (e:nsIn G.K mainGlobals x=some (some v))
  (hd:(x==("__debug__" : Str))=false) (h:Q v s):wpAny (model G.prog G.w) φ.A (eval (.Name x pos) φ.env) Q E s:=by
 refine xC (S.look D O) fun g m F B X T=> ?_;refine Name_function_global D.hk hk (loadGlobal_global (mg:=G.mg) ?_ (mg_of X T.g e) h) hd;rw [D.hgl]; exact T.g.keeps F.keep
theorem zbB (D:Good G φ k) (O:GOk G) (S:Sat G φ R fz μ loc H s) {x:Str} {pos:Pos} {v:Value} {Q:Value→Shared→Prop} {E:Value→Shared→Prop} (hk:φ.env.kindOf x=some .globalImplicit) (e:nsIn G.K mainGlobals x=some none) (hv:bootBuiltins x=some v) (hn:x≠ "__name__")
  (hd:(x==("__debug__" : Str))=false) (h:Q v s):wpAny (model G.prog G.w) φ.A (eval (.Name x pos) φ.env) Q E s:=by
 refine xC (S.look D O) fun g m F B X T=> ?_;refine Name_function_global D.hk hk (loadGlobal_builtin (mg:=G.mg) (mb:=G.mb) ?_ (mg_none_of X T.g e) ?_ ((T.builtins x hn).trans hv) h) hd
 ·rw [D.hgl]; exact T.g.keeps F.keep
 ·rw [D.hbu]; exact T.b.keeps F.keep
theorem zeI {W:MW α Value} {g:List PV→Loc→Hp→Rs α} (ha:AJ G φ f ts)
  (hkeep:∀ R fz μ loc H s,Sat G φ R fz μ loc H s→∃ k,(k=Keeper.frame∨k=Keeper.machine∨k=Keeper.boundFrame)∧Looks (model G.prog G.w) s.heap (keeperOf fn) k)
  (hc:∀ vs xs,SJ G φ (Γ.and (wVs G) vs xs) W (g vs) (call fn (first++xs))) :
  SJ G φ Γ W (fun loc H=>(f loc H).bind fun vs H=>g vs loc H) (callWith pos fn first ts []):=by
 intro R fz μ loc H s S hΓ hF;dsimp only at hF ⊢;refine callWith_of (P:=fun h=>∃ k,(k=Keeper.frame∨k=Keeper.machine∨k=Keeper.boundFrame)∧Looks (model G.prog G.w) h (keeperOf fn) k) (by rw [ha.pl]; rfl) (fun h hp=>hp) ?_;have fin:∀ (vs:List Value) s',QE (wVs G) G φ R fz μ loc (f loc H) vs s'→(∃ k,(k=Keeper.frame∨k=Keeper.machine∨k=Keeper.boundFrame)∧Looks (model G.prog G.w) s'.heap (keeperOf fn) k) ∧
   wpAny (model G.prog G.w) φ.A (call fn (first++vs) []) (QE W G φ R fz μ loc ((f loc H).bind fun vs H=>g vs loc H)) (EX G φ R fz μ ((f loc H).bind fun vs H=>g vs loc H)) s':=fun vs s' ⟨pvs,H1,fz1,μ1,e1,x1,S1,w1⟩=>by
  refine ⟨hkeep _ _ _ _ _ _ S1,?_⟩;rw [e1] at hF ⊢;exact wpAny_mono (hc pvs vs R fz1 μ1 loc H1 s' S1 ⟨Γ.mono x1 hΓ,w1⟩ hF) (fun v s'' h_=>by obtain ⟨pv',H'',fz'',μ'',e',x',S'',w'⟩:=h_; exact ⟨pv',H'',fz'',μ'',e',x1.trans x',S'',w'⟩) fun e s' h'=>h'.up x1 fun _ _ q=>q
 have exc:∀ e s',EX G φ R fz μ (f loc H) e s'→EX G φ R fz μ ((f loc H).bind fun vs H=>g vs loc H) e s':=fun e s' h'=>h'.up .refl fun C H q=>by rw [q]; rfl
 have run:=ha.sj R fz μ loc H s S trivial hF.fst;cases ts with
 |nil =>exact evalArgs_nil3 (fin [] s ⟨[],H,fz,μ,ha.nl rfl loc H,.refl,S,trivial⟩)
 |cons t r =>
  obtain ⟨b,x⟩:=t;have hb:b=false:=by have:=ha.pl; simp at this; exact this.1
  subst hb;exact evalArgs_plain (wpAny_mono run fin exc)
end
noncomputable def zG (e:Expr):Bool:= !(e.ctorIdx==22)
theorem yI (h:zG e=true):backTo pos (starEach (e::r) env)=(false,eval e env)::backTo pos (starEach r env):=by
 cases e <;> first|cases h; done|rfl
section
variable {G:Gl} {φ:Fx} {k:Nat} {R fz fz₁:zB} {μ μ₁:Mu} {loc:Loc} {H:Hp} {s:Shared} {Γ:MP} {T:Tab} {α β γ δ:Type}
theorem mj {σ:Type} {a:Loc→Hp→Rs PV} {W:MW α Value} {o:Expr} {name:Str} {apos pos:Pos} {args:List Expr} {sel:PV→Hp→Option σ} {fnOf:σ→Value} {g:σ→PV→Loc→Hp→Rs α}
  (hn:z3 o=true) (hpos:(apos.endLine==pos.line)=true) (hlen:args.length<30) (hpl:(backTo pos (starEach args φ.env)).any (·.1)=false) (ha:EJ G φ a (eval o φ.env))
  (hm:∀ R fz μ loc H s v x f,Sat G φ R fz μ loc H s→VR G fz μ v x→sel v H=some f→∀ pl (Q:Value×List Value→Shared→Prop) E,Q (fnOf f,[x]) s→wpAny (model G.prog G.w) φ.A (getMethod x name pl) Q E s)
  (hJ:∀ v x f,SJ G φ (MP.top.and (wV G) v x) W (g f v) (callWith pos (fnOf f) [x] (backTo pos (starEach args φ.env)) [])) :
  SJ G φ MP.top W (fun loc H=>(a loc H).bind fun v H=>(zC (sel v H) H).bind fun f H=>g f v loc H) (eval (.Call (.Attribute o name apos) args [] pos) φ.env):=by
 rw [arm_eval_Call,zrE hn];refine ha.bind fun v x=>SJ.standAt ?_;intro R fz μ loc H s S hΓ hF;dsimp only at hF ⊢;obtain ⟨f,hf⟩:=z9 hF.fst;rw [hf] at hF ⊢;have few:methodCallForm (args.length+([]:List Keyword).length) (backTo pos (starEach args φ.env)) (backToKw pos (keywordEach [] φ.env))=true:=by
  have h1:(backTo pos (starEach args φ.env)).all (fun x=> !x.1)=true:=by
   rw [List.all_eq_not_any_not]
   simpa using hpl
  show (_&&true&&decide (args.length+0+0<30))=true;rw [h1];exact (decide_eq_true hlen:decide (args.length<30)=true)
 unfold methodCall;rw [few];refine wpAny_bind (wpAny_holding ?_);unfold calleeOf;rw [if_pos rfl];refine hm R fz μ loc H s v x f S hΓ.2 hf _ _ _ ?_;dsimp only;refine wpAny_bind ?_;unfold methodCallPos;rw [if_pos (by simp [hpos])];refine wpAny_pure ?_;exact hJ v x f R fz μ loc H s S hΓ hF
theorem xT (h:keeperOf f=pure .machine):∀ R fz μ loc H s,Sat G φ R fz μ loc H s→∃ k,(k=Keeper.frame∨k=Keeper.machine∨k=Keeper.boundFrame)∧Looks (model G.prog G.w) s.heap (keeperOf f) k :=
 fun _ _ _ _ _ _ _=>⟨.machine,.inr (.inl rfl),Looks.of_pure h⟩
theorem zlB (D:Good G φ k) (O:GOk G) (h:keepIn G.K f=true):∀ R fz μ loc H s,Sat G φ R fz μ loc H s→∃ k,(k=Keeper.frame∨k=Keeper.machine∨k=Keeper.boundFrame)∧Looks (model G.prog G.w) s.heap (keeperOf f) k :=
 fun _ _ _ _ _ _ S=>keeps_K h _ (S.X D O)
theorem call1 {W:MW α Value} {g:PV→Loc→Hp→Rs α} (hs:zG e=true) (ha:EJ G φ a (eval e φ.env))
  (hkeep:∀ R fz μ loc H s,Sat G φ R fz μ loc H s→∃ k,(k=Keeper.frame∨k=Keeper.machine∨k=Keeper.boundFrame)∧Looks (model G.prog G.w) s.heap (keeperOf fn) k)
  (hc:∀ v x,SJ G φ (Γ.and (wV G) v x) W (g v) (call fn (first++[x]))) :
  SJ G φ Γ W (fun loc H=>(a loc H).bind fun v H=>g v loc H) (callWith pos fn first (backTo pos (starEach [e] φ.env)) []):=by
 rw [yI hs];refine SJ.congr (zeI (zdB ha zwC) hkeep (g:=fun r0=>List.casesOn (motive:=fun _=>Loc→Hp→Rs α) r0 (fun _ _=>.bad) fun v r1=>List.casesOn (motive:=fun _=>Loc→Hp→Rs α) r1 (g v) fun _ _ _ _=>.bad) fun vs xs=> ?_) fun loc H=>by simp only [zR]; rfl
 intro R fz μ loc H s S hΓ hF;cases vs with
 |nil=>exact hF.elim
 |cons v vs =>
  cases xs with
  |nil=>exact hΓ.2.elim
  |cons x xs =>
   cases vs with
   |cons _ _=>exact hF.elim
   |nil =>
    cases xs with
    |cons _ _=>exact hΓ.2.2.elim
    |nil=>exact hc v x R fz μ loc H s S ⟨hΓ.1,hΓ.2.1⟩ hF
theorem call2 {W:MW α Value} {g:PV→PV→Loc→Hp→Rs α} (hs:zG e=true) (hs2:zG e2=true) (ha:EJ G φ a (eval e φ.env)) (hb:EJ G φ b (eval e2 φ.env))
  (hkeep:∀ R fz μ loc H s,Sat G φ R fz μ loc H s→∃ k,(k=Keeper.frame∨k=Keeper.machine∨k=Keeper.boundFrame)∧Looks (model G.prog G.w) s.heap (keeperOf fn) k)
  (hc:∀ v x w y,SJ G φ ((Γ.and (wV G) v x).and (wV G) w y) W (g v w) (call fn (first++[x,y]))) :
  SJ G φ Γ W (fun loc H=>(a loc H).bind fun v H=>(b loc H).bind fun w H=>g v w loc H) (callWith pos fn first (backTo pos (starEach [e,e2] φ.env)) []):=by
 rw [yI hs,yI hs2];refine SJ.congr (zeI (zdB ha (zdB hb zwC)) hkeep (g:=fun r0=>List.casesOn (motive:=fun _=>Loc→Hp→Rs α) r0 (fun _ _=>.bad) fun v r1=>List.casesOn (motive:=fun _=>Loc→Hp→Rs α) r1 (fun _ _=>.bad) fun w r2=>List.casesOn (motive:=fun _=>Loc→Hp→Rs α) r2 (g v w) fun _ _ _ _=>.bad) fun vs xs=> ?_) fun loc H=>by simp only [zR]; rfl
 intro R fz μ loc H s S hΓ hF;cases vs with
 |nil=>exact hF.elim
 |cons v vs =>
  cases xs with
  |nil=>exact hΓ.2.elim
  |cons x xs =>
   cases vs with
   |nil=>exact hF.elim
   |cons w vs =>
    cases xs with
    |nil=>exact hΓ.2.2.elim
    |cons y xs =>
     cases vs with
     |cons _ _=>exact hF.elim
     |nil =>
      cases xs with
      |cons _ _=>exact hΓ.2.2.2.elim
      |nil=>exact hc v x w y R fz μ loc H s S ⟨⟨hΓ.1,hΓ.2.1⟩,hΓ.2.2.1⟩ hF
theorem call3 {W:MW α Value} {g:PV→PV→PV→Loc→Hp→Rs α} (hs:zG e=true) (hs2:zG e2=true) (hs3:zG e3=true) (ha:EJ G φ a (eval e φ.env)) (hb:EJ G φ b (eval e2 φ.env)) (hc3:EJ G φ c (eval e3 φ.env))
  (hkeep:∀ R fz μ loc H s,Sat G φ R fz μ loc H s→∃ k,(k=Keeper.frame∨k=Keeper.machine∨k=Keeper.boundFrame)∧Looks (model G.prog G.w) s.heap (keeperOf fn) k)
  (hc:∀ v x w y u z,SJ G φ (((Γ.and (wV G) v x).and (wV G) w y).and (wV G) u z) W (g v w u) (call fn (first++[x,y,z]))) :
  SJ G φ Γ W (fun loc H=>(a loc H).bind fun v H=>(b loc H).bind fun w H=>(c loc H).bind fun u H=>g v w u loc H) (callWith pos fn first (backTo pos (starEach [e,e2,e3] φ.env)) []):=by
 rw [yI hs,yI hs2,yI hs3];refine SJ.congr (zeI (zdB ha (zdB hb (zdB hc3 zwC))) hkeep (g:=fun r0=>List.casesOn (motive:=fun _=>Loc→Hp→Rs α) r0 (fun _ _=>.bad) fun v r1=>List.casesOn (motive:=fun _=>Loc→Hp→Rs α) r1 (fun _ _=>.bad) fun w r2=>List.casesOn (motive:=fun _=>Loc→Hp→Rs α) r2 (fun _ _=>.bad) fun u r3=>List.casesOn (motive:=fun _=>Loc→Hp→Rs α) r3 (g v w u) fun _ _ _ _=>.bad) fun vs xs=> ?_) fun loc H=>by simp only [zR]; rfl
 intro R fz μ loc H s S hΓ hF;cases vs with
 |nil=>exact hF.elim
 |cons v vs =>
  cases xs with
  |nil=>exact hΓ.2.elim
  |cons x xs =>
   cases vs with
   |nil=>exact hF.elim
   |cons w vs =>
    cases xs with
    |nil=>exact hΓ.2.2.elim
    |cons y xs =>
     cases vs with
     |nil=>exact hF.elim
     |cons u vs =>
      cases xs with
      |nil=>exact hΓ.2.2.2.elim
      |cons z xs =>
       cases vs with
       |cons _ _=>exact hF.elim
       |nil =>
        cases xs with
        |cons _ _=>exact hΓ.2.2.2.2.elim
        |nil=>exact hc v x w y u z R fz μ loc H s S ⟨⟨⟨hΓ.1,hΓ.2.1⟩,hΓ.2.2.1⟩,hΓ.2.2.2.1⟩ hF
theorem yfA {W:MW α Value} {f:Loc→Hp→Rs α} (hname:∀ R fz μ loc H s,Sat G φ R fz μ loc H s→∀ (Q:Value→Shared→Prop) E,Q fn s→wpAny (model G.prog G.w) φ.A (eval (.Name x np) φ.env) Q E s)
  (hJ:SJ G φ MP.top W f (callWith pos fn [] (backTo pos (starEach args φ.env)) [])):SJ G φ MP.top W f (eval (.Call (.Name x np) args [] pos) φ.env) :=
 fun R fz μ loc H s S hΓ hF=>wpAny_Call_ofName (hname R fz μ loc H s S _ _ (hJ R fz μ loc H s S hΓ hF))
end
noncomputable def xA (scope sc:Scope):Scope :=
 {scope with names:=scope.names.map fun (n,k)=>if (k== .free&&sc.kind== .function&&sc.names.lookup n==some .cell) then (n,.cell) else (n,k)}
noncomputable def yR (sc:Scope) (xs:List Str) (scope:Scope) (x:Str):Bool :=
 scope.kind== .function&&scope.names.lookup x==some .local&& !(xs.contains ".0")&&decide ((scope.names.map (·.1)).Nodup) &&
  scope.names.all fun p=>match p.2 with
   | .local=>p.1==x||p.1== ".0"
   | .free=>(sc.names.lookup p.1==some .cell||sc.names.lookup p.1==some .free)&&xs.contains p.1
   | .globalImplicit=>true
   |_=>false
noncomputable def yQ (env:Env):List (Str×NameKind)→List (Str×Addr)→List (Str×Addr)
 |[],acc=>acc
 |(n,k)::r,acc=>yQ env r (if k== .free then (match env.cells.lookup n with|some c=>(n,c)::acc|none=>acc) else acc)
theorem zlJ:∀ {names:List (Str×NameKind)} {acc:List (Str×Addr)} {y:Str} {c:Addr},(∀ y c,acc.lookup y=some c→env.cells.lookup y=some c)→(yQ env names acc).lookup y=some c→env.cells.lookup y=some c:=by
 intro l0
 induction l0 with
 |nil =>
  intro acc y c ha h;exact ha y c h
 |cons p_ r ih =>
  obtain ⟨n,k⟩:=p_;intro acc;intro y;intro c;intro ha;intro h;refine ih (fun y c hy=> ?_) h
  split at hy
  ·split at hy
   ·rename_i c' hc
    rw [List.lookup_cons] at hy
    split at hy
    ·rename_i e
     cases hy;rw [beq_iff_eq.mp e]; exact hc
    ·exact ha y c hy
   ·exact ha y c hy
  ·exact ha y c hy
theorem zoE (hc:env.cells.lookup y=some c):∀ {names:List (Str×NameKind)} {acc:List (Str×Addr)},(acc.lookup y).isSome=true∨(y,.free)∈names→((yQ env names acc).lookup y).isSome=true:=by
 intro l0
 induction l0 with
 |nil =>
  intro acc h;exact h.elim id fun h=>by cases h
 |cons p_ r ih =>
  obtain ⟨n,k⟩:=p_;intro acc;intro h;show ((yQ env r _).lookup y).isSome=true;refine ih ?_
  by_cases hk:k= .free
  ·subst hk
   rw [if_pos (by rfl)]
   by_cases e:y=n
   ·subst e
    rw [hc];exact .inl (by rw [List.lookup_cons]; simp)
   ·rcases h with h|h
    ·refine .inl ?_
     split
     ·rw [List.lookup_cons]
      have:(y==n)=false:=beq_eq_false_iff_ne.mpr e;simp only [this]; exact h
     ·exact h
    ·rcases mN h with z|z
     ·cases z; exact absurd rfl e
     ·exact .inr z
  ·have:(k==NameKind.free)=false:=beq_eq_false_iff_ne.mpr hk
   rw [this,if_neg (by simp)]
   rcases h with h|h
   ·exact .inl h
   ·rcases mN h with z|z
    ·cases z; exact absurd rfl hk
    ·exact .inr z
theorem ylB (h:∀ p∈scope.names,p.2= .free→(env.cells.lookup p.1).isSome=true):closureFor scope env=pure (yQ env scope.names []):=by
 have gen:∀ (names:List (Str×NameKind)) (acc:List (Str×Addr)),(∀ p∈names,p.2= .free→(env.cells.lookup p.1).isSome=true) →
   (forIn names acc fun (x:Str×NameKind) (cs:List (Str×Addr))=>(if (x.2== .free)=true then (do let c ← cellOf env x.1; pure (ForInStep.yield ((x.1,c)::cs))) else pure (ForInStep.yield cs):Sem (ForInStep (List (Str×Addr)))))=pure (yQ env names acc):=by
  intro names
  induction names with
  |nil=>intro acc _; rfl
  |cons p r ih =>
   intro acc hp;obtain ⟨n,k⟩:=p;rw [List.forIn_cons]
   by_cases hk:k= .free
   ·subst hk
    obtain ⟨c,hc⟩:=Option.isSome_iff_exists.mp (hp _ mQ rfl);have e1:cellOf env n=pure c:=by
     have hc':env.cells.lookup n=some c:=hc;unfold cellOf; rw [hc']
    have e0:(((n,NameKind.free):Str×NameKind).2==NameKind.free)=true:=rfl;rw [if_pos e0];simp only [e1,pure_bind];rw [ih _ fun p h=>hp p (mC _ h)]
    congr 1
    show _=yQ env r _;have hc':env.cells.lookup n=some c:=hc;have e3:(NameKind.free==NameKind.free)=true:=rfl;rw [if_pos e3,hc']
   ·have:(k==NameKind.free)=false:=beq_eq_false_iff_ne.mpr hk
    simp only [this,Bool.false_eq_true,if_false,pure_bind];rw [ih _ fun p h=>hp p (mC _ h)]
    congr 1
    show _=yQ env r _;rw [this,if_neg (by simp)]
 have:=gen scope.names [] h;unfold closureFor;exact (congrArg (· >>= fun cs=>pure cs) this).trans (by rfl)
section
variable {G:Gl} {φ:Fx} {k:Nat} {R Rr fz fz₁:zB} {μ μ₁:Mu} {loc:Loc} {H:Hp} {s:Shared} {Γ:MP} {T:Tab} {α β γ δ:Type} {C:Addr} {oC:Obj} {vm m:Str→Option Value} {φ':Fx} {h':Heap}
theorem Sat.perm (S:Sat G φ R fz μ loc H s) (h1:∀ p∈R',p∈R) (h2:∀ p∈φ.rc,p∈R'):Sat G φ R' fz μ loc H s:=by
 obtain ⟨sm,m,vm,ce,B,L⟩:=S;refine ⟨sm,m,vm,ce,B.sub fun p hp=> ?_,fun p hp q hq=>L.sepR p hp q (h1 q hq),h2,L.cs,L.at_⟩
 rcases mP hp with hp|hp
 ·exact mL _ hp
 ·exact mR _ (h1 p hp)
theorem ItOk.self (D:Good G φ k) {I:Addr} {i:Nat} {items:List PV} {o:Obj} (x:ItOk G φ fz μ I i items o) (S:Sat G φ R fz μ loc H s) (hI:s.heap.get? I=some o) {Q:Value→Shared→Prop} {E:Value→Shared→Prop} (h:Q (.ref I) s) :
  wpAny (model G.prog G.w) φ.A (pyIter (.ref I)) Q E s:=by
 obtain ⟨n,fp,P,St,W,rfl,h1,h2,h3,h4⟩:=x;exact W.self i s Q E (h4 _ hI fun b ob hb=>S.P D hb) h
structure yP (G:Gl) (φ φ':Fx) (k:Nat) (scope:Scope):Prop where
 D:Good G φ' k
 sc:φ'.env.scope=xA scope φ.env.scope
 xs:φ'.xs=φ.xs
 comp:φ'.comp≠none
 A:φ'.A=φ.A
theorem relabel_lookup:(xA scope sc).names.lookup y=(scope.names.lookup y).map fun k=>if (k== .free&&sc.kind== .function&&sc.names.lookup y==some .cell) then .cell else k:=by
 unfold xA;dsimp only;generalize scope.names=l
 induction l with
 |nil=>rfl
 |cons p r ih =>
  obtain ⟨n,k⟩:=p;rw [List.map_cons]
  by_cases e:y=n
  ·subst e
   by_cases hc:(k==NameKind.free&&sc.kind== .function&&sc.names.lookup y==some .cell)=true
   ·simp only [hc,if_true,List.lookup_cons,beq_self_eq_true,Option.map_some]
   ·simp only [hc,Bool.false_eq_true,if_false,List.lookup_cons,beq_self_eq_true,Option.map_some]
  ·have:(y==n)=false:=beq_eq_false_iff_ne.mpr e
   by_cases hc:(k==NameKind.free&&sc.kind== .function&&sc.names.lookup n==some .cell)=true
   ·simp only [hc,if_true,List.lookup_cons,this]; exact ih
   ·simp only [hc,Bool.false_eq_true,if_false,List.lookup_cons,this]; exact ih
theorem y0 (h:yR sc xs scope x=true):scope.kind= .function∧scope.names.lookup x=some .local∧(".0" : Str)∉xs∧(scope.names.map (·.1)).Nodup ∧
  ∀ p∈scope.names,(p.2= .local∧(p.1=x∨p.1= ".0"))∨(p.2= .free∧(sc.names.lookup p.1=some .cell∨sc.names.lookup p.1=some .free)∧p.1∈xs)∨p.2= .globalImplicit:=by
 unfold yR at h;simp only [Bool.and_eq_true,beq_iff_eq,List.all_eq_true,Bool.not_eq_true',decide_eq_true_eq] at h;obtain ⟨⟨⟨⟨h1,h2⟩,h3⟩,h4⟩,h5⟩:=h;refine ⟨h1,h2,by simpa using h3,h4,fun p hp=> ?_⟩;have:=h5 p hp
 split at this
 ·rename_i e
  simp only [Bool.or_eq_true,beq_iff_eq] at this;exact .inl ⟨e,this⟩
 ·rename_i e
  simp only [Bool.and_eq_true,Bool.or_eq_true,beq_iff_eq] at this;exact .inr (.inl ⟨e,this.1,by simpa using this.2⟩)
 ·rename_i e; exact .inr (.inr e)
 ·cases this
theorem wD {l:List (Str×NameKind)} {y:Str} {k:NameKind} (h:l.lookup y=some k):(y,k)∈l:=by
 induction l with
 |nil=>cases h
 |cons p r ih =>
  obtain ⟨n,k'⟩:=p;rw [List.lookup_cons] at h
  split at h
  ·rename_i e
   cases h;rw [beq_iff_eq.mp e]; exact mQ
  ·exact mC _ (ih h)
theorem zkF {l:List (Str×NameKind)} {y:Str} {k:NameKind} (hn:(l.map (·.1)).Nodup) (h:(y,k)∈l):l.lookup y=some k:=by
 induction l with
 |nil=>cases h
 |cons p r ih =>
  obtain ⟨n,k'⟩:=p;rw [List.map_cons,List.nodup_cons] at hn;rw [List.lookup_cons]
  rcases mN h with e|e
  ·cases e; simp
  ·have:y≠n:=fun z=>hn.1 (z▸List.mem_map_of_mem (f:=(·.1)) e)
   have:(y==n)=false:=beq_eq_false_iff_ne.mpr this;simp only [this];exact ih hn.2 e
noncomputable def inFx (φ:Fx) (scope:Scope) (C:Addr) (vm0:Str→Option Value) (ce:zB):Fx:={φ with env:=compEnvC scope (yQ φ.env scope.names []) C φ.env,comp:=some C,pin:=some vm0,rc:=ce++φ.rc}
variable {scope:Scope} {x y:Str} {vm0:Str→Option Value} {ce:zB}
theorem zqH (h:(inFx φ scope C vm0 ce).env.cells.lookup y=some c):φ.env.cells.lookup y=some c:=zlJ (names:=scope.names) (acc:=[]) (fun y c h=>nomatch h) h
theorem in_kind:(inFx φ scope C vm0 ce).env.kindOf y=(scope.names.lookup y).map fun k=>if (k== .free&&φ.env.scope.kind== .function&&φ.env.scope.names.lookup y==some .cell) then .cell else k:=relabel_lookup
theorem in_good (D:Good G φ k) (k1:scope.kind= .function):yP G φ (inFx φ scope C vm0 ce) k scope where
 D:={
  B:=D.B
  D:=D.D
  hA:=D.hA
  hf:=D.hf
  hf':=D.hf'
  hke:=D.hke
  hk:=k1
  hgl:=D.hgl
  hbu:=D.hbu
  hh:=D.hh
  hgu:=D.hgu
  hde:=D.hde
  hun:=D.hun
  hen:=nofun
  hloc:=nofun
  hcl:=fun C' h=>by cases h; rfl
  nd:=D.nd
  cinj:=fun a b c h1 h2=>D.cinj a b c (zqH h1) (zqH h2)}
 sc:=rfl
 xs:=rfl
 comp:=fun h=>nomatch h
 A:=rfl
theorem ycH (hok:yR φ.env.scope φ.xs scope x=true) {kk:NameKind} (h:(inFx φ scope C vm0 ce).env.kindOf y=some kk):(kk= .local∧(y=x∨y= ".0"))∨((y,NameKind.free)∈scope.names∧(φ.env.kindOf y=some .cell∨φ.env.kindOf y=some .free)∧kk≠ .local)∨kk= .globalImplicit:=by
 rw [in_kind] at h;refine oEA (Option.map_eq_some_iff.mp h) fun k0 q e=> ?_;have hm:=wD q
 rcases (y0 hok).2.2.2.2 _ hm with ⟨rfl,w⟩|⟨rfl,w,_⟩|rfl
 ·exact .inl ⟨e.symm,w⟩
 ·refine .inr (.inl ⟨hm,w,fun z=> ?_⟩)
  rw [z] at e
  split at e <;> cases e
 ·exact .inr (.inr e.symm)
theorem in_free (hok:yR φ.env.scope φ.xs scope x=true) (h:(inFx φ scope C vm0 ce).env.kindOf y=some .cell∨(inFx φ scope C vm0 ce).env.kindOf y=some .free):(y,NameKind.free)∈scope.names∧(φ.env.kindOf y=some .cell∨φ.env.kindOf y=some .free):=by
 rcases h with h|h <;> rcases ycH hok h with ⟨e,_⟩|⟨a,b,_⟩|e
 ·cases e
 ·exact ⟨a,b⟩
 ·cases e
 ·cases e
 ·exact ⟨a,b⟩
 ·cases e
theorem in_local (hok:yR φ.env.scope φ.xs scope x=true) (hy:y∈φ.xs) (h:(inFx φ scope C vm0 ce).env.kindOf y=some .local):y=x:=by
 rcases ycH hok h with ⟨_,e|e⟩|⟨_,_,e⟩|e
 ·exact e
 ·exact absurd (e▸hy) (y0 hok).2.2.1
 ·exact absurd rfl e
 ·cases e
theorem in_slot (D:Good G φ k) {i j:Nat} {v:PV} {val:Value} (hx:φ.xs[i]? =some x) (hok:yR φ.env.scope φ.xs scope x=true) (L:zgC G φ ((C,oC)::Rr) vm0 vm0 ce fz μ loc) (hvm:vm x=some val) (hv:VR G fz μ v val) (hy:φ.xs[j]? =some y) :
  ysA G (inFx φ scope C vm0 ce) vm [(C,oC)] fz μ y (zF loc i (some v))[j]? :=by
 refine ⟨fun hl w hw=> ?_,fun hl=> ?_⟩
 ·obtain rfl:=in_local hok (List.mem_of_getElem? hy) hl
  obtain rfl:=zqB D.nd hx hy;obtain rfl:=Option.some.inj (xP hw);exact ⟨val,hvm,hv⟩
 ·obtain ⟨hm,ho⟩:=in_free hok hl
  refine z0 ((L.at_ j y hy).2 ho) fun c o ov q1 q2 q3 q4=> ?_;obtain ⟨c',hc'⟩:=Option.isSome_iff_exists.mp (zoE (env:=φ.env) q1 (names:=scope.names) (acc:=[]) (.inr hm));have e:=zqH (φ:=φ) (scope:=scope) (C:=C) (vm0:=vm0) (ce:=ce) hc';rw [q1] at e;obtain rfl:c=c':=Option.some.inj e;refine ⟨c,o,ov,hc',.inr ⟨.inr (fun h=>nomatch h),q2.elim (mL _) fun q2=>mR _ q2.2⟩,q3,fun w hw=>q4 w ?_⟩;rw [yK fun e=> ?_] at hw
  ·exact hw
  ·subst e
   obtain rfl:x=y:=Option.some.inj (hx.symm.trans hy);refine zxH (y0 hok) fun _ k2 _ k4 _=> ?_;have kx:=zkF k4 hm;rw [k2] at kx; cases kx
theorem Base.env (h:Base G φ' m R fz μ H h') (e1:φ'.fs=φ.fs) (e2:φ'.h₀=φ.h₀) (e3:φ'.L=φ.L):Base G φ m R fz μ H h':=by
 obtain ⟨g,mu,tb,h1,h2,h3,h4⟩:=h;exact ⟨g,mu,tb,e1▸e2▸h1,e3▸h2,e3▸h3,h4⟩
theorem in_out (L:zgC G φ ((C,oC)::Rr) vm0 vm0 ce fz μ loc) (hO:Out φ Rr C) (ex:Ext fz μ fz₁ μ₁) (S':Sat G (inFx φ scope C vm0 ce) (ce++Rr) fz₁ μ₁ loc' H' s'):∃ oC' vm',LCg.NsObj oC' vm'∧Sat G φ ((C,oC')::Rr) fz₁ μ₁ loc H' s':=by
 obtain ⟨sm',m',vm',ce',B',L'⟩:=S';refine oAEA (L'.cs.2 C rfl) fun hpin oC' hmem hns'=> ?_;obtain rfl:vm0=m':=Option.some.inj hpin;refine ⟨oC',vm',hns',sm',vm0,vm0,ce,(B'.env (φ:=φ) rfl rfl rfl).sub fun p hp=> ?_,fun p hp q hq=> ?_,fun p hp=>mC _ (hO.2 p hp),L.cs,(L.ext ex).at_⟩
 ·simp only [List.mem_append,List.mem_cons] at hp ⊢
  rcases hp with hp|rfl|hp
  ·exact .inr (.inl hp)
  ·exact .inl hmem
  ·exact .inr (.inr hp)
 ·rcases mN hq with rfl|hq
  ·exact L.sepR p hp (C,oC) mQ
  ·exact L.sepR p hp q (mC _ hq)
theorem in_base (B:Base G φ vm0 (ce++(C,oC)::Rr) fz μ H h):Base G (inFx φ scope C vm0 ce) vm0 ([(C,oC)]++(ce++Rr)) fz μ H h :=
 Base.env (φ':=φ) (B.sub fun p hp=>by
  simp only [List.mem_append,List.mem_cons,List.not_mem_nil,or_false] at hp ⊢
  rcases hp with hp|hp|hp
  ·exact .inr (.inl hp)
  ·exact .inl hp
  ·exact .inr (.inr hp)) rfl rfl rfl
theorem comp_in (D:Good G φ k) (hc:φ.comp=none) {i:Nat} {v:PV} {val:Value} (hx:φ.xs[i]? =some x) (hok:yR φ.env.scope φ.xs scope x=true)
  (S:Sat G φ ((C,oC)::Rr) fz μ loc H s) (hO:Out φ Rr C) (hns:LCg.NsObj oC vm) (hvm:vm x=some val) (hv:VR G fz μ v val) :
  ∃ φ' Rc,yP G φ φ' k scope∧φ'.env=compEnvC scope (yQ φ.env scope.names []) C φ.env∧Sat G φ' Rc fz μ (zF loc i (some v)) H s ∧
   ∀ fz' μ' H' s',Ext fz μ fz' μ'→Sat G φ' Rc fz' μ' (zF loc i (some v)) H' s'→∃ oC' vm',LCg.NsObj oC' vm'∧Sat G φ ((C,oC')::Rr) fz' μ' loc H' s':=by
 obtain ⟨sm,m,vm0,ce,B,L⟩:=S;obtain rfl:=L.cs.1 hc;refine ⟨inFx φ scope C vm0 ce,ce++Rr,in_good D (y0 hok).1,rfl,⟨sm,vm0,vm,[(C,oC)],in_base B,fun p hp q hq=> ?_,fun p hp=> ?_,⟨(fun h=>nomatch h),(fun C' h=>by cases h; exact ⟨rfl,oC,mQ,hns⟩)⟩,fun j y hy=>in_slot D hx hok L hvm hv hy⟩,fun fz' μ' H' s' ex S'=>in_out L hO ex S'⟩
 ·rw [List.mem_singleton] at hp; subst hp
  rcases mP hq with hq|hq
  ·exact Ne.symm (L.sepR q hq (C,oC) mQ)
  ·exact hO.1 q hq
 ·rcases mP hp with hp|hp
  ·exact mL _ hp
  ·exact mR _ (hO.2 p hp)
end
section
variable {G:Gl} {φ φ':Fx} {k:Nat} {R Rr Rc fz fz₁:zB} {μ μ₁:Mu} {loc:Loc} {H:Hp} {s:Shared} {Γ:MP} {T:Tab} {α β γ δ:Type} {C:Addr} {oC:Obj} {vm:Str→Option Value}
theorem ycE (h:VR G fz μ v x) (e:yS v=some items):items.length≤SZ :=
 (ycF (M:=fun v items=>∀ x,VR G fz μ v x→items.length≤SZ) (fun vs x h=>VR.lst_el h fun _ _ _ _ z q=>by rw [zE q]; exact z) (fun l x h=>VR.bytes_el h fun b t e z=>by rw [List.length_map,← e,List.length_map]; exact z)
  (fun a b c hc _ _=>hc.2.2) (fun ks vs x h=>VR.dicI_el h fun kvs a o _ z _ e _=>by rw [e,List.length_map,List.length_map]; exact z.2) (fun ks vs x h=>VR.dicS_el h fun kvs a o _ z _ e _=>by rw [e,List.length_map,List.length_map]; exact z.2.1) v).get e x h
noncomputable abbrev ifsF (env:Env):Expr→Bool→Sem (ForInStep Bool):=fun c r=>if r=true then do let ok ← isTrue c env (eval c env); pure (ForInStep.yield ok) else pure (ForInStep.yield r)
inductive IfJ (G:Gl) (φ:Fx) (k:Nat) (scope:Scope) (fcond:Loc→Hp→Rs PV):Bool→List Expr→Prop
 |no:IfJ G φ k scope fcond false []
 |yes {c:Expr}:(∀ φ',yP G φ φ' k scope→TJ G φ' fcond (isTrue c φ'.env (eval c φ'.env)))→IfJ G φ k scope fcond true [c]
noncomputable def ifB (fcond:Loc→Hp→Rs PV) (isIf:Bool) (loc:Loc) (H:Hp):Rs Bool:=if isIf then tst fcond loc H else .ok true H
theorem EX.comp {r:Rs α} (hc:φ.comp≠none) (h:EX G φ R fz μ r e s):False:=hc h.1
theorem Fine.comp {r:Rs α} (hc:φ.comp≠none) (h:Fine φ r):∃ a H,r= .ok a H:=by
 cases r with
 |ok a H=>exact ⟨a,H,rfl⟩
 |exc C H=>exact absurd h hc
 |bad=>exact h.elim
theorem if_turn {scope:Scope} {fcond:Loc→Hp→Rs PV} {isIf:Bool} {ifs:List Expr} (J:IfJ G φ k scope fcond isIf ifs) (IC:yP G φ φ' k scope) (S:Sat G φ' Rc fz μ loc H s) {b:Bool} {H':Hp} (e:ifB fcond isIf loc H= .ok b H') {E:Value→Shared→Prop} :
  wpAny (model G.prog G.w) φ.A (forIn ifs true (ifsF φ'.env)) (fun ok s'=>ok=b∧∃ fz' μ',Ext fz μ fz' μ'∧Sat G φ' Rc fz' μ' loc H' s') E s:=by
 cases J with
 |no =>
  cases e;rw [List.forIn_nil];exact wpAny_pure ⟨rfl,fz,μ,.refl,S⟩
 |yes h =>
  have e':tst fcond loc H= .ok b H':=e;rw [List.forIn_cons];refine wpAny_bind ?_;show wpAny (model G.prog G.w) φ.A (isTrue _ φ'.env (eval _ φ'.env) >>= fun ok=>pure (ForInStep.yield ok)) _ _ s;have hF:Fine φ' (tst fcond loc H):=by rw [e']; trivial
  rw [← IC.A];refine wpAny_bind (wpAny_mono (h φ' IC Rc fz μ loc H s S trivial hF) (fun ok s1 ⟨pv,H1,fz1,μ1,e1,x1,S1,w1⟩=> ?_) fun e s' hx=>(hx.comp IC.comp).elim);refine wpAny_pure ?_;show wpAny (model G.prog G.w) φ'.A (forIn [] ok (ifsF φ'.env)) _ _ s1;rw [List.forIn_nil];rw [e'] at e1; cases e1;have w:b=ok:=w1;subst w;exact wpAny_pure ⟨rfl,fz1,μ1,x1,S1⟩
noncomputable def lcB (fcond felt:Loc→Hp→Rs PV) (isIf:Bool) (loc:Loc) (H:Hp):Rs (Option PV):=(ifB fcond isIf loc H).bind fun b H=>if b then (felt loc H).bind fun v H=>.ok (some v) H else .ok none H
theorem compLoop_cons {f:PV→Hp→Rs (Option α)} {r:List α} (h:compLoop f (v::vs) H= .ok r H2):∃ x H1 r',f v H= .ok x H1∧compLoop f vs H1= .ok r' H2∧r=match x with|some x=>x::r' | none=>r':=by
 replace h:((f v H).bind fun r H=>(compLoop f vs H).bind fun rs H=>Rs.ok (match r with|some x=>x::rs|none=>rs) H)= .ok r H2:=h
 cases q:f v H with
 |ok x H1 =>
  rw [q] at h;have h':(compLoop f vs H1).bind _=_:=h;cases q2:compLoop f vs H1 with
  |ok r' H3 =>
   rw [q2] at h';cases h';exact ⟨x,H1,r',rfl,q2,rfl⟩
  |exc C H=>rw [q2] at h'; cases h'
  |bad=>rw [q2] at h'; cases h'
 |exc C H=>rw [q] at h; cases h
 |bad=>rw [q] at h; cases h
noncomputable abbrev zrG (I:Addr) (oI:Obj) (D:Addr) (oD:Obj) (C:Addr) (oC:Obj) (R:zB):zB:=(I,oI)::(D,oD)::(C,oC)::R
theorem comp_turn (D:Good G φ k) (hc:φ.comp=none) {scope:Scope} {x:Str} {px:Pos} {i:Nat} {v:PV} {val:Value} {fcond:Loc→Hp→Rs PV} {isIf:Bool} {ifs:List Expr} {Ds I:Addr} {oD oI:Obj} {β:Type}
  {fe:Loc→Hp→Rs β} {W:MW β δ} {Goal:Env→(δ→Shared→Prop)→Shared→Prop} {K:Option δ→Shared→Prop}
  (hx:φ.xs[i]? =some x) (hok:yR φ.env.scope φ.xs scope x=true) (J:IfJ G φ k scope fcond isIf ifs) (hE:∀ φ' Rc fz μ loc H s,yP G φ φ' k scope→Sat G φ' Rc fz μ loc H s→Fine φ' (fe loc H)→∀ K':δ→Shared→Prop,(∀ y s',QE W G φ' Rc fz μ loc (fe loc H) y s'→K' y s')→Goal φ'.env K' s)
  (S:Sat G φ (zrG I oI Ds oD C oC R) fz μ loc H s) (hO:Out φ ((I,oI)::(Ds,oD)::R) C) (hrc:∀ p∈φ.rc,p∈R) (hns:LCg.NsObj oC vm) (hv:VR G fz μ v val) {r:Option β} {H':Hp}
  (e:((ifB fcond isIf (zF loc i (some v)) H).bind fun b H=>if b then (fe (zF loc i (some v)) H).bind fun v H=>.ok (some v) H else .ok none H)= .ok r H')
  (hK0:r=none→∀ fz' μ' oC' vm' s',Ext fz μ fz' μ'→LCg.NsObj oC' vm'→Sat G φ (zrG I oI Ds oD C oC' R) fz' μ' loc H' s'→K none s')
  (hK1:∀ pv y fz' μ' oC' vm' s',r=some pv→Ext fz μ fz' μ'→LCg.NsObj oC' vm'→Sat G φ (zrG I oI Ds oD C oC' R) fz' μ' loc H' s'→W.r fz' μ' pv y→K (some y) s') {E:Value→Shared→Prop} :
  wpAny (model G.prog G.w) φ.A (assign (.Name x px) (compEnvC scope (yQ φ.env scope.names []) C φ.env) val) (fun _ s₂ =>
   wpAny (model G.prog G.w) φ.A (forIn ifs true (ifsF (compEnvC scope (yQ φ.env scope.names []) C φ.env))) (fun ok s₃ =>
    if ok=true then Goal (compEnvC scope (yQ φ.env scope.names []) C φ.env) (fun y s₄=>K (some y) s₄) s₃ else K none s₃) E s₂) E s:=by
 have S1:Sat G φ ((C,oC)::(I,oI)::(Ds,oD)::R) fz μ loc H s:=S.perm (fun p hp=>by
  simp only [List.mem_cons] at hp ⊢
  rcases hp with h|h|h|h
  ·exact .inr (.inr (.inl h))
  ·exact .inl h
  ·exact .inr (.inl h)
  ·exact .inr (.inr (.inr h))) fun p hp=>mC _ (mC _ (mC _ (hrc p hp)))
 have hnsC:s.heap.Ns C vm:=hns.ns (S1.rMem mQ);refine oAA (y0 hok) fun k1 k2 _=> ?_;refine wpAny_assign_Name (wpAny_storeName_local (m:=vm) ?_ hnsC (fun h' hn hs=> ?_) ?_)
 ·exact lookup_relabel_local k2
 ·refine oEA (LCg.ns_obj hn) fun oC1 hoC1 hns1=> ?_
  have S2:Sat G φ ((C,oC1)::(I,oI)::(Ds,oD)::R) fz μ loc H {s with heap:=h',toks:=s.toks+1}:=S1.hidGrow (fun b ob hb e=>(hs.2 b hb).trans e) hoC1 hO;refine xC (comp_in D hc hx hok S2 hO hns1 (by simp) hv) fun φ' Rc IC he S3 out=> ?_;rw [← he];cases q:ifB fcond isIf (zF loc i (some v)) H with
  |exc C H=>rw [q] at e; cases e
  |bad=>rw [q] at e; cases e
  |ok b H1 =>
   rw [q] at e;have e':(if b then (fe (zF loc i (some v)) H1).bind fun v H=>.ok (some v) H else .ok none H1)=Rs.ok r H':=e;refine wpAny_mono (if_turn J IC S3 q) (fun ok s1 ⟨hb,fz1,μ1,x1,S4⟩=> ?_) fun _ _ z=>z;subst hb;have back:∀ {fz2 μ2 H2 s2},Ext fz μ fz2 μ2→Sat G φ' Rc fz2 μ2 (zF loc i (some v)) H2 s2→∃ oC' vm',LCg.NsObj oC' vm'∧Sat G φ (zrG I oI Ds oD C oC' R) fz2 μ2 loc H2 s2:=fun {fz2 μ2 H2 s2} x2 S5=>by
    refine oEEA (out fz2 μ2 H2 s2 x2 S5) fun oC' vm' n' S6=> ?_;refine ⟨oC',vm',n',S6.perm (fun p hp=> ?_) fun p hp=>mC _ (mC _ (mC _ (hrc p hp)))⟩;simp only [List.mem_cons] at hp ⊢
    rcases hp with h|h|h|h
    ·exact .inr (.inl h)
    ·exact .inr (.inr (.inl h))
    ·exact .inl h
    ·exact .inr (.inr (.inr h))
   cases ok
   ·simp only [Bool.false_eq_true,if_false] at e' ⊢
    cases e';refine oEEA (back x1 S4) fun oC' vm' n' S6=> ?_;exact hK0 rfl _ _ _ _ _ x1 n' S6
   ·simp only [if_true] at e' ⊢
    have hF:Fine φ' (fe (zF loc i (some v)) H1):=by
     cases q2:fe (zF loc i (some v)) H1 with
     |ok a H=>trivial
     |exc C H=>rw [q2] at e'; cases e'
     |bad=>rw [q2] at e'; cases e'
    refine hE φ' Rc fz1 μ1 _ H1 s1 IC S4 hF _ fun y s2 ⟨pv,H2,fz2,μ2,e2,x2,S5,w2⟩=> ?_;rw [e2] at e';cases e';refine oEEA (back (x1.trans x2) S5) fun oC' vm' n' S6=> ?_;exact hK1 pv y fz2 μ2 oC' vm' s2 rfl (x1.trans x2) n' S6 w2
 ·simp [compEnvC,relabel,k1]
end
section
variable {G:Gl} {φ φ':Fx} {k:Nat} {R Rr Rc fz fz₁:zB} {μ μ₁:Mu} {loc:Loc} {H:Hp} {s:Shared} {Γ:MP} {T:Tab} {α β γ δ:Type} {C:Addr} {oC:Obj} {vm:Str→Option Value}
noncomputable def y8 {β:Type} (fcond:Loc→Hp→Rs PV) (felt:Loc→Hp→Rs β) (isIf:Bool) (i:Nat) (loc:Loc) (x:PV) (H:Hp):Rs (Option β) :=
 (ifB fcond isIf (zF loc i (some x)) H).bind fun b H=>if b then (felt (zF loc i (some x)) H).bind fun v H=>.ok (some v) H else .ok none H
theorem zoD (D:Good G φ k) (hc:φ.comp=none) (hok:yR φ.env.scope φ.xs scope x=true) (S:Sat G φ R fz μ loc H s):closureFor scope φ.env=pure (yQ φ.env scope.names []):=by
 refine zxH (y0 hok) fun k1 k2 k3 k4 k5=> ?_;obtain ⟨sm,m,vm,ce,B,L⟩:=S;refine ylB fun p hp hf=> ?_
 rcases k5 p hp with ⟨z,_⟩|⟨_,z,hm⟩|z
 ·rw [hf] at z; cases z
 ·obtain ⟨j,hj⟩:=List.getElem?_of_mem hm
  refine wQ ((L.at_ j p.1 hj).2 z) fun c o ov q1 _=> ?_;rw [q1]; rfl
 ·rw [hf] at z; cases z
theorem Out.cons (h:Out φ R c) (hp:p.1≠c):Out φ (p::R) c :=
 ⟨fun q hq=>(mN hq).elim (fun e=>e▸hp) (h.1 q),fun q hq=>mC _ (h.2 q hq)⟩
theorem mem3:(p∈a::b::c::R↔p=a∨p=b∨p=c∨p∈R):=by simp [List.mem_cons]
theorem yoF (h:∀ p∈φ.rc,p∈R) (S:Sat G φ (a::b::R) fz μ loc H s):Sat G φ (b::a::R) fz μ loc H s :=
 S.perm (fun p hp=>by
  simp only [List.mem_cons] at hp ⊢
  rcases hp with h|h|h
  ·exact .inr (.inl h)
  ·exact .inl h
  ·exact .inr (.inr h)) fun p hp=>mC _ (mC _ (h p hp))
theorem yhG (h:∀ p∈φ.rc,p∈R) (S:Sat G φ (a::b::c::R) fz μ loc H s):Sat G φ (b::a::c::R) fz μ loc H s :=
 yoF (fun p hp=>mC _ (h p hp)) S
theorem perm321 (h:∀ p∈φ.rc,p∈R) (S:Sat G φ (a::b::c::R) fz μ loc H s):Sat G φ (c::b::a::R) fz μ loc H s :=
 S.perm (fun p hp=>by
  rw [mem3] at hp ⊢
  rcases hp with h|h|h|h
  ·exact .inr (.inr (.inl h))
  ·exact .inr (.inl h)
  ·exact .inl h
  ·exact .inr (.inr (.inr h))) fun p hp=>mC _ (mC _ (mC _ (h p hp)))
theorem Sat.tail3 (h:∀ p∈φ.rc,p∈R) (S:Sat G φ (a::b::c::R) fz μ loc H s):Sat G φ R fz μ loc H s :=
 S.perm (fun p hp=>mC _ (mC _ (mC _ hp))) h
structure LcS (G:Gl) (φ:Fx) (k:Nat) (R:zB) (I Ds C:Addr) (items:List PV):Prop where
 D:Good G φ k
 hc:φ.comp=none
 oI:Out φ R I
 oD:Out φ R Ds
 oC:Out φ R C
 nID:I≠Ds
 nDC:Ds≠C
 nIC:I≠C
 z:items.length≤SZ
inductive zgD (G:Gl) (φ:Fx) (R fz:zB) (μ:Mu) (loc:Loc) (I Ds C:Addr) (items:List PV) {β:Type} (f:PV→Hp→Rs (Option β)) (vs:List β) (H2:Hp) (A:zB→Mu→List β→Obj→Prop):Nat→Shared→Prop
 |mk {j:Nat} {pvs rest:List β} {oD oI oC:Obj} {vm:Str→Option Value} {fz':zB} {μ':Mu} {H':Hp} {s:Shared}:compLoop f (items.drop j) H'= .ok rest H2→pvs++rest=vs→j≤items.length→Ext fz μ fz' μ' →
   Sat G φ (zrG I oI Ds oD C oC R) fz' μ' loc H' s→ItOk G φ fz' μ' I j items oI→LCg.NsObj oC vm→A fz' μ' pvs oD→pvs.length≤j→zgD G φ R fz μ loc I Ds C items f vs H2 A (items.length+1-j) s
theorem ycB (D:Good G φ k) (hc:φ.comp=none) (S2:Sat G φ ((I,oI)::R) fz μ loc H s) (hRI:Out φ R I) (z:items.length≤SZ) (hf:o.isFreed=false)
  (hn:h3.Ns (s.heap.push o).objs.size vm) (hs:∀ b,b≠(s.heap.push o).objs.size→h3.get? b=((s.heap.push o).push oF).get? b) :
  ∃ oC,LCg.NsObj oC vm∧LcS G φ k R I s.heap.objs.size (s.heap.push o).objs.size items∧Sat G φ (zrG I oI s.heap.objs.size o (s.heap.push o).objs.size oC R) fz μ loc H {s with heap:=h3,toks:=tk}:=by
 refine oEA (LCg.ns_obj hn) fun oC hoC hns=> ?_;obtain ⟨S3,hRD⟩:=S2.hide1 (tk:=s.toks) (c:=s.heap.objs.size) (o:=o) (fun b ob e=>Heap.get?_push_of_some _ e) (Heap.get?_push_size _ hf) S2.none_;have hne2:(s.heap.push o).get? (s.heap.push o).objs.size=none:=Heap.get?_none_of_le (Nat.le_refl _);obtain ⟨S4,hRC⟩:=S3.hide1 (tk:=tk) (h':=h3) (fun b ob e=>(hs b (Nat.ne_of_lt (Heap.lt_size e))).trans (Heap.get?_push_of_some _ e)) hoC hne2;have hDlt:(s.heap.push o).objs.size=s.heap.objs.size+1:=Heap.size_push ..;have hIlt:I<s.heap.objs.size:=Heap.lt_size (S2.rMem mQ);exact ⟨oC,hns,⟨D,hc,hRI,⟨fun p hp=>hRD.1 p (mC _ hp),hRI.2⟩,⟨fun p hp=>hRC.1 p (mC _ (mC _ hp)),hRI.2⟩,Nat.ne_of_lt hIlt,
  by rw [hDlt]; exact Nat.ne_of_lt (Nat.lt_succ_self _),by rw [hDlt]; exact Nat.ne_of_lt (Nat.lt_succ_of_lt hIlt),z⟩,perm321 hRI.2 S4⟩
theorem yjI {I Ds C:Addr} {items:List PV} (K:LcS G φ k R I Ds C items) {β:Type} {f:PV→Hp→Rs (Option β)} {A:zB→Mu→List β→Obj→Prop} {j:Nat} {pvs rest vs:List β} {oD oI oC:Obj} {H' H2:Hp}
  (hlt:¬ j<items.length) (hj:j≤items.length) (hcl:compLoop f (items.drop j) H'= .ok rest H2) (happ:pvs++rest=vs)
  (S:Sat G φ (zrG I oI Ds oD C oC R) fz μ loc H' s) (it:ItOk G φ fz μ I j items oI) (q:A fz μ pvs oD) (hjl:pvs.length≤j)
  {Done:Shared→Prop} {Oth:Value→Shared→Prop} {E:Value→Shared→Prop} (fin:∀ s5,Sat G φ ((C,oC)::(Ds,oD)::R) fz μ loc H2 s5→A fz μ vs oD→vs.length≤SZ→Done s5) :
  wpAny (model G.prog G.w) φ.A (pyNext (.ref I)) (fun r s1=>match r with|none=>Done s1|some v=>Oth v s1) E s:=by
 obtain rfl:j=items.length:=by lia
 rw [List.drop_length] at hcl;have hcl':(Rs.ok [] H':Rs (List β))= .ok rest H2:=hcl;cases hcl';rw [List.append_nil] at happ;subst happ;refine wpNo (wpAny_mono (it.done K.D S ((K.oI.cons (p:=(C,oC)) (Ne.symm K.nIC)).cons (p:=(Ds,oD)) (Ne.symm K.nID))) (fun r s5 h=> ?_) fun _ _ z=>z);rw [h.1];exact fin s5 (yoF K.oI.2 h.2) q (Nat.le_trans hjl K.z)
theorem drop_get {items:List PV} {j:Nat} (h:j<items.length):∃ pv,items[j]? =some pv∧items.drop j=pv::items.drop (j+1):=⟨items[j],by simp [h],List.drop_eq_getElem_cons h⟩
theorem yjH {I Ds C:Addr} {items:List PV} (K:LcS G φ k R I Ds C items) {scope:Scope} {x:Str} {px:Pos} {i:Nat} {fcond:Loc→Hp→Rs PV} {isIf:Bool} {ifs:List Expr} {β:Type} {fe:Loc→Hp→Rs β} {W:MW β δ}
  {Goal:Env→(δ→Shared→Prop)→Shared→Prop} {A:zB→Mu→List β→Obj→Prop} {j:Nat} {pvs rest vs:List β} {oD oI oC:Obj} {H' H2:Hp}
  (hx:φ.xs[i]? =some x) (hok:yR φ.env.scope φ.xs scope x=true) (J:IfJ G φ k scope fcond isIf ifs) (hE:∀ φ' Rc fz μ loc H s,yP G φ φ' k scope→Sat G φ' Rc fz μ loc H s→Fine φ' (fe loc H)→∀ K':δ→Shared→Prop,(∀ y s',QE W G φ' Rc fz μ loc (fe loc H) y s'→K' y s')→Goal φ'.env K' s)
  (mono:∀ {fz μ fz' μ' p o},Ext fz μ fz' μ'→A fz μ p o→A fz' μ' p o)
  (hlt:j<items.length) (hcl:compLoop (y8 fcond fe isIf i loc) (items.drop j) H'= .ok rest H2) (happ:pvs++rest=vs)
  (S:Sat G φ (zrG I oI Ds oD C oC R) fz μ loc H' s) (it:ItOk G φ fz μ I j items oI) (hns:LCg.NsObj oC vm) (q:A fz μ pvs oD) (hjl:pvs.length≤j)
  {K0:Shared→Prop} {K1:δ→Shared→Prop} {E:Value→Shared→Prop} {Done:Shared→Prop}
  (next:∀ {pvs' rest' oD' oI' oC' vm' fz' μ' Hm s'},compLoop (y8 fcond fe isIf i loc) (items.drop (j+1)) Hm= .ok rest' H2→pvs'++rest'=vs→Ext fz μ fz' μ'→Sat G φ (zrG I oI' Ds oD' C oC' R) fz' μ' loc Hm s'→ItOk G φ fz' μ' I (j+1) items oI'→LCg.NsObj oC' vm'→A fz' μ' pvs' oD'→pvs'.length≤j+1→K0 s')
  (store:∀ {pv y rest' oI' oC' fz' μ' Hm s'},vs=pvs++pv::rest'→W.r fz' μ' pv y→Sat G φ ((Ds,oD)::(I,oI')::(C,oC')::R) fz' μ' loc Hm s'→Out φ ((I,oI')::(C,oC')::R) Ds→A fz' μ' pvs oD→pvs.length<SZ →
   (∀ oD' s6,A fz' μ' (pvs++[pv]) oD'→Sat G φ ((Ds,oD')::(I,oI')::(C,oC')::R) fz' μ' loc Hm s6→K0 s6)→K1 y s') :
  wpAny (model G.prog G.w) φ.A (pyNext (.ref I)) (fun r s1=>match r with|none=>Done s1|some v=>wpAny (model G.prog G.w) φ.A (assign (.Name x px) (compEnvC scope (yQ φ.env scope.names []) C φ.env) v) (fun _ s₂ =>
   wpAny (model G.prog G.w) φ.A (forIn ifs true (ifsF (compEnvC scope (yQ φ.env scope.names []) C φ.env))) (fun ok s₃ =>
    if ok=true then Goal (compEnvC scope (yQ φ.env scope.names []) C φ.env) (fun y s₄=>K1 y s₄) s₃ else K0 s₃) E s₂) E s1) E s:=by
 refine oEA (drop_get hlt) fun pv hpv ed=> ?_;rw [ed] at hcl;refine zY (compLoop_cons hcl) fun r Hm rest' c1 c2 c3=> ?_;refine wpNo (wpAny_mono (it.next K.D S ((K.oI.cons (p:=(C,oC)) (Ne.symm K.nIC)).cons (p:=(Ds,oD)) (Ne.symm K.nID)) hpv) (fun rr s5 h=> ?_) fun _ _ z=>z);refine xC h fun val oI2 o1_ w2 S5 it2=> ?_; (try clear h); obtain rfl:=o1_;refine comp_turn K.D K.hc (W:=W) (Goal:=Goal) (K:=fun (y:Option δ) s'=>match y with|some y=>K1 y s' | none=>K0 s') hx hok J hE S5 ((K.oC.cons (p:=(Ds,oD)) K.nDC).cons (p:=(I,oI2)) K.nIC) K.oI.2 hns w2 c1 (fun hr fz6 μ6 oC6 vm6 s6 x6 n6 S6=> ?_) (fun pv6 y fz6 μ6 oC6 vm6 s6 hr x6 n6 S6 w6=> ?_)
 ·subst hr
  exact next c2 (by rw [← happ,c3]) x6 S6 (it2.mono x6) n6 (mono x6 q) (Nat.le_succ_of_le hjl)
 ·subst hr
  exact store (by rw [← happ,c3]) w6 (yhG K.oI.2 S6) ((K.oD.cons (p:=(C,oC6)) (Ne.symm K.nDC)).cons (p:=(I,oI2)) K.nID) (mono x6 q) (Nat.lt_of_lt_of_le (Nat.lt_of_le_of_lt hjl hlt) K.z) fun oD' s7 q7 S7 =>next c2 (by rw [← happ,c3,List.append_assoc]; rfl) x6 (yhG K.oI.2 S7) (it2.mono x6) n6 q7 (by rw [List.length_append]; exact Nat.succ_le_succ hjl)
noncomputable def LA (G:Gl) (fz:zB) (μ:Mu) (pvs:List PV) (o:Obj):Prop:=∃ ys n,o=lstO ys n∧VRs G fz μ pvs ys∧ys.length=pvs.length
theorem LA.mono (e:Ext fz μ fz₁ μ₁) (h:LA G fz μ pvs o):LA G fz₁ μ₁ pvs o:=by refine zcE h fun ys n h1 h2 h3=> ?_; (try clear h); exact ⟨ys,n,h1,VRs.mono e h2,h3⟩
theorem la_store {I Ds C:Addr} {oD oI oC:Obj} {pvs:List PV} {pv:PV} {y:Value} (w:VR G fz μ pv y) (S:Sat G φ ((Ds,oD)::(I,oI)::(C,oC)::R) fz μ loc H s) (hO:Out φ ((I,oI)::(C,oC)::R) Ds) (q:LA G fz μ pvs oD) (hl:pvs.length<SZ) {E:Value→Shared→Prop} {K:Shared→Prop}
  (next:∀ oD' s6,LA G fz μ (pvs++[pv]) oD'→Sat G φ ((Ds,oD')::(I,oI)::(C,oC)::R) fz μ loc H s6→K s6):wpAny (model G.prog G.w) φ.A (call (.builtin "list.append") [.ref Ds,y]) (fun _ s6=>K s6) E s:=by
 obtain ⟨ys,nD,rfl,q,hy⟩:=q;refine wpAny_list_append_plain ⟨nD,S.rMem mQ⟩ (fun h' hl' hs'=> ?_) (by simpa using Nat.le_trans (by rw [hy]; exact Nat.le_of_lt hl) y7);obtain ⟨n',ho'⟩:=hl';exact next _ _ ⟨ys++[y],n',rfl,yM q ⟨w,trivial⟩,by simp [hy]⟩ (S.hidGrow (tk:=s.toks) (fun b ob hb e=>(hs'.2 b hb).trans e) (ho'.trans (by rw [List.push_toArray])) hO)
theorem zvH {f:PV→Hp→Rs (Option β)} {g:List β→Hp→Rs PV} (h:Fine φ ((Rs.ok v H).bind fun v H=>(zC (yS v) H).bind fun items H=>(zfH <| compLoop f items H).bind g)) :
  ∃ items vs H2,yS v=some items∧compLoop f items H= .ok vs H2∧((Rs.ok v H).bind fun v H=>(zC (yS v) H).bind fun items H=>(zfH <| compLoop f items H).bind g)=g vs H2:=by
 have h1:Fine φ ((zC (yS v) H).bind fun items H=>(zfH <| compLoop f items H).bind g):=h
 obtain ⟨items,hi⟩:=z9 h1.fst;have e:((Rs.ok v H).bind fun v H=>(zC (yS v) H).bind fun items H=>(zfH <| compLoop f items H).bind g)=(zfH <| compLoop f items H).bind g:=by
  show (zC (yS v) H).bind _=_;rw [hi]; rfl
 rw [e] at h ⊢;cases hl:compLoop f items H with
 |exc C H=>rw [hl] at h; exact h.elim
 |bad=>rw [hl] at h; exact h.elim
 |ok vs H2=>exact ⟨items,vs,H2,hi,hl,rfl⟩
theorem lc_turn (D:Good G φ k) (hc:φ.comp=none) {scope:Scope} {x:Str} {px:Pos} {i:Nat} {fcond felt:Loc→Hp→Rs PV} {isIf:Bool} {ifs:List Expr} {elt:Expr}
  (hx:φ.xs[i]? =some x) (hok:yR φ.env.scope φ.xs scope x=true) (J:IfJ G φ k scope fcond isIf ifs) (hE:∀ φ',yP G φ φ' k scope→EJ G φ' felt (eval elt φ'.env)) {I Ds C:Addr} {items vs:List PV} (K:LcS G φ k R I Ds C items) {H2:Hp} {n:Nat}
  (h:zgD G φ R fz μ loc I Ds C items (y8 fcond felt isIf i loc) vs H2 (LA G) n s) {E:Value→Shared→Prop} {EX':Value→Shared→Prop} :
  wpAny (model G.prog G.w) φ.A (pyNext (.ref I)) (fun r s₁=>match r with
   |none=>compPost (model G.prog G.w) φ.A EX' none (QE (wV G) G φ R fz μ loc (Rs.ok (PV.lst vs) H2)) (.ref Ds) C (.ok .next) s₁
   |some v=>wpAny (model G.prog G.w) φ.A (assign (.Name x px) (compEnvC scope (yQ φ.env scope.names []) C φ.env) v) (fun _ s₂ =>
     wpAny (model G.prog G.w) φ.A (forIn ifs true (ifsF (compEnvC scope (yQ φ.env scope.names []) C φ.env))) (fun ok s₃ =>
      if ok=true then wpAny (model G.prog G.w) φ.A (eval elt (compEnvC scope (yQ φ.env scope.names []) C φ.env)) (fun x s₄ =>wpAny (model G.prog G.w) φ.A (call (.builtin "list.append") [.ref Ds,x]) (fun _ s₅=>∃ m,m<n∧zgD G φ R fz μ loc I Ds C items (y8 fcond felt isIf i loc) vs H2 (LA G) m s₅) E s₄) E s₃
      else ∃ m,m<n∧zgD G φ R fz μ loc I Ds C items (y8 fcond felt isIf i loc) vs H2 (LA G) m s₃) E s₂) E s₁) E s:=by
 cases h with
 | @mk j pvs rest oD oI oC vm fz' μ' H' _ hcl happ hj x' S' it hns q hjl =>
  by_cases hlt:j<items.length
  ·refine yjH K (px:=px) (W:=wV G) (Goal:=fun env K' s=>wpAny (model G.prog G.w) φ.A (eval elt env) K' E s) (A:=LA G) (K0:=fun s'=>∃ m,m<items.length+1-j∧zgD G φ R fz μ loc I Ds C items (y8 fcond felt isIf i loc) vs H2 (LA G) m s')
    (K1:=fun y s'=>wpAny (model G.prog G.w) φ.A (call (.builtin "list.append") [.ref Ds,y]) (fun _ s6=>∃ m,m<items.length+1-j∧zgD G φ R fz μ loc I Ds C items (y8 fcond felt isIf i loc) vs H2 (LA G) m s6) E s') (E:=E) hx hok J (fun φ' Rc fz μ loc H s IC S hF K' hk=> ?_) LA.mono hlt hcl happ S' it hns q hjl
    (fun c1 c2 x6 S6 i6 n6 q6 l6=>⟨items.length+1-(j+1),Nat.sub_lt_sub_left (Nat.lt_succ_of_lt hlt) (Nat.lt_succ_self j),.mk c1 c2 hlt (x'.trans x6) S6 i6 n6 q6 l6⟩) fun _ w S hO q hl nx=>la_store w S hO q hl nx
   rw [← IC.A];exact wpAny_mono (hE φ' IC Rc fz μ loc H s S trivial hF) hk fun e s' hx=>(hx.comp IC.comp).elim
  ·refine yjI (Done:=compPost (model G.prog G.w) φ.A EX' none (QE (wV G) G φ R fz μ loc (Rs.ok (PV.lst vs) H2)) (.ref Ds) C (.ok .next)) K hlt hj hcl happ S' it q hjl fun s5 S6 q6 hl=> ?_
   refine ⟨_,hns.ns (S6.rMem mQ),fun h' hs'=> ?_⟩;obtain ⟨ys,nD,rfl,q,hy⟩:=q6;exact ⟨.lst vs,H2,_,μ',rfl,x'.trans Ext.cons,(S6.dropGrow (tk:=s5.toks) (fun b ob hb e=>(hs'.2 b hb).trans e) (K.oC.cons (p:=(Ds,lstO ys nD)) K.nDC)).reveal K.oD,zrJ (n:=nD) (.inr mQ) (by rw [hy]; exact hl) (VRs.mono Ext.cons q)⟩
theorem ej_lcomp (D:Good G φ k) (hc:φ.comp=none) {scope:Scope} {x:Str} {px pos:Pos} {i:Nat} {fit fcond felt:Loc→Hp→Rs PV} {isIf:Bool} {ifs:List Expr} {iter elt:Expr}
  (hx:φ.xs[i]? =some x) (hok:yR φ.env.scope φ.xs scope x=true) (J:IfJ G φ k scope fcond isIf ifs) (hE:∀ φ',yP G φ φ' k scope→EJ G φ' felt (eval elt φ'.env)) (hs:∀ x,foldedSetIterable iter φ.env x=pure x) (hit:EJ G φ fit (eval iter φ.env)) :
  EJ G φ (fun loc H=>(fit loc H).bind fun v H=>(zC (yS v) H).bind fun items H=>(zfH <| compLoop (y8 fcond felt isIf i loc) items H).bind fun vs H=>.ok (PV.lst vs) H) (eval (.ListComp elt [⟨.Name x px,iter,ifs,0⟩] scope pos) φ.env):=by
 intro R fz μ loc H s S hΓ hF;dsimp only at hF ⊢;refine zxH (y0 hok) fun k1 k2 k3 k4 k5=> ?_;rw [arm_eval_ListComp];refine wpAny_comprehension_free (use:=none) (cl:=yQ φ.env scope.names []) rfl hs (zoD D hc hok S) k1 (fun p hp hl=>zkF k4 (by rw [← hl]; exact hp)) ?_;show wpAny (model G.prog G.w) φ.A (eval iter φ.env) _ _ s;refine wpAny_mono (hit R fz μ loc H s S trivial hF.fst) (fun xv s1 h_=> ?_) fun e s' h'=>h'.up .refl fun C H q=>by rw [q]; rfl
 obtain ⟨v,H1,fz1,μ1,e1,x1,S1,w1⟩:=h_;rw [e1] at hF ⊢;refine zY (zvH (g:=fun vs H=>.ok (PV.lst vs) H) hF) fun items vs H2 hi hl hR=> ?_;rw [hR];refine wpNo (wpAny_mono (zlC D S1 w1 hi) (fun it s2 h_=> ?_) fun _ _ z=>z);obtain ⟨I,oI,hI,S2,hRI,it0⟩:=h_;subst hI;refine wpAny_newObj_type (wpAny_newFunctionEnv (fun p hp=> ?_) (fun p hp=>nomatch hp) (fun h3 hn3 hs3=> ?_) k1)
 ·rcases k5 p hp with ⟨z,_⟩|⟨z,_⟩|z <;> rw [z] <;> intro q <;> cases q
 ·refine oEAA (ycB (o:=LCg.lst []) (tk:=s2.toks+([]:List (Str×Value)).length) D hc S2 hRI (ycE w1 hi) rfl hn3 hs3.2) fun oC hns K S4=> ?_
  have hcS:codeAny (model G.prog G.w) φ.A (.compLoop (.ListComp elt [⟨.Name x px,iter,ifs,0⟩] scope pos) 0 (.ref I) (.ref s2.heap.objs.size) (compEnvC scope (yQ φ.env scope.names []) (s2.heap.push (LCg.lst [])).objs.size φ.env))
    (compPost (model G.prog G.w) φ.A (EX G φ R fz μ (Rs.ok (PV.lst vs) H2)) none (QE (wV G) G φ R fz μ loc (Rs.ok (PV.lst vs) H2)) (.ref s2.heap.objs.size) (s2.heap.push (LCg.lst [])).objs.size) {s2 with heap:=h3,toks:=s2.toks+([]:List (Str×Value)).length} :=
   codeAny_compLoop_tests (zgD G φ R fz μ loc I s2.heap.objs.size (s2.heap.push (LCg.lst [])).objs.size items (y8 fcond felt isIf i loc) vs H2 (LA G)) (fun n s4 hI=>lc_turn D hc hx hok J hE K hI) (items.length+1) (.mk (j:=0) (pvs:=[]) hl rfl (Nat.zero_le _) x1 S4 it0 hns ⟨[],0,rfl,trivial,rfl⟩ (Nat.le_refl _))
  exact codeAny_compStart_list hcS (it0.self D (S4.tail3 hRI.2) (S4.rMem mQ) hcS)
end
section
variable {G:Gl} {φ φ':Fx} {k:Nat} {R Rr Rc fz fz₁:zB} {μ μ₁:Mu} {loc:Loc} {H:Hp} {s:Shared} {Γ:MP} {T:Tab} {α β γ δ:Type} {C:Addr} {oC:Obj} {vm:Str→Option Value}
noncomputable def dcE (fkey fval:Loc→Hp→Rs PV) (loc:Loc) (H:Hp):Rs (PV×PV):=(fkey loc H).bind fun k H=>(fval loc H).bind fun v H=>.ok (k,v) H
noncomputable abbrev yrC (fcond fkey fval:Loc→Hp→Rs PV) (i:Nat) (loc:Loc) (x:PV) (H:Hp):Rs (Option (PV×PV)):=y8 fcond (dcE fkey fval) true i loc x H
noncomputable def wP (G:Gl):MW (PV×PV) (Value×Value):=⟨fun fz μ a b=>VR G fz μ a.1 b.1∧VR G fz μ a.2 b.2,fun e h=>⟨h.1.mono e,h.2.mono e⟩⟩
theorem zlD:∀ {ls:List (List Nat)},zhD (ls.map PV.str)=some ls:=by
 intro l0
 induction l0 with
 |nil =>exact rfl
 |cons l r ih =>exact congrArg (Option.map (l:: ·)) (ih)
theorem nodup_str:∀ {ls:List (List Nat)},ls.Nodup→(ls.map PV.str).Nodup:=by
 intro l0
 induction l0 with
 |nil =>
  intro _;exact .nil
 |cons l r ih =>
  intro h;rw [List.nodup_cons] at h;rw [List.map_cons,List.nodup_cons];refine ⟨fun hm=> ?_,ih h.2⟩;refine oEA (List.mem_map.mp hm) fun x hx e=> ?_;cases e;exact h.1 hx
noncomputable def DAcc (G:Gl) (fz:zB) (μ:Mu) (pvs:List (PV×PV)) (oD:Obj):Prop :=
 ∃ kvs:List (Str×Value),zK (PySem.strKind G.prog G.w) kvs oD∧pvs.map (·.1)=kvs.map (fun p=>PV.str p.1.cps.toList)∧VRs G fz μ (pvs.map (·.2)) (kvs.map (·.2))∧xH kvs
theorem DAcc.mono (e:Ext fz μ fz₁ μ₁) (h:DAcc G fz μ pvs oD):DAcc G fz₁ μ₁ pvs oD:=by refine ymG h fun kvs h1 h2 h3 h4=> ?_; (try clear h); exact ⟨kvs,h1,h2,VRs.mono e h3,h4⟩
theorem DAcc.nil:DAcc G fz μ [] emD :=
 ⟨[],zK.of (Heap.DictOf.new (knd:=PySem.strKind G.prog G.w) (default:Heap)) (Heap.get?_push_size _ rfl),rfl,trivial,fun p h=>nomatch h⟩
theorem str_inj {l m:List (List Nat)} (h:l.map PV.str=m.map PV.str):l=m:=Option.some.inj (by rw [← zlD (ls:=l),h,zlD])
theorem asDict_strs {ps:List (PV×PV)} {v:PV} (h:y9 false (ps.map (·.1)) (ps.map (·.2))=some v):∃ l:List (List Nat),ps.map (·.1)=l.map PV.str∧l.Nodup∧v= .dicS l (ps.map (·.2)):=by
 unfold y9 at h;refine oEA (Option.bind_eq_some_iff.mp h) fun l q1 q2=> ?_
 split at q2
 ·rename_i hn; cases q2; exact ⟨l,zfJ q1,hn,rfl⟩
 ·cases q2
theorem DAcc.len (h:DAcc G fz μ pvs oD):∃ kvs:List (Str×Value),kvs.length=pvs.length∧zK (PySem.strKind G.prog G.w) kvs oD∧pvs.map (·.1)=(kvs.map (·.1.cps.toList)).map PV.str∧VRs G fz μ (pvs.map (·.2)) (kvs.map (·.2))∧xH kvs:=by
 refine ymG h fun kvs d1 d2 d3 d4=> ?_; (try clear h);exact ⟨kvs,by simpa using (congrArg List.length d2).symm,d1,by rw [d2,List.map_map]; rfl,d3,d4⟩
theorem da_fresh {ps:List (PV×PV)} {rest:List (PV×PV)} {l:List (List Nat)} {lk:List Nat} {v6:PV} {kvs:List (Str×Value)} {yk:Str} (e:(ps++(.str lk,v6)::rest).map (·.1)=l.map PV.str) (hn:l.Nodup) (d:ps.map (·.1)=(kvs.map (·.1.cps.toList)).map PV.str) (hlk:lk=yk.cps.toList):yk∉kvs.map (·.1):=fun hm=>by
 have h:=nodup_str hn;rw [← e,List.map_append,List.map_cons,d] at h;refine (List.nodup_append.mp h).2.2 (.str lk) ?_ (.str lk) mQ rfl;refine oEA (List.mem_map.mp hm) fun p hp e=> ?_;exact List.mem_map_of_mem (by rw [hlk,← e]; exact List.mem_map_of_mem (f:=fun p:Str×Value=>p.1.cps.toList) hp)
theorem stored_new {kvs:List (Str×Value)} {yk:Str} {y:Value} (h:yk∉kvs.map (·.1)):stored kvs yk y=kvs++[(yk,y)]:=by
 unfold stored;rw [any_key,if_neg (by simpa using h)]
theorem da_store {I Ds C:Addr} {oD oI oC:Obj} {pvs rest:List (PV×PV)} {pv:PV×PV} {y:Value×Value} {l:List (List Nat)} (he:(pvs++pv::rest).map (·.1)=l.map PV.str) (hn:l.Nodup) (w:(wP G).r fz μ pv y) (S:Sat G φ ((Ds,oD)::(I,oI)::(C,oC)::R) fz μ loc H s) (hO:Out φ ((I,oI)::(C,oC)::R) Ds) (q:DAcc G fz μ pvs oD) (hl:pvs.length<SZ) {E:Value→Shared→Prop} {K:Shared→Prop}
  (next:∀ oD' s6,DAcc G fz μ (pvs++[pv]) oD'→Sat G φ ((Ds,oD')::(I,oI)::(C,oC)::R) fz μ loc H s6→K s6):wpAny (model G.prog G.w) φ.A (dictSet Ds y.1 y.2) (fun _ s6=>K s6) E s:=by
 obtain ⟨k6,v6⟩:=pv;obtain ⟨lk,rfl⟩:∃ lk,k6= .str lk:=by
  have hm:k6∈l.map PV.str:=by rw [← he,List.map_append]; exact mR _ mQ
  refine oEA (List.mem_map.mp hm) fun x _ e=> ?_;exact ⟨x,e.symm⟩
 refine zcE (VR.str' w.1) fun yk tk hyk hlk zk=> ?_;refine yoJ (q.len) fun kvs hz d1 d2 d3 d4=> ?_;have st:=stored_new (y:=y.2) (da_fresh he hn d2 hlk.symm);have hyy:y.1= .str yk tk:=hyk;refine wpAny_dictSet_pairs (knd:=PySem.strKind G.prog G.w) (k:=yk) (by rw [hyy]; exact strKind_is _ _ _ _) (d1.at (S.rMem mQ)) (fun h' hd' hs'=> ?_) (Nat.le_trans (by rw [hz]; exact Nat.le_of_lt hl) y7);refine oEA (Heap.dictOf_iff.mp hd') fun o' ho' hdd=> ?_;refine next o' _ ⟨kvs++[(yk,y.2)],st▸zK.of hd' ho',?_,?_,?_⟩ (S.hidGrow (fun b ob hb e=>(hs'.2 b hb).trans e) ho' hO)
 ·rw [List.map_append,d2,List.map_map,List.map_append,← hlk]; rfl
 ·rw [List.map_append,List.map_append]; exact yM d3 ⟨w.2,trivial⟩
 ·intro p hp
  rcases mP hp with hp|hp
  ·exact d4 p hp
  ·rw [List.mem_singleton] at hp; subst hp; exact zk
theorem dc_elt {scope:Scope} {fkey fval:Loc→Hp→Rs PV} {kx vx:Expr} (hE:EJ G φ' fkey (eval kx φ'.env)) (hE2:EJ G φ' fval (eval vx φ'.env)) (hc:φ'.comp≠none) (S:Sat G φ' Rc fz μ loc H s) (hF:Fine φ' (dcE fkey fval loc H)) {K':Value×Value→Shared→Prop} (hk:∀ y s',QE (wP G) G φ' Rc fz μ loc (dcE fkey fval loc H) y s'→K' y s') {E:Value→Shared→Prop} :
  wpAny (model G.prog G.w) φ'.A (eval kx φ'.env) (fun kv s4=>wpAny (model G.prog G.w) φ'.A (eval vx φ'.env) (fun vv s5=>K' (kv,vv) s5) E s4) E s:=by
 refine wpAny_mono (hE Rc fz μ loc H s S trivial hF.fst) (fun kv s8 h_=> ?_) fun e s' hx=>(hx.comp hc).elim;obtain ⟨pk,H8,fz8,μ8,e8,x8,S8,w8⟩:=h_;unfold dcE at hF hk;rw [e8] at hF hk;have hF8:Fine φ' ((fval loc H8).bind fun v H=>.ok (pk,v) H):=hF;refine wpAny_mono (hE2 Rc fz8 μ8 loc H8 s8 S8 trivial hF8.fst) (fun vv s9 h_=> ?_) fun e s' hx=>(hx.comp hc).elim;obtain ⟨pw,H9,fz9,μ9,e9,x9,S9,w9⟩:=h_;refine hk (kv,vv) s9 ⟨(pk,pw),H9,fz9,μ9,?_,x8.trans x9,S9,w8.mono x9,w9⟩;show (fval loc H8).bind _=_;rw [e9]; rfl
theorem dc_turn (D:Good G φ k) (hc:φ.comp=none) {scope:Scope} {x:Str} {px:Pos} {i:Nat} {fcond fkey fval:Loc→Hp→Rs PV} {ifs:List Expr} {kx vx:Expr}
  (hx:φ.xs[i]? =some x) (hok:yR φ.env.scope φ.xs scope x=true) (J:IfJ G φ k scope fcond true ifs) (hE:∀ φ',yP G φ φ' k scope→EJ G φ' fkey (eval kx φ'.env)) (hE2:∀ φ',yP G φ φ' k scope→EJ G φ' fval (eval vx φ'.env)) {I Ds C:Addr} {items:List PV} {vs:List (PV×PV)} (K:LcS G φ k R I Ds C items) {H2:Hp} {n:Nat}
  {l:List (List Nat)} (he:vs.map (·.1)=l.map PV.str) (hn:l.Nodup) (nmd:zP Ds)
  (h:zgD G φ R fz μ loc I Ds C items (y8 fcond (dcE fkey fval) true i loc) vs H2 (DAcc G) n s) {E:Value→Shared→Prop} {EX':Value→Shared→Prop} :
  wpAny (model G.prog G.w) φ.A (pyNext (.ref I)) (fun r s₁=>match r with
   |none=>compPost (model G.prog G.w) φ.A EX' none (QE (wV G) G φ R fz μ loc (Rs.ok (PV.dicS l (vs.map (·.2))) H2)) (.ref Ds) C (.ok .next) s₁
   |some v=>wpAny (model G.prog G.w) φ.A (assign (.Name x px) (compEnvC scope (yQ φ.env scope.names []) C φ.env) v) (fun _ s₂ =>
     wpAny (model G.prog G.w) φ.A (forIn ifs true (ifsF (compEnvC scope (yQ φ.env scope.names []) C φ.env))) (fun ok s₃ =>
      if ok=true then wpAny (model G.prog G.w) φ.A (eval kx (compEnvC scope (yQ φ.env scope.names []) C φ.env)) (fun kv s₄=>wpAny (model G.prog G.w) φ.A (eval vx (compEnvC scope (yQ φ.env scope.names []) C φ.env)) (fun vv s₅ =>wpAny (model G.prog G.w) φ.A (dictSet Ds kv vv) (fun _ s₆=>∃ m,m<n∧zgD G φ R fz μ loc I Ds C items (y8 fcond (dcE fkey fval) true i loc) vs H2 (DAcc G) m s₆) E s₅) E s₄) E s₃
      else ∃ m,m<n∧zgD G φ R fz μ loc I Ds C items (y8 fcond (dcE fkey fval) true i loc) vs H2 (DAcc G) m s₃) E s₂) E s₁) E s:=by
 cases h with
 | @mk j pvs rest oD oI oC vm fz' μ' H' _ hcl happ hj x' S' it hns q hjl =>
  by_cases hlt:j<items.length
  ·refine yjH K (px:=px) (W:=wP G) (Goal:=fun env K' s=>wpAny (model G.prog G.w) φ.A (eval kx env) (fun kv s4=>wpAny (model G.prog G.w) φ.A (eval vx env) (fun vv s5=>K' (kv,vv) s5) E s4) E s) (A:=DAcc G) (K0:=fun s'=>∃ m,m<items.length+1-j∧zgD G φ R fz μ loc I Ds C items (y8 fcond (dcE fkey fval) true i loc) vs H2 (DAcc G) m s')
    (K1:=fun y s'=>wpAny (model G.prog G.w) φ.A (dictSet Ds y.1 y.2) (fun _ s6=>∃ m,m<items.length+1-j∧zgD G φ R fz μ loc I Ds C items (y8 fcond (dcE fkey fval) true i loc) vs H2 (DAcc G) m s6) E s') (E:=E) hx hok J (fun φ' Rc fz μ loc H s IC S hF K' hk=> ?_) DAcc.mono hlt hcl happ S' it hns q hjl
    (fun c1 c2 x6 S6 i6 n6 q6 l6=>⟨items.length+1-(j+1),Nat.sub_lt_sub_left (Nat.lt_succ_of_lt hlt) (Nat.lt_succ_self j),.mk c1 c2 hlt (x'.trans x6) S6 i6 n6 q6 l6⟩) fun e w S hO q hl nx=>da_store (e▸he) hn w S hO q hl nx
   rw [← IC.A];exact dc_elt (scope:=scope) (hE φ' IC) (hE2 φ' IC) IC.comp S hF hk
  ·refine yjI (Done:=compPost (model G.prog G.w) φ.A EX' none (QE (wV G) G φ R fz μ loc (Rs.ok (PV.dicS l (vs.map (·.2))) H2)) (.ref Ds) C (.ok .next)) K hlt hj hcl happ S' it q hjl fun s5 S6 q6 hl=> ?_
   refine ⟨_,hns.ns (S6.rMem mQ),fun h' hs'=> ?_⟩;refine yoJ (q6.len) fun kvs hz d1 d2 d3 d4=> ?_;have el:l=kvs.map (·.1.cps.toList):=str_inj (he.symm.trans d2);refine ⟨.dicS l (vs.map (·.2)),H2,_,μ',rfl,x'.trans Ext.cons,(S6.dropGrow (tk:=s5.toks) (fun b ob hb e=>(hs'.2 b hb).trans e) (K.oC.cons (p:=(Ds,oD)) K.nDC)).reveal K.oD,?_⟩;rw [el];exact ygC (.inr mQ) ⟨nmd,by rw [hz]; exact hl,d4⟩ d1 (VRs.mono Ext.cons d3)
theorem ej_dcomp (D:Good G φ k) (hc:φ.comp=none)
  (hx:φ.xs[i]? =some x) (hok:yR φ.env.scope φ.xs scope x=true) (J:IfJ G φ k scope fcond true ifs) (hE:∀ φ',yP G φ φ' k scope→EJ G φ' fkey (eval kx φ'.env)) (hE2:∀ φ',yP G φ φ' k scope→EJ G φ' fval (eval vx φ'.env)) (O:GOk G) (hs:∀ x,foldedSetIterable iter φ.env x=pure x) (hit:EJ G φ fit (eval iter φ.env)) :
  EJ G φ (fun loc H=>(fit loc H).bind fun v H=>(zC (yS v) H).bind fun items H=>(zfH <| compLoop (yrC fcond fkey fval i loc) items H).bind fun vs H=>zC (y9 false (vs.map (·.1)) (vs.map (·.2))) H) (eval (.DictComp kx vx [⟨.Name x px,iter,ifs,0⟩] scope pos) φ.env):=by
 intro R fz μ loc H s S hΓ hF;dsimp only at hF ⊢;refine zxH (y0 hok) fun k1 k2 k3 k4 k5=> ?_;rw [arm_eval_DictComp];refine wpAny_comprehension_free (use:=none) (cl:=yQ φ.env scope.names []) rfl hs (zoD D hc hok S) k1 (fun p hp hl=>zkF k4 (by rw [← hl]; exact hp)) ?_;show wpAny (model G.prog G.w) φ.A (eval iter φ.env) _ _ s;refine wpAny_mono (hit R fz μ loc H s S trivial hF.fst) (fun xv s1 h_=> ?_) fun e s' h'=>h'.up .refl fun C H q=>by rw [q]; rfl
 obtain ⟨v,H1,fz1,μ1,e1,x1,S1,w1⟩:=h_;rw [e1] at hF ⊢;refine zY (zvH (f:=yrC fcond fkey fval i loc) (g:=fun vs H=>zC (y9 false (vs.map (·.1)) (vs.map (·.2))) H) hF) fun items vs H2 hi hl hR=> ?_;rw [hR] at hF ⊢;obtain ⟨pvR,hpvR⟩:=z9 hF;refine oEAA (asDict_strs hpvR) fun l he hn o1_=> ?_; obtain rfl:=o1_;rw [hpvR];refine wpNo (wpAny_mono (zlC D S1 w1 hi) (fun it s2 h_=> ?_) fun _ _ z=>z);obtain ⟨I,oI,hI,S2,hRI,it0⟩:=h_;subst hI;refine wpAny_newObj_type (wpAny_newFunctionEnv (fun p hp=> ?_) (fun p hp=>nomatch hp) (fun h3 hn3 hs3=> ?_) k1)
 ·rcases k5 p hp with ⟨z,_⟩|⟨z,_⟩|z <;> rw [z] <;> intro q <;> cases q
 ·refine oEAA (ycB (o:=emD) (tk:=s2.toks+([]:List (Str×Value)).length) D hc S2 hRI (ycE w1 hi) rfl hn3 hs3.2) fun oC hns K S4=> ?_
  have hcS:codeAny (model G.prog G.w) φ.A (.compLoop (.DictComp kx vx [⟨.Name x px,iter,ifs,0⟩] scope pos) 0 (.ref I) (.ref s2.heap.objs.size) (compEnvC scope (yQ φ.env scope.names []) (s2.heap.push emD).objs.size φ.env))
    (compPost (model G.prog G.w) φ.A (EX G φ R fz μ (Rs.ok (PV.dicS l (vs.map (·.2))) H2)) none (QE (wV G) G φ R fz μ loc (Rs.ok (PV.dicS l (vs.map (·.2))) H2)) (.ref s2.heap.objs.size) (s2.heap.push emD).objs.size) {s2 with heap:=h3,toks:=s2.toks+([]:List (Str×Value)).length} :=
   codeAny_compLoop_testsD (zgD G φ R fz μ loc I s2.heap.objs.size (s2.heap.push emD).objs.size items (y8 fcond (dcE fkey fval) true i loc) vs H2 (DAcc G)) (fun n s4 hI=>dc_turn D hc hx hok J hE hE2 K he hn (S2.notMods D O) hI) (items.length+1) (.mk (j:=0) (pvs:=[]) hl rfl (Nat.zero_le _) x1 S4 it0 hns .nil (Nat.le_refl _))
  exact codeAny_compStart_dict hcS (it0.self D (S4.tail3 hRI.2) (S4.rMem mQ) hcS)
end
theorem among_snoc (ht:TriplesOk l) (h:codeAmong pos (l++[rawInt a,rawInt b,c])=some cv):codeAmong pos l=some cv∨cv=c:=by
 fun_induction TriplesOk l with
 |case1 =>
  simp only [List.nil_append,codeAmong,rawInt] at h
  split at h
  ·cases h; exact .inr rfl
  ·cases h
 |case2 a' t b' u x rest ih =>
  simp only [List.cons_append,codeAmong] at h ⊢
  split at h
  ·rename_i hc; rw [if_pos hc]; exact .inl h
  ·rename_i hc; rw [if_neg hc]; exact ih ht h
 |case3 l h1 h2=>exact ht.elim
section
variable {G:Gl} {φ φ':Fx} {k:Nat} {R Rr Rc fz fz₁:zB} {μ μ₁:Mu} {loc:Loc} {H:Hp} {s:Shared} {Γ:MP} {T:Tab} {α β γ δ:Type}
theorem yH.tabSet (S:yH G R fz μ H mu tb) (h1:∀ p∈tb',∃ q∈tb,q.1=p.1) (h2:∀ p∈tb',∀ q∈tb',q.1=p.1→q=p) (h3:TabOk G fz tb'):yH G R fz μ H mu tb':=by
 refine ⟨S.len,S.live,S.own,S.inj,fun p hp q hq=> ?_,fun p hp q hq=> ?_,fun p hp q hq=> ?_,S.fun_,h3,h2⟩
 ·simp only [List.mem_append] at hq
  rcases hq with hq|hq|hq
  ·exact S.sepM p hp q (mL _ hq)
  ·refine oEA (h1 q hq) fun r hr e=> ?_
   exact e▸S.sepM p hp r (mR _ (mL _ hr))
  ·exact S.sepM p hp q (mR _ (mR _ hq))
 ·rcases mP hq with hq|hq
  ·refine oEA (h1 q hq) fun r hr e=> ?_
   exact e▸S.sepF p hp r (mL _ hr)
  ·exact S.sepF p hp q (mR _ hq)
 ·refine oEA (h1 p hp) fun r hr e=> ?_
  exact e▸S.sepT r hr q hq
inductive LamMade (G:Gl) (φ:Fx) (R fz:zB) (μ:Mu) (loc:Loc) (H:Hp) (qual:Str) (params:Arguments) (body:Expr) (scope:Scope) (clos:List (Str×Addr)) (v:Value) (s:Shared):Prop
 |mk (f c':Addr) (oc:Obj) (vs:Array Value) (t:Tok) (ctv pm:Value) (fz':zB) (e:v= .ref f) (x:Ext fz μ fz' μ) (S:Sat G φ R fz' μ loc H s) (h1:(f,kla_obj "<lambda>" qual params body scope clos pm c' ctv)∈fz') (h2:(c',oc)∈fz') (h3:oc.data= .fields vs) (h4:vs[1]? =some (.str qual t))
noncomputable abbrev tbU (P:Addr) (o:Obj) (tb:zB):zB:=tb.map fun p=>if p.1=P then (P,o) else p
inductive TbM (P:Addr) (o:Obj) (tb:zB):Addr×Obj→Prop
 |old {p:Addr×Obj} (h:p∈tb) (ne:p.1≠P):TbM P o tb p
 |new (r:Addr×Obj) (h:r∈tb) (e:r.1=P):TbM P o tb (P,o)
theorem zjE {P:Addr} {o:Obj} {tb:zB} {p:Addr×Obj} (h:p∈tbU P o tb):TbM P o tb p:=by
 refine oEA (List.mem_map.mp h) fun r hr e=> ?_
 by_cases z:r.1=P
 ·exact (e.symm.trans (if_pos z))▸ .new r hr z
 ·exact (e.symm.trans (if_neg z))▸ .old hr z
theorem TbM.ex {P:Addr} {o:Obj} {tb:zB} {p:Addr×Obj} (h:TbM P o tb p):∃ q∈tb,q.1=p.1:=by
 cases h with
 |old h _=>exact ⟨_,h,rfl⟩
 |new r h e=>exact ⟨_,h,e⟩
theorem built_at {p:Program} {loose:List Str} {mean:ExcName→Option Value} {mg mb:Str→Option Value} {g h:Heap} {P:Addr} {ps:Array Value} (T:Top p loose mean mg mb g) (hk:∀ b o,g.get? b=some o→h.get? b=some o) (hP:h.get? P=some (tabObj ps)):mainGlobals≠P∧h.BuiltinsAt mg P:=by
 refine zY (T.g) fun o es ep e hd _=> ?_;refine zaI (T.bmain) fun bm ob b1 b2 b3 b4 b5 b6=> ?_;refine ⟨fun q=> ?_,bm,ob,b1,b2,fun q=> ?_,fun q=> ?_,hk _ _ b3,b4,b5,b6⟩
 ·have x:=congrArg Obj.data (Option.some.inj (hP.symm.trans (hk _ _ (q▸e))))
  exact nomatch x.trans hd
 ·have x:=congrArg Obj.data (Option.some.inj (e.symm.trans (q▸b3)))
  exact nomatch hd.symm.trans (x.trans b6)
 ·have x:=congrArg Obj.cls (Option.some.inj (hP.symm.trans (hk _ _ (q▸b3))))
  exact nomatch x.trans b4
theorem tab_shape {c' f:Addr} {oc fo:Obj} {vs ps:Array Value} {qual:Str} {pos:Pos} (Sh:yH G R fz μ H mu tb) (hP:(P,tabObj ps)∈tb) (hold:∀ p∈fz++(mu++(tb++R)),p.1≠f∧p.1≠c') (hd:oc.data= .fields vs) (hv:vs[1]? =some (.str qual t)) (hq:∀ q∈G.tabs,q.2.1=P→q.2.2=qual) :
  yH G R ((f,fo)::(c',oc)::fz) μ H mu (tbU P (tabObj (ps++ #[rawInt pos.line,rawInt pos.col,.ref c'])) tb):=by
 have Sh1:yH G R ((f,fo)::(c',oc)::fz) μ H mu tb:=Sh.ext (fun p hp=>mC _ (mC _ hp))
  (fun p hp q hq=>(mN hq).elim (fun e=>e▸Ne.symm (hold p (mR _ (mL _ hp))).1) fun hq=>(mN hq).elim (fun e=>e▸Ne.symm (hold p (mR _ (mL _ hp))).2) fun hq=>Sh.sepM p hp q (mL _ hq))
  fun p hp q hq=>(mN hp).elim (fun e=>e▸(hold q (mR _ (mR _ hq))).1) fun hp=>(mN hp).elim (fun e=>e▸(hold q (mR _ (mR _ hq))).2) fun hp=>Sh.sepF p hp q hq
 refine Sh1.tabSet (fun p hp=>(zjE hp).ex) (fun p hp q hq e=> ?_) fun q hq0=> ?_
 ·cases zjE hp with
  |old h n=>cases zjE hq with
   |old h' n'=>exact Sh.tfun p h q h' e
   |new r' h' e'=>exact absurd e.symm n
  |new r h e1=>cases zjE hq with
   |old h' n'=>exact absurd e n'
   |new r' h' e'=>rfl
 ·refine oEAA (Sh1.tab q hq0) fun ps0 k1 k2 k3=> ?_
  by_cases e:q.2.1=P
  ·have e2:Data.fields ps0=Data.fields ps:=congrArg (fun o:Addr×Obj=>o.2.data) (Sh.tfun (P,tabObj ps) hP (q.2.1,tabObj ps0) k1 e)
   cases e2;refine ⟨_,List.mem_map.mpr ⟨_,k1,by rw [if_pos e,e]⟩,by rw [Array.toList_append]; exact TriplesOk_snoc _ _ _ _ k2,fun pos2 cv hcv=> ?_⟩;rw [Array.toList_append] at hcv;exact (among_snoc k2 hcv).elim (k3 pos2 cv) fun z=>⟨c',oc,vs,t,z,mC _ mQ,hd,by rw [hq q hq0 e]; exact hv⟩
  ·exact ⟨ps0,List.mem_map.mpr ⟨_,k1,if_neg e⟩,k2,k3⟩
theorem tab_news {g h h2:Heap} {L c' f P:Addr} {fo oc o o0:Obj} (N:News g L h (fz++(mu++(tb++R)))) (Sh:yH G R fz μ H mu tb) (hP:(P,o0)∈tb) (keep:∀ b ob,b≠P→h.get? b=some ob→h2.get? b=some ob) (hf:h2.get? f=some fo∧f≠L∧g.get? f=none) (hc:h2.get? c'=some oc∧c'≠L∧g.get? c'=none) (hp:h2.get? P=some o) :
  News g L h2 (((f,fo)::(c',oc)::fz)++(mu++(tbU P o tb++R))):=fun p h=>by
 have old1:∀ {p},p∈fz++(mu++(tb++R))→p.1≠P→h2.get? p.1=some p.2∧p.1≠L∧g.get? p.1=none:=fun hp hne=>⟨keep _ _ hne (N _ hp).1,(N _ hp).2⟩
 rcases mP h with h|h
 ·exact (mN h).elim (fun e=>e▸hf) fun h=>(mN h).elim (fun e=>e▸hc) fun h=>old1 (mL _ h) fun e=>Sh.sepF p h _ (mL _ hP) e.symm
 ·rcases mP h with h|h
  ·exact old1 (mR _ (mL _ h)) fun e=>Sh.sepM p h _ (mR _ (mL _ hP)) e.symm
  ·rcases mP h with h|h
   ·cases zjE h with
    |old h n=>exact old1 (mR _ (mR _ (mL _ h))) n
    |new r h e=>exact ⟨hp,(N _ (mR _ (mR _ (mL _ hP)))).2⟩
   ·exact old1 (mR _ (mR _ (mR _ h))) fun e=>Sh.sepT _ hP p h e
theorem lam_make (D:Good G φ k) (O:GOk G) (S:Sat G φ R fz μ loc H s) (hcode:φ.env.code= .ref c) (htab:(c,P,qual)∈G.tabs) (hclos:closureFor scope φ.env=pure clos) :
  wpAny (model G.prog G.w) φ.A (makeFunction "<lambda>" qual params (.expr body) scope φ.env [] [] [] pos pos.line) (LamMade G φ R fz μ loc H qual params body scope clos) (fun _ _=>False) s:=by
 have S0:=S;obtain ⟨sm,m,vm,ce,⟨g,mu,tb,T,F,N,Sh⟩,L⟩:=S;refine oEAA (Sh.tab (c,P,qual) htab) fun ps hP ht hc=> ?_;have gt:=zaC D T;have TT:=O.T.keeps gt.1.stays;have hm:=N (P,tabObj ps) (mR _ (mR _ (mL _ hP)));have hb:=built_at TT F.keep hm.1;have C0:CodeHd s.heap c P:=(O.C (c,P,qual) htab).keeps (S0.base D);cases q:codeAmong pos ps.toList with
 |some cv =>
  refine zeB (hc pos cv q) fun c' oc vs t o1_ h1 h2 h3=> ?_; obtain rfl:=o1_;refine kla_makeFunctionHit (mg:=G.mg) hclos D.hgl (TT.g.keeps F.keep) hcode C0 hm.1 ht q hb.2 fun ctv h' tk hk hsz=> ?_;refine ⟨_,c',oc,vs,t,ctv,(G.mg "__name__").getD .none,_,rfl,⟨fun p hp=>mR [_] hp,fun _ _ h=>h⟩,S0.more (tk:=tk) (fun b o e=>Heap.get?_push_of_some _ (hk b o e)) (fun p hp=> ?_),mL _ (List.mem_singleton.mpr rfl),mR _ h1,h2,h3⟩;rw [List.mem_singleton] at hp; subst hp;exact ⟨Heap.get?_push_size _ rfl,Heap.get?_none_of_le hsz⟩
 |none =>
  refine kla_makeFunction (mg:=G.mg) hclos D.hgl (TT.g.keeps F.keep) hcode C0 hm.1 ht q hb.1 hb.2 fun c' ctv h' tk hx hge hlt hrec htb=> ?_;refine zeB hrec fun c₂ oc vs t e2 hoc hd hv=> ?_; (try clear hrec);cases e2;have gn:∀ b,s.heap.objs.size≤b→b≠φ.L∧g.get? b=none∧s.heap.get? b=none:=fun b hb=>⟨Nat.ne_of_gt (Nat.lt_of_lt_of_le F.ns.lt hb),kts_none F.keep (Heap.get?_none_of_le hb),Heap.get?_none_of_le hb⟩;have hfn:=gn _ (Nat.le_of_lt (Nat.lt_of_le_of_lt hge hlt));have hcn:=gn _ hge;have keep:∀ b o,b≠P→s.heap.get? b=some o→(h'.push (kla_obj "<lambda>" qual params body scope clos ((G.mg "__name__").getD .none) c' ctv)).get? b=some o:=fun b o hb e=>Heap.get?_push_of_some _ (hx b o hb e);exact ⟨_,c',oc,vs,t,ctv,(G.mg "__name__").getD .none,_,rfl,⟨fun p hp=>mC _ (mC _ hp),fun _ _ h=>h⟩,⟨sm,m,vm,ce,⟨g,mu,_,T,zyD F keep (Ne.symm hm.2.1) hm.2.2,
   tab_news N Sh hP keep ⟨Heap.get?_push_size _ rfl,hfn.1,hfn.2.1⟩ ⟨Heap.get?_push_of_some _ hoc,hcn.1,hcn.2.1⟩ (Heap.get?_push_of_some _ htb),
   tab_shape Sh hP (fun p hp=>⟨(fun e=>nomatch hfn.2.2.symm.trans ((congrArg s.heap.get? e).symm.trans (N p hp).1)),(fun e=>nomatch hcn.2.2.symm.trans ((congrArg s.heap.get? e).symm.trans (N p hp).1))⟩) hd hv fun q hq e=>O.TP q hq (c,P,qual) htab e⟩,L.ext ⟨fun p hp=>mC _ (mC _ hp),fun _ _ h=>h⟩⟩,mQ,mC _ mQ,hd,hv⟩
end
section
variable {G:Gl} {φ φ':Fx} {k:Nat} {R Rr Rc fz fz₁:zB} {μ μ₁:Mu} {loc loc₁:Loc} {H:Hp} {s:Shared} {Γ:MP} {T:Tab} {α β γ δ:Type}
inductive zwD (G:Gl) (φ:Fx) (R fz:zB) (μ:Mu) (r:Rs PV) (e:Value) (s:Shared):Prop
 |mk (φ₂:Fx) (g:Heap) (m:Str→Option Value) (ce:zB) (C:Nat) (H':Hp) (fz':zB) (μ':Mu) (er:r= .exc C H') (x:Ext fz μ fz' μ') (o:XO G φ₂ (ce++R) fz' μ' C H' e s) (en:yW φ φ₂ m g)
theorem lam_enter (D:Good G φ (k+1)) (O:GOk G) (S:Sat G φ R fz μ loc₁ H s)
  (ho:(f,kla_obj "<lambda>" qual params body scope clos pm c' ctv)∈fz) (hc':(c',oc)∈fz) (hd:oc.data= .fields vs) (hv:vs[1]? =some (.str qual t))
  (hbind:bindArgs (kla_fn "<lambda>" qual params body scope clos pm (.ref c') ctv) ⟨[],[]⟩=pure [])
  (hcell:∀ x∈scope.names,x.2≠ .cell) (hco:scope.isCoroutine=false) (hgen:scope.isGenerator=false) (hk:scope.kind= .function) (hxs:xs.Nodup) (hinj:∀ x y c,clos.lookup x=some c→clos.lookup y=some c→x=y)
  (hnl:∀ y∈xs,scope.names.lookup y≠some .local)
  (hcl:∀ (i:Nat) y,xs[i]? =some y→scope.names.lookup y=some .free→∃ c o ov,clos.lookup y=some c∧(c,o)∈R∧o.data= .cell ov∧∀ v,loc[i]? =some (some v)→∃ val,ov=some val∧VR G fz μ v val)
  (hF:fa loc H≠ .bad) (hE:∀ φ₂,Good G φ₂ k→φ₂.env.scope=scope→φ₂.xs=xs→φ₂.comp=none→EJ G φ₂ fa (eval body φ₂.env)) :
  codeAny (model G.prog G.w) φ.A (.call (.ref f) ⟨[],[]⟩) (fun r s'=>match r with
   | .ok (.ret v)=>QE (wV G) G φ R fz μ loc₁ (fa loc H) v s'
   | .ok _=>False
   | .error e=>zwD G φ R fz μ (fa loc H) e s') s:=by
 have S0:=S;obtain ⟨sm,m,vm,ce,⟨g,mu,tb,T,F,N,Sh⟩,L⟩:=S;have gt:=zaC D T;have X:G.K.In s.heap:=O.X.keeps fun b o e=>F.keep _ _ (gt.1.stays _ _ e);have hA:φ.A.frames=some (φ.fenv::φ.outer):=by rw [D.hA]; exact Around.frames_deeper D.B.stack
 refine oAAA (groundX (R:=fun _ _=>True) gt.1 F N hA D.hf D.hke) fun FG BG st _=> ?_;have nol:s.heap.NoLimit:=(O.T.keeps gt.1.stays).nolimit.keeps F.keep;have hde:=D.hde;have hun:=D.hun;have hroom2:xE (k+1)=xE k+8:=by unfold xE; lia
 have hunit2:zbE (k+1)=zbE k+20:=by unfold zbE; lia
 have hroom:φ.A.depth<recursionLimit:=by
  have:0<xE (k+1):=by unfold xE; lia
  lia
 have hf':=(N _ (mL _ ho)).1;have hcr:s.heap.CodeRec (.ref c') qual:=⟨c',oc,vs,t,rfl,(N _ (mL _ hc')).1,hd,hv⟩;refine kla_callFunE hroom hf' rfl hco hgen rfl hcr ?_;rw [hbind];refine wpAny_pure (wpAny_newFunctionEnv hcell (fun p hp=>nomatch hp) (fun h₁ hns hsb=>⟨nol.fresh _ hsb,?_⟩) hk);have hk₁:∀ b o,s.heap.get? b=some o→h₁.get? b=some o:=fun b o e=>hsb.extBut b o (Nat.ne_of_lt (Heap.lt_size e)) (Heap.get?_push_of_some _ e)
 let E':Env:=newEnv scope s.heap.objs.size mainGlobals clos (qual++ ".<locals>.") (some f) (.ref c') none builtinsNs
 let φ₂:Fx:=⟨φ.A.deeper E',φ.A,E',E',φ.fenv::φ.outer,hideAll s.heap ((fz++(mu++(tb++(ce++R)))).map (·.1)),s.heap.objs.size,xs,none,none,R,φ.s₀⟩
 have en:yW φ φ₂ m g:=⟨T,FG,rfl,rfl⟩;refine z0 (FG.ns) fun oL es ep hL hLd _ _=> ?_;have hfs:φ₂.fs=φ.L::φ.fs:=en.fs D;have D₂:Good G φ₂ k:={
  B:=BG
  D:=fun b hb=>by
   rw [hfs] at hb
   rcases mN hb with rfl|hb
   ·exact ⟨oL,es,ep,hL,hLd⟩
   ·refine wQ (gt.2 b hb) fun o es' n' ho' hd'=> ?_
    exact ⟨o,es',n',st b o ho',hd'⟩
  hA:=rfl
  hf:=rfl
  hf':=rfl
  hke:=hk
  hk:=hk
  hgl:=rfl
  hbu:=rfl
  hh:=D.hh
  hgu:=D.hgu
  hde:=by show φ.A.depth+1+xE k≤_; lia
  hun:=by show φ.A.units+3+zbE k≤_; lia
  hen:=fun _=>rfl
  hloc:=fun _=>rfl
  hcl:=fun C h=>by cases h
  nd:=hxs
  cinj:=hinj}
 have S₁:Sat G φ₂ (ce++R) fz μ loc H {s with heap:=h₁,toks:=s.toks+([]:List (Str×Value)).length}:=by
  refine ⟨sm,_,_,[],⟨hideAll s.heap ((fz++(mu++(tb++(ce++R)))).map (·.1)),mu,tb,.refl,⟨hns,fun b o e=>hk₁ b o (of_hideAll _ e),Nat.le_of_eq (hideAll_size _ _)⟩,fun p hp=> ?_,Sh⟩,(fun p hp=>nomatch hp),(fun p hp=>mR _ hp),⟨fun _=>rfl,fun C h=>by cases h⟩,fun i y hy=>⟨fun hl v hv=> ?_,fun hc=> ?_⟩⟩
  ·have hp':p∈fz++(mu++(tb++(ce++R))):=hp
   exact ⟨hk₁ _ _ (N p hp').1,Nat.ne_of_lt (Heap.lt_size (N p hp').1),hideAll_none _ (List.mem_map_of_mem hp')⟩
  ·exact absurd hl (hnl y (List.mem_of_getElem? hy))
  ·have hfree:scope.names.lookup y=some .free:=by
    rcases hc with hc|hc
    ·exact absurd rfl (hcell _ (wD hc))
    ·exact hc
   refine z0 (hcl i y hy hfree) fun c o ov q1 q2 q3 q4=> ?_;exact ⟨c,o,ov,q1,.inr ⟨.inl hfree,q2⟩,q3,q4⟩
 have hF₂:Fine φ₂ (fa loc H):=by
  revert hF
  cases fa loc H with
  |ok a H=>exact fun _=>trivial
  |exc C H=>exact fun _=>rfl
  |bad=>exact fun h=>absurd rfl h
 refine kla_codeExpr (wpAny_mono (hE φ₂ D₂ rfl rfl rfl (ce++R) fz μ loc H _ S₁ trivial hF₂) (fun v s' hq=> ?_) fun e s' hx=> ?_)
 ·obtain ⟨pv,H',fz',μ',er,ex,⟨sm',m',vm',ce',B',L'⟩,w⟩:=hq
  have Bb:Base G φ m (ce++R) fz' μ' H' s'.heap:=en.back D (B'.sub fun p hp=>mR _ hp);exact ⟨pv,H',fz',μ',er,ex,⟨sm',m,vm,ce,Bb,L.ext ex⟩,w⟩
 ·exact wpAny_mono hx.2 (fun _ s'' h_=>by obtain ⟨C,H',fz',μ',er,ex,X⟩:=h_; exact ⟨φ₂,g,m,ce,C,H',fz',μ',er,ex,X,en⟩) fun _ _ z=>z.elim
end
section
variable {prog:Program} {w:World} {A₀:Around} {E:Value→Shared→Prop} {s':Shared} {base g g₀ G:Heap} {outer:List Env} {L a e:Addr} {m:Str→Option Value} {name:Str} {scope:Scope} {cd cls:Value}
 {n:Str} {b₀:Stmt} {suite:List Stmt} {pos:Pos} {Q:Flow→Shared→Prop} {news:List (Addr×Obj)} {KF:Frag} {tt:Expr} {p:Program} {loose:List Str} {mean:ExcName→Option Value} {mg mb:Str→Option Value}
theorem hit_own (R:RaisedSN base G (envOf name scope L a cd::outer) e cls news s'.heap) (F:Fr g L G m) (K:Below A₀ base outer g) (hsm:G.UpToSlots s'.heap) (XB:KF.In base) (TB:Top p loose mean mg mb base)
  (D:KtsDicts (outer.filterMap (·.frame)) g) (T0:KtsTurn (outer.filterMap (·.frame)) g₀ g) (T:KtsTest prog w KF p loose mg mb name scope L a cd cls tt true)
  (k:∀ h' g' tk oe ws,KtsTurn (outer.filterMap (·.frame)) g₀ g'→Fr g' L h' (fun y=>if y=n then some (.ref e) else m y)→News g' L h' ((e,oe)::news)→oe.cls=cls→oe.data= .fields ws→(∀ q∈news,q.1≠e) →
   wpAny (model prog w) ((A₀.deeper (envOf name scope L a cd)).mark (some (.ref e))) (execs (b₀::suite) (envOf name scope L a cd))
    (fun f s₄=>wpAny (model prog w) (A₀.deeper (envOf name scope L a cd)) (do bindName (envOf name scope L a cd) n .none; unbindBehindTheSuite (envOf name scope L a cd) n pos) (fun _ s₅=>Q f s₅) E s₄)
    (AsSuiteRaised (model prog w) ((A₀.deeper (envOf name scope L a cd)).mark (some (.ref e))) (envOf name scope L a cd) n pos (notedBy (model prog w) ((A₀.deeper (envOf name scope L a cd)).mark (some (.ref e))) (envOf name scope L a cd) (cameBackBy (model prog w) (A₀.deeper (envOf name scope L a cd)) (envOf name scope L a cd) E)))
    {s' with heap:=h',toks:=tk})
  (hk:scope.kind= .function) (hlo:(envOf name scope L a cd).kindOf n=some .local) :
  wpAny (model prog w) (A₀.deeper (envOf name scope L a cd)) (handleBy (.ref e) (envOf name scope L a cd) [.ExceptHandler (some tt) (some n) (b₀::suite) pos]) Q E s':=by
 have R':=R;refine xC R' fun B₁ a1 _ hBG₁ _ hfl₁=> ?_; (try clear R');refine oEAA (kts_ground K F hBG₁ hfl₁.1 hsm) fun g₅ T₅ F₅ K₅=> ?_;refine wpAny_handleBy_cons (codeAny_handlers_test (T _ _ _ _ g₅ e m F₅ (XB.keeps K₅.stays) (topRead_of (TB.keeps K₅.stays)) R.ty fun h₅ kp=> ?_)) (by intro q; cases q);have hsm₅:G.UpToSlots h₅:=hsm.trans (Heap.UpToSlots.of_keeps kp);refine xC (R.keeps kp) fun B a0 hB hBG hl hheld=> ?_;have hL:B.get? L=none:=by
  refine oAA (hheld.2.2.1) fun _ o1_ _=> ?_; obtain ⟨L',_,hf,hn',_⟩:=o1_;obtain rfl:L=L':=Option.some.inj hf;exact hn'
 refine codeAny_handlers_suite_as ?_;refine lands_againW hheld fun h₆ hfl₆ hsm₆=> ?_;refine oEAA (kts_ground K F hBG hfl₆.1 (hsm₅.trans hsm₆)) fun g₆ T₆ F₆ K₆=> ?_;refine xC (hfl₆.first) fun oe ws hoe hoec hoed hoe0=> ?_;have ne₆:g₆.get? e=none:=T₆.none_ _ (kts_fresh F hBG hfl₆.2.1 fun o ho m=>by
  refine oAEA (K.frames.mem m) fun _ o' ho' hd=> ?_;rw [ho] at ho';cases ho';obtain ⟨sl,hs⟩:=(hsm₅.trans hsm₆) _ _ (F.keep _ _ ho) hd;rw [hoe] at hs;cases hs;exact hd _ hoed)
 have hne:∀ q∈news,q.1≠e:=fun q hq z=>by
  have h1:=(hl q hq).1;rw [z,hfl₆.2.1] at h1; cases h1
 have hLe:e≠L:=fun z=>by
  refine zY (F₆.ns) fun oL es ep hoL hLd _=> ?_;rw [← z,hoe] at hoL; cases hoL;rw [hoed] at hLd; cases hLd
 have Nl:News g₆ L h₆ ((e,oe)::news):=fun q hq=>by
  rcases mN hq with rfl|hq
  ·exact ⟨hoe,hLe,ne₆⟩
  ·exact ⟨hfl₆.1 _ _ (hl q hq).1,(fun z=>by have:=(hl q hq).1; rw [z,hL] at this; cases this),T₆.none_ _ (kts_none F.keep (hl q hq).2.1)⟩
 refine stN F₆ Nl (fun h₇ F₇ N₇=> ?_) hk hlo;exact k h₇ g₆ _ oe ws (T0.trans T₆) F₇ N₇ hoec hoed hne
end
noncomputable abbrev zdD (np cp p1 tp rp ep p2 fp tp2 rp2 hp pos:Pos) (k1 k2 k3 k4:Nat):List Stmt :=
 [.Try [.Return (some (.Tuple [.Call (.Name "deed" np) [] [] cp,.Constant .none k1 p1] k2 tp)) rp]
  [.ExceptHandler (some (.Name "PaperError" ep)) (some "fault") [.Return (some (.Tuple [.Constant .none k3 p2,.Name "fault" fp] k4 tp2)) rp2] hp] [] [] pos]
noncomputable def zbG (r:Rs PV):Rs PV:=match r with
 | .ok v H=>.ok (.tup [v,.none]) H
 | .exc C H=>if sub C 0 then .ok (.tup [.none,.exc C]) H else .bad
 | .bad=>.bad
section
variable {G:Gl} {φ:Fx} {k:Nat} {R fz:zB} {μ:Mu} {H:Hp} {s:Shared}
theorem yH.add1 (S:yH G R fz μ H mu tb) (h:∀ q∈fz++(mu++(tb++R)),q.1≠p.1):yH G R (p::fz) μ H mu tb :=
 S.ext (fun _=>mC _) (fun m hm q hq=>(mN hq).elim (fun e=>e▸Ne.symm (h m (mR _ (mL _ hm)))) fun hq=>S.sepM m hm q (mL _ hq))
  fun q hq r hr=>(mN hq).elim (fun e=>e▸h r (mR _ (mR _ hr))) fun hq=>S.sepF q hq r hr
theorem yH.less (S:yH G R fz μ H mu tb) (h:∀ q∈R',q∈R):yH G R' fz μ H mu tb :=
 ⟨S.len,S.live,S.own,S.inj,fun p hp q hq=>S.sepM p hp q ((mP hq).elim (mL _) fun hq=>mR _ ((mP hq).elim (mL _) fun hq=>mR _ (h q hq))),
  fun p hp q hq=>S.sepF p hp q ((mP hq).elim (mL _) fun hq=>mR _ (h q hq)),fun p hp q hq=>S.sepT p hp q (h q hq),S.fun_,S.tab,S.tfun⟩
theorem less4 (h:∀ q∈R',q∈R):∀ q∈fz++(mu++(tb++R')),q∈fz++(mu++(tb++R)):=fun q hq=>by
 simp only [List.mem_append] at hq ⊢;exact hq.imp id fun h'=>h'.imp id fun h'=>h'.imp id (h q)
theorem News.ne_new (N:News g L h l):∀ q∈l,q.1≠h.objs.size:=fun q hq e=>by
 have:=(N q hq).1;rw [e,Heap.get?_none_of_le (Nat.le_refl _)] at this; cases this
theorem News.pushed (F:Fr g L h m) (N:News g L h l) (hf:o.isFreed=false):News g L (h.push o) ((h.objs.size,o)::l):=fun q hq=>by
 rcases mN hq with rfl|hq
 ·refine ⟨Heap.get?_push_size _ hf,Nat.ne_of_gt F.ns.lt,?_⟩
  cases z:g.get? h.objs.size with
  |none=>rfl
  |some o=>have:=F.keep _ _ z; rw [Heap.get?_none_of_le (Nat.le_refl _)] at this; cases this
 ·exact ⟨Heap.get?_push_of_some _ (N q hq).1,(N q hq).2⟩
theorem wpAbs {M:Model} {A:Around} {α:Type} {t:Sem α} {Q₀:α→Shared→Prop} {E₀:Value→Shared→Prop} {s:Shared} (h:∀ Q E,(∀ a s,Q₀ a s→Q a s)→(∀ e s,E₀ e s→E e s)→wpAny M A t Q E s):wpAny M A t Q₀ E₀ s:=h _ _ (fun _ _ h=>h) fun _ _ h=>h
theorem ybA {prog:Program} {w:World} {A:Around} {env:Env} {Q:Flow→Shared→Prop} {E:Value→Shared→Prop} {a b:Expr} (hst:backTo tp (starEach [a,b] env)=[(false,eval a env),(false,eval b env)])
  (h:wpAny (model prog w) A (eval a env) (fun v s1=>wpAny (model prog w) A (eval b env) (fun u s2=>wpAny (model prog w) A (newTuple [v,u]) (fun t s3=>Q (.ret t) s3) E s2) E s1) E s) :
  wpAny (model prog w) A (execs [.Return (some (.Tuple [a,b] k tp)) rp] env) Q E s:=by
 refine wpAny_execs_cons (wpAny_Return_some ?_);rw [arm_eval_Tuple,hst];exact wpAny_bind (wpAny_standAt (wpAny_bind (spliced_cons (wpAny_mono h (fun v s1 h1=>spliced_cons (wpAny_mono h1 (fun u s2 h2=>spliced_nil h2) fun _ _ z=>z)) fun _ _ z=>z))))
theorem tried_in (D:Good G φ (k+1)) (S:Sat G φ R fz μ [] H s) (hlk:φ.env.kindOf "deed" =some .local) (hc0:φ.comp=none) (hns:s.heap.Ns φ.L mm) (hdeed:mm "deed" =some (.ref f)) (hof:(f,o)∈fz) (hofd:o.data= .func fd) {Q:Flow→Shared→Prop} {E:Value→Shared→Prop}
  (hcall:codeAny (model G.prog G.w) φ.A (.call (.ref f) ⟨[],[]⟩) (fun r s'=>match r with
   | .ok (.ret v)=>wpAny (model G.prog G.w) φ.A (newTuple [v,.none]) (fun t s3=>Q (.ret t) s3) (fun _ _=>False) s'
   | .ok _=>False
   | .error e=>E e s') s):wpAny (model G.prog G.w) φ.A (execs [.Return (some (.Tuple [.Call (.Name "deed" np) [] [] cp,.Constant .none k1 p1] k2 tp)) rp] φ.env) Q E s:=by
 refine ybA rfl (wpAny_Call_ofName (wpAny_Name (wpAny_loadName_local D.hk hlk (m:=mm) (by rw [D.hloc hc0]; exact hns) hdeed ?_) (by decide)));refine callWith_of (P:=fun h=>h.get? f=some o) rfl (fun h hh=>⟨.frame,.inl rfl,(Looks.ld (part:=none) hh).andThen (by rw [hofd]; exact .now)⟩) (evalArgs_nil3 ⟨S.P D (.inr hof),?_⟩);refine wpAny_call (codeAny_mono hcall fun r s1 hr=> ?_);cases r with
 |error e=>exact hr
 |ok fl=>cases fl with
  |ret v=>exact wpAny_Constant_none (wpNo hr)
  |_=>exact hr.elim
theorem same_of {a b c:Shared} (h:same a c) (e:a=b):same b c:=e▸h
theorem tried_ans (D:Good G φ (k+1)) (S:Sat G φ R fz μ [] H s) (hc0:φ.comp=none) (hxs0:φ.xs=[]) (hd2:scope1.names.lookup ("fault" : Str)=some .local) (hk1:scope1.kind= .function)
  (sm:same φ.s₀ s1) (T2:KtsTurn φ.fs φ.h₀ g2) (F2:Fr g2 φ.L h2 m) (N2:News g2 φ.L h2 ((a,oe)::(fz1++(mu++(tb++(ce++R)))))) (Sh:yH G (ce++R) fz1 μ1 H1 mu tb) (hoc:oe.cls= .ref (G.ca C)) (hod:oe.data= .fields ws) (hne:∀ q∈fz1++(mu++(tb++(ce++R))),q.1≠a)
  (x1:Ext fz μ fz1 μ1) {E:Value→Shared→Prop} {Q:Flow→Shared→Prop} (hQ:∀ a s,QS G φ R fz μ (.ok (.ret (.tup [.none,.exc C])) H1) a s→Q a s) :
  wpAny (model G.prog G.w) φ.A (do bindName (envOf qual1 scope1 φ.L f1 cd1) "fault" .none; unbindBehindTheSuite (envOf qual1 scope1 φ.L f1 cd1) "fault" hp) (fun _ s5=>Q (.ret (.ref h2.objs.size)) s5) E {s1 with heap:=h2.push (tupO [.none,.ref a] 0),toks:=tk}:=by
 have F3:Fr g2 φ.L (h2.push (tupO [.none,.ref a] 0)) m:=F2.push _;refine wpAny_nameGoes hd2 F3.ns (by show (scope1.kind== .class||(scope1.kind== .module&&_))=false; rw [hk1]; rfl) fun h3 m3 hn3 hs3=> ?_
 have N4:=(News.pushed (o:=tupO [.none,.ref a] 0) F2 N2 rfl).set hs3;have fresh:=News.ne_new N2;have ex2:Ext fz1 μ1 ((h2.objs.size,tupO [.none,.ref a] 0)::(a,oe)::fz1) μ1:=⟨fun p hp=>mC _ (mC _ hp),fun _ _ h=>h⟩;have Sh2:yH G R ((h2.objs.size,tupO [.none,.ref a] 0)::(a,oe)::fz1) μ1 H1 mu tb :=
  ((Sh.less fun q=>mR _).add1 (p:=(a,oe)) fun q hq=>hne q (less4 (fun q=>mR _) q hq)).add1 fun q hq => (mN hq).elim (fun e=>e▸fresh _ mQ) fun hq=>fresh _ (mC _ (less4 (fun q=>mR _) q hq))
 obtain ⟨_,m0,vm0,ce0,B0,L0⟩:=S;have hv:VR G ((h2.objs.size,tupO [.none,.ref a] 0)::(a,oe)::fz1) μ1 (.tup [.none,.exc C]) (.ref h2.objs.size):=zwI (n:=0) (.inr mQ) (by rw [yfE]; exact (by decide:2≤65536)) ⟨VR.none,VR.exc C a oe ws (.inr (mC _ mQ)) hoc hod,trivial⟩;refine hQ _ _ ⟨.ret _,H1,_,μ1,[],rfl,x1.trans ex2,⟨sm,m3,m3,[],⟨g2,mu,tb,T2,F3.set hn3 hs3,fun q hq=>N4 q ?_,Sh2⟩,(fun p hp=>nomatch hp),L0.rcR,⟨fun _=>rfl,fun C h=>by rw [hc0] at h; cases h⟩,fun i y hy=>by rw [hxs0] at hy; simp at hy⟩,hv⟩;exact (mN hq).elim (fun e=>e▸mQ) fun hq=>mC _ ((mN hq).elim (fun e=>e▸mQ) fun hq=>mC _ (less4 (fun q=>mR _) q hq))
theorem triedR_exc (h:sub C 0=true):zbG (.exc C H)= .ok (.tup [.none,.exc C]) H:=if_pos h
theorem tried_body (D:Good G φ (k+1)) (O:GOk G) (S:Sat G φ R fz μ [] H s) (henv:φ.env=envOf qual1 scope1 φ.L f1 cd1) (hef:φ.env=φ.fenv) (hc0:φ.comp=none) (hxs0:φ.xs=[])
  (hd1:scope1.names.lookup ("deed" : Str)=some .local) (hd2:scope1.names.lookup ("fault" : Str)=some .local) (hd3:scope1.names.lookup ("PaperError" : Str)=some .globalImplicit)
  (hPE:nsIn G.K mainGlobals "PaperError" =some (some (.ref (G.ca 0)))) (hex:∀ C,sub C 0=true→exmOne G.K (.ref (G.ca C)) (.ref (G.ca 0))=some true)
  (hns:s.heap.Ns φ.L mm) (hdeed:mm "deed" =some (.ref f)) (hfun:∃ o fd,(f,o)∈fz∧o.data= .func fd)
  (hcall:∀ s',Sat G φ R fz μ [] H s'→codeAny (model G.prog G.w) φ.A (.call (.ref f) ⟨[],[]⟩) (fun r s'=>match r with
   | .ok (.ret v)=>QE (wV G) G φ R fz μ [] ra v s'
   | .ok _=>False
   | .error e=>zwD G φ R fz μ ra e s') s')
  (hF:zbG ra≠ .bad) :
  wpAny (model G.prog G.w) φ.A (execs (zdD np cp p1 tp rp ep p2 fp tp2 rp2 hp pos k1 k2 k3 k4) φ.env) (QS G φ R fz μ ((zbG ra).bind fun v H=>.ok (Fl.ret v) H)) (EX G φ R fz μ ((zbG ra).bind fun v H=>.ok (Fl.ret v) H)) s:=by
 have hk1:scope1.kind= .function:=by have:=D.hk; rw [henv] at this; exact this
 refine wpAbs fun Q E hQ hE=> ?_;refine oEEA hfun fun o fd hof hofd=> ?_; (try clear hfun);refine wpAny_execs_cons (wpAny_Try_except (tried_in D S (by rw [henv]; exact hd1) hc0 hns hdeed hof hofd (codeAny_mono (hcall s S) fun r s1 hr=> ?_)));clear hcall hE;cases r with
 |ok fl =>
  cases fl with
  |ret v =>
   obtain ⟨pv,H1,fz1,μ1,er,x1,S1,w1⟩:=hr;have hq:VRs G fz1 μ1 [pv,.none] [v,.none]:=⟨w1,VR.none,trivial⟩;refine wpAny_mono (zkH S1 hq (by rw [yfE]; exact (by decide:2≤65536))) (fun t s2 h_=> ?_) fun _ _ z=>z;obtain ⟨fz2,μ2,x2,S2,w2⟩:=h_;subst er;exact hQ _ _ ⟨.ret _,H1,fz2,μ2,[],rfl,x1.trans x2,S2,w2⟩
  |_=>exact hr.elim
 |error e =>
  obtain ⟨φ₂,g,m,ce,C,H1,fz1,μ1,er,x1,⟨a,mu,tb,ea,sm,RS,hup,Sh⟩,en⟩:=hr;have hsub:sub C 0=true:=by
   cases h:sub C 0 with
   |true=>rfl
   |false=>exact absurd (by rw [er]; exact if_neg (by rw [h]; exact Bool.false_ne_true)) hF
  have gt:=zaC D en.T;have hfe:φ.fenv=envOf qual1 scope1 φ.L f1 cd1:=by rw [← hef,henv]
  have hA:φ.A=φ.A₀.deeper (envOf qual1 scope1 φ.L f1 cd1):=by rw [D.hA,hfe]
  rw [en.out,hfe] at RS;have hQ':∀ a s,QS G φ R fz μ (.ok (.ret (.tup [.none,.exc C])) H1) a s→Q a s:=fun a s h=>hQ a s (by rw [er,triedR_exc hsub]; exact h);clear hQ hF er;subst ea;show wpAny _ φ.A (noteFrame (.ref a) φ.env) (fun _ s₂=>wpAny _ φ.A (setFlight (.ref a) none) (fun _ s₃=>wpAny _ φ.A (handleBy (.ref a) φ.env _) _ _ s₃) _ s₂) _ s1;generalize hφA:φ.A=Aφ;rw [hφA] at hA;subst hA;rw [henv];refine kts_lookSN RS en.F gt.1 hup gt.2 fun h1 RS1 hup1=> ?_;refine hit_own (tt:= .Name "PaperError" ep) RS1 en.F gt.1 hup1 O.X O.T gt.2 en.T (test_name (c:=.ref (G.ca 0)) (.inl hPE) (hex C hsub) hk1 hd3 (by decide)) (fun h2 g2 tk oe ws T2 F2 N2 hoc hod hne=> ?_) hk1 hd2;refine ybA rfl (wpAny_Constant_none (wpAny_Name (wpAny_loadName_local hk1 hd2 F2.ns (v:=.ref a) (if_pos rfl) (wpAny_newTuple ?_ (by show 2≤sizeLine; decide +kernel))) (by decide)));exact hφA▸tried_ans D S hc0 hxs0 hd2 hk1 (same_of sm en.s₀) T2 F2 N2 Sh hoc hod hne x1 hQ'
end
theorem zcA:∀ {names:List (Str×NameKind)} {n:Nat} {acc:List (Str×Addr)},(∀ p∈names,p.2≠ .cell)→cellsFrom n names acc=acc:=by
 intro l0
 induction l0 with
 |nil =>
  intro _ _ _;exact rfl
 |cons p_ r ih =>
  obtain ⟨x,k⟩:=p_;intro n;intro acc;intro h;unfold cellsFrom;have:(k==NameKind.cell)=false:=beq_eq_false_iff_ne.mpr (h _ mQ);rw [this,if_neg (by simp)];exact ih fun p hp=>h p (mC _ hp)
noncomputable def ymH (sc:Scope) (xs:List Str) (scope:Scope):Bool :=
 scope.kind== .function&& !scope.isCoroutine&& !scope.isGenerator&&decide ((scope.names.map (·.1)).Nodup) &&
  scope.names.all fun p=>match p.2 with
   | .free=>(sc.names.lookup p.1==some .cell||sc.names.lookup p.1==some .free)&&xs.contains p.1
   | .globalImplicit=>true
   |_=>false
theorem lamOk_at (h:ymH sc xs scope=true):scope.kind= .function∧scope.isCoroutine=false∧scope.isGenerator=false∧(scope.names.map (·.1)).Nodup ∧
  ∀ p∈scope.names,(p.2= .free∧(sc.names.lookup p.1=some .cell∨sc.names.lookup p.1=some .free)∧p.1∈xs)∨p.2= .globalImplicit:=by
 unfold ymH at h;simp only [Bool.and_eq_true,beq_iff_eq,List.all_eq_true,Bool.not_eq_true',decide_eq_true_eq] at h;obtain ⟨⟨⟨⟨h1,h2⟩,h3⟩,h4⟩,h5⟩:=h;refine ⟨h1,h2,h3,h4,fun p hp=> ?_⟩;have:=h5 p hp
 split at this
 ·rename_i e
  simp only [Bool.and_eq_true,Bool.or_eq_true,beq_iff_eq] at this;exact .inl ⟨e,this.1,by simpa using this.2⟩
 ·rename_i e; exact .inr e
 ·cases this
inductive TryFn (G:Gl) (fT:Addr):Prop
 |mk (oc:Value) (od:Option Addr) (name qual:Str) (params:Arguments) (scope:Scope) (dV kV doc pm:Value) (an:Option Addr) (cdv ct:Value) (osl:Array (Option Value)) (np cp p1 tp rp ep p2 fp tp2 rp2 hp pos:Pos) (k1 k2 k3 k4:Nat)
  (q0:G.K.lookup fT=some ⟨oc,od,.func (fnX name qual params (zdD np cp p1 tp rp ep p2 fp tp2 rp2 hp pos k1 k2 k3 k4) scope [] dV kV doc pm an cdv ct),osl⟩) (q1:codeIn G.K cdv qual=true) (q2:(∀ (s:Shared) v,G.K.In s.heap→BindsTo s (fnX name qual params (zdD np cp p1 tp rp ep p2 fp tp2 rp2 hp pos k1 k2 k3 k4) scope [] dV kV doc pm an cdv ct) ⟨[v],[]⟩ [("deed",v)])) (q3:(∀ p∈scope.names,p.2≠ .cell)) (q4:scope.isCoroutine=false) (q5:scope.isGenerator=false) (q6:scope.kind= .function) (q7:scope.names.lookup ("deed" : Str)=some .local) (q8:scope.names.lookup ("fault" : Str)=some .local) (q9:scope.names.lookup ("PaperError" : Str)=some .globalImplicit)
structure ynA (G:Gl) (fT:Addr):Prop where
 rec_:TryFn G fT
 pe:nsIn G.K mainGlobals "PaperError" =some (some (.ref (G.ca 0)))
 ex:∀ C,sub C 0=true→exmOne G.K (.ref (G.ca C)) (.ref (G.ca 0))=some true
 keep:keepIn G.K (.ref fT)=true
 nm:nsIn G.K mainGlobals "_law_tried" =some (some (.ref fT))
section
variable {G:Gl} {φ:Fx} {k:Nat} {R fz:zB} {μ:Mu} {loc:Loc} {H:Hp} {s:Shared}
theorem Near.self (D:Good G φ (k+1)):Near φ φ.A k:=by
 have h1:xE (k+1)=xE k+8:=by unfold xE; lia
 have h2:zbE (k+1)=zbE k+20:=by unfold zbE; lia
 have h3:=D.hde;have h4:=D.hun;refine ⟨?_,D.hh,D.hgu,by lia,by lia⟩;rw [D.hA]; exact Around.frames_deeper D.B.stack
theorem outR_ret:outR (r.bind fun v H=>.ok (Fl.ret v) H)=r:=by cases r <;> rfl
theorem ej_tried (D:Good G φ (k+2)) (O:GOk G) (TO:ynA G fT)
  (hkn:φ.env.kindOf "_law_tried" =some .globalImplicit) (hcode:φ.env.code= .ref c) (htab:(c,P,φ.env.qual++ "<lambda>")∈G.tabs) (hdef:defaultsOf params φ.env=([],[]))
  (hbind:∀ qual body scope cl pm cd ct,bindArgs (kla_fn "<lambda>" qual params body scope cl pm cd ct) ⟨[],[]⟩=pure [])
  (hok:ymH φ.env.scope φ.xs scopeL=true) (hE:∀ φ₂,Good G φ₂ k→φ₂.env.scope=scopeL→φ₂.xs=φ.xs→φ₂.comp=none→EJ G φ₂ fa (eval bodyE φ₂.env)) :
  EJ G φ (fun loc H=>zbG (fa loc H)) (eval (.Call (.Name "_law_tried" np) [.Lambda params bodyE scopeL posL] [] pos) φ.env):=by
 intro R fz μ loc H s S hΓ hF;dsimp only at hF ⊢;refine zxH (lamOk_at hok) fun l1 l2 l3 l4 l5=> ?_;obtain ⟨oc,od,name,qual,tparams,scope,dV,kV,doc,pm,an,cdv,ct,osl,np',cp,p1,tp,rp,ep,p2,fp,tp2,rp2,hp,pos',k1,k2,k3,k4,hlook,hcd,hbT,hnc,hco,hgen,hkk,hd1,hd2,hd3⟩:=TO.rec_;have hbad:zbG (fa loc H)≠ .bad:=fun e=>by rw [e] at hF; exact hF
 have hbad2:fa loc H≠ .bad:=fun e=>hbad (by rw [e]; rfl);refine wpAny_Call_ofName (xU D O S hkn TO.nm (by decide) ?_);have estar:backTo pos (starEach [.Lambda params bodyE scopeL posL] φ.env)=[(false,eval (.Lambda params bodyE scopeL posL) φ.env)]:=rfl;rw [estar];refine callWith_of (P:=fun h=>G.K.In h) rfl (fun h hh=>keeps_K TO.keep h hh) (evalArgs_plain (spliced_cons (kla_eval hdef ?_)));have hcells:∀ p∈scopeL.names,p.2= .free→(φ.env.cells.lookup p.1).isSome=true:=fun p hp hf=>by
  obtain ⟨sm,m,vm,ce,B,L⟩:=S
  rcases l5 p hp with ⟨_,z,hm⟩|z
  ·obtain ⟨j,hj⟩:=List.getElem?_of_mem hm
   refine wQ ((L.at_ j p.1 hj).2 z) fun c o ov q1 _=> ?_;rw [q1]; rfl
  ·rw [hf] at z; cases z
 refine wpNo (wpAny_mono (lam_make D O S hcode htab (ylB hcells)) (fun v s1 h_=> ?_) fun _ _ z=>z);obtain ⟨f,c',oc',vs,t,ctv,pm',fz1,hv,x1,S1,m1,m2,m3,m4⟩:=h_;subst hv;refine spliced_nil ⟨S1.X D O,?_⟩;have hcr:outR ((fun (_:Loc) H=>(zbG (fa loc H)).bind fun v H=>.ok (Fl.ret v) H) [] H)=zbG (fa loc H):=outR_ret;refine wpAny_call (codeAny_mono (R:=CQ G φ R fz1 μ loc (outR ((fun (_:Loc) H=>(zbG (fa loc H)).bind fun v H=>.ok (Fl.ret v) H) [] H))) ?_ fun r s2 hr=> ?_)
 ·refine enter (fb:=fun _ H=>(zbG (fa loc H)).bind fun v H=>.ok (Fl.ret v) H) (xs:=[]) (loc':=[]) (binds:=[("deed",.ref f)]) D O (Near.self D) S1 hlook hcd (hbT s1 _ (S1.X D O)) ?_ ?_ (by simp) .nil (fun x hx=>nomatch hx) (fun i x v hx=>by simp at hx) hco hgen hkk (by rw [hcr]; exact hF) ?_
  ·simp [hd1]
  ·rw [zcA hnc]; exact .nil
  ·intro φ' R' s2 D' he hxs hcomp hef hRR hns S2 hoc hF'
   have hen:φ'.env=envOf qual scope φ'.L fT cdv:=by
    rw [he];show ({scope:=scope,locals:=φ'.L,globals:=mainGlobals,cells:=cellsFrom (φ'.L+1) scope.names [],qual:=qual++ ".<locals>.",func:=some fT,code:=cdv,frame:=some φ'.L,builtins:=builtinsNs}:Env)=_;rw [zcA hnc]
    rfl
   refine tried_body D' O S2 hen hef hcomp hxs hd1 hd2 hd3 TO.pe TO.ex hns (zaD (bs:=[("deed",.ref f)]) ?_ (by simp) (.inl mQ)) (ra:=fa loc H) ⟨_,_,m1,rfl⟩ (fun s3 S3=> ?_) hbad
   ·rw [hen]; exact hd1
   ·refine lam_enter (loc:=loc) (xs:=φ.xs) D' O S3 m1 m2 m3 m4 (hbind _ _ _ _ _ _ _) (fun p hp e=> ?_) l2 l3 l1 D.nd (fun a b c h1 h2=> ?_) (fun y hy e=> ?_) (fun i y hy hfree=> ?_) hbad2 hE
    ·rcases l5 p hp with ⟨z,_⟩|z <;> rw [e] at z <;> cases z
    ·have sub:=fun y c h=>zlJ (env:=φ.env) (names:=scopeL.names) (acc:=[]) (y:=y) (c:=c) (fun y c h=>nomatch h) h
     exact D.cinj a b c (sub a c h1) (sub b c h2)
    ·rcases l5 _ (wD e) with ⟨z,_⟩|z <;> cases z
    ·have hm:=wD hfree
     rcases l5 _ hm with ⟨_,z,_⟩|z
     ·refine z0 (hoc i y hy z) fun cc o ov q1 q2 q3 q4=> ?_
      have hcs:=zoE (env:=φ.env) q1 (names:=scopeL.names) (acc:=[]) (.inr hm);obtain ⟨c2,hc2⟩:=Option.isSome_iff_exists.mp hcs;have e:=zlJ (env:=φ.env) (names:=scopeL.names) (acc:=[]) (fun y c h=>nomatch h) hc2;rw [q1] at e;have e':cc=c2:=Option.some.inj e;subst e';exact ⟨cc,o,ov,hc2,q2,q3,q4⟩
     ·cases z
 ·rw [hcr] at hr
  cases r with
  |ok fl =>
   cases fl with
   |ret v =>
    obtain ⟨pv,H',fz',μ',e,x,S',w⟩:=hr;exact ⟨pv,H',fz',μ',e,x1.trans x,S',w⟩
   |_=>exact hr.elim
  |error e=>exact EX.up x1 (fun _ _ q=>q) hr
end
theorem below_push
  (K:Below A base outer h₀) (F:Fr h₀ L h m) (hf:env.frame=some L) (hk:env.scope.kind= .function):Below (A.deeper env) base (env::outer) h:=by
 have hnew:base.get? L=none:=by
  cases hq:base.get? L with
  |none=>rfl
  |some o=>exact absurd (Nat.lt_of_lt_of_le (Heap.lt_size (K.stays L o hq)) F.above) (Nat.lt_irrefl _)
 refine ⟨Around.frames_deeper K.stack,fun b o e=>F.keep b o (K.stays b o e),?_⟩;exact .cons (by rw [hk]; decide) hf F.ns hnew (K.frames.of_keeps fun b o e _=>⟨o,F.keep b o e,rfl⟩)
section
variable {G:Gl} {φ:Fx} {k:Nat} {R fz:zB} {μ:Mu} {loc:Loc} {H:Hp} {s s':Shared}
theorem raised_ex (D:Good G φ k) (O:GOk G) (S:Sat G φ R fz μ loc H s) (hc:φ.comp=none) (hs':same φ.s₀ s')
  (keep:∀ b o,s.heap.get? b=some o→s'.heap.get? b=some o) (new:s.heap.get? e=none) (he:s'.heap.get? e=some oe) (hcls:oe.cls= .ref (G.ca C)) (hd:oe.data= .fields vs)
  (h1:vs[1]? =some .none) (h0:vs[0]? =some tp):EX G φ R fz μ (.exc C H:Rs α) (.ref e) s':=by
 obtain ⟨sm,m,vm,ce,B0,L⟩:=S;obtain ⟨g,mu,tb,T,F,N,Sh⟩:=B0.sub (R':=R) fun p hp=>mR _ hp;have gt:=zaC D T;have K':=below_push gt.1 F D.hf D.hke;refine ⟨hc,?_⟩;have hin:∀ env∈(φ.fenv::φ.outer),∀ b,env.frame=some b→b∈(φ.fenv::φ.outer).filterMap (·.frame):=fun env he b hb=>List.mem_filterMap.mpr ⟨env,he,hb⟩;have st:G.base.StaysIn (hideAll s.heap ((φ.fenv::φ.outer).filterMap (·.frame))):=fun b o q=>hideAll_get _ (K'.stays b o q) fun hm=>by rw [(K'.frames.mem hm).1] at q; cases q
 have sg:∀ b o,φ.h₀.get? b=some o→b∉φ.outer.filterMap (·.frame)→(hideAll s.heap ((φ.fenv::φ.outer).filterMap (·.frame))).get? b=some o:=fun b o q nm=>hideAll_get _ (F.keep b o (T.other b o q nm)) fun hm=>by
  rcases yiI D.hf hm with z|z
  ·have:=T.other b o q nm
   rw [z,kts_self F] at this;cases this
  ·exact nm z
 have hn:∀ q∈fz++(mu++(tb++R)),φ.h₀.get? q.1=none:=fun q hq=>by
  cases z:φ.h₀.get? q.1 with
  |none=>rfl
  |some o =>
   obtain ⟨sl,hs⟩:=T.up z;rw [(N q hq).2.2] at hs; cases hs
 have hl:∀ q∈fz++(mu++(tb++R)),(hideAll s.heap ((φ.fenv::φ.outer).filterMap (·.frame))).get? q.1=some q.2∧φ.h₀.get? q.1=none∧G.base.get? q.1=none:=fun q hq=>by
  refine ⟨hideAll_get _ (N q hq).1 fun hm=> ?_,hn q hq,fresh_of_stays gt.1.stays (N q hq).2.2⟩
  rcases yiI D.hf hm with z|z
  ·exact (N q hq).2.1 z
  ·refine oEA ((gt.1.frames.mem z).2) fun o ho _=> ?_
   rw [(N q hq).2.2] at ho; cases ho
 have hen:(hideAll s.heap ((φ.fenv::φ.outer).filterMap (·.frame))).get? e=none:=by
  cases q:(hideAll s.heap ((φ.fenv::φ.outer).filterMap (·.frame))).get? e with
  |none=>rfl
  |some o=>have:=of_hideAll _ q; rw [new] at this; cases this
 have hA:φ.A.frames=some (φ.fenv::φ.outer):=by rw [D.hA]; exact K'.stack
 refine wpAny_leaving_firstW (a0:=tp) hA ((funFrames_hide K'.frames hin).of_keeps fun b o hb _=>⟨o,keep b o hb,rfl⟩) D.hf he (fun b o hb=>keep b o (of_hideAll _ hb)) hen hd h1 h0 fun h' hL=> ?_;refine oAAA hL fun k1 o1_ k3 k4=> ?_; (try clear hL); obtain ⟨_,_,k2⟩:=o1_;refine ⟨C,H,fz,μ,rfl,.refl,e,mu,tb,rfl,hs',⟨_,tp,st,sg,hl,k1,hen,k2,by rw [← hcls]; exact k3⟩,?_,Sh⟩;have k0:φ.h₀.UpToSlots s.heap:=by
  intro b o hb hd;obtain ⟨sl,hs⟩:=T.up hb;exact ⟨sl,F.keep _ _ hs⟩
 exact (k0.trans (Heap.UpToSlots.of_keeps keep)).trans k4
end
set_option tactic.hygienic true
noncomputable abbrev bmE:List Value:=[.type "Exception",.type "BaseException",.type "object"]
noncomputable def clsB (d:Data) (p:ClassData→Bool):Bool:=if h:d.ctorIdx=8 then Data.cls.elim (motive:=fun _=>Bool) d h p else false
theorem clsB_el {d:Data} {p:ClassData→Bool} {P:Data→Prop} (h:clsB d p=true) (k:∀ cd,p cd=true→P (.cls cd)):P d :=
 if e:d.ctorIdx=8 then Data.cls.elim (motive:=fun d=>clsB d p=true→P d) d e k h else absurd ((dif_neg e).symm.trans h) Bool.false_ne_true
theorem an {a b:Bool} (h:(a&&b)=true):a=true∧b=true:=Bool.and_eq_true_iff.mp h
noncomputable def slB (l:List (Option Value)) (i:Nat):Option Value:=l.getD i none
noncomputable def clB (C P:Addr) (sl:Array (Option Value)) (cd:ClassData):Bool:=(sl.toList==[slB sl.toList 0,slB sl.toList 1,slB sl.toList 2,slB sl.toList 3,some (.builtin "Exception.__new__"),slB sl.toList 5])&&((cd.mro== .ref C:: .ref P::bmE)&&((cd.hasDel==false)&&cd.hasDict))
noncomputable def excB (C P:Addr) (o:Obj):Bool:=(o.cls== .type "type")&&clsB o.data (clB C P o.slots)
noncomputable def ydA (K:Frag) (C P:Addr):Bool:=(K.lookup C).any (excB C P)
inductive ExcC (K:Frag) (C P:Addr):Prop
 |mk (nm:Str) (q:Str) (N:Addr) (bs:List Value) (sn:List Str) (sub:List Value) (ab:Bool) (col:Option Bool) (dd:Option Addr) (k0 k1 k2 k3 k5:Option Value) (h:K.lookup C=some (excClassObj nm q C N bs (.ref P::bmE) true sn sub ab col dd k0 k1 k2 k3 k5 "Exception.__new__"))
noncomputable def ykE (K:Frag) (C P f:Addr):Bool:=ydA K C P&&((findIn K (.ref C) "__init__" ==some (some (.ref f)))&&(isFn K (.ref f) &&
 ((findIn K (.ref C) "__setattr__" ==some (some (.builtin "object.__setattr__")))&&((findIn K (.ref C) "what" ==some none)&&(findIn K (.ref C) "at" ==some none)))))
structure ExcF (K:Frag) (C P f:Addr):Prop where
 sh:ExcC K C P
 ini:findIn K (.ref C) "__init__" =some (some (.ref f))
 fn:isFn K (.ref f)=true
 sa:findIn K (.ref C) "__setattr__" =some (some (.builtin "object.__setattr__"))
 wh:findIn K (.ref C) "what" =some none
 at_:findIn K (.ref C) "at" =some none
theorem exc_eta {o:Obj} {cd:ClassData} {v:Option Value} (e1:o.cls= .type "type") (e2:o.data= .cls cd) (e3:o.slots.toList=[k0,k1,k2,k3,some (.builtin newId),k5]) (e4:cd.mro= .ref C::bm) (e5:cd.hasDel=false) (e6:cd.hasDict=true) :
  o=excClassObj cd.name cd.qualname C cd.ns cd.bases bm true cd.slotNames cd.subclasses cd.abstract cd.collection o.dict k0 k1 k2 k3 k5 newId :=
 have c1:cd=⟨cd.name,cd.bases,.ref C::bm,cd.ns,cd.qualname,cd.hasDict,cd.slotNames,cd.subclasses,cd.abstract,cd.collection,cd.hasDel⟩:=congrArg (fun m=>(⟨cd.name,cd.bases,m,cd.ns,cd.qualname,cd.hasDict,cd.slotNames,cd.subclasses,cd.abstract,cd.collection,cd.hasDel⟩:ClassData)) e4;have c2:=c1.trans (congrArg (fun m=>(⟨cd.name,cd.bases,.ref C::bm,cd.ns,cd.qualname,m,cd.slotNames,cd.subclasses,cd.abstract,cd.collection,cd.hasDel⟩:ClassData)) e6);have c3:=c2.trans (congrArg (fun m=>(⟨cd.name,cd.bases,.ref C::bm,cd.ns,cd.qualname,true,cd.slotNames,cd.subclasses,cd.abstract,cd.collection,m⟩:ClassData)) e5);have o1:o=⟨.type "type",o.dict,o.data,⟨o.slots.toList⟩⟩:=congrArg (fun c=>(⟨c,o.dict,o.data,⟨o.slots.toList⟩⟩:Obj)) e1
 (o1.trans (congrArg (fun d=>(⟨.type "type",o.dict,d,⟨o.slots.toList⟩⟩:Obj)) (e2.trans (congrArg Data.cls c3)))).trans (congrArg (fun l=>(⟨.type "type",o.dict,_,⟨l⟩⟩:Obj)) e3)
theorem excShape_of {K:Frag} (h:ydA K C P=true):ExcC K C P:=by
 refine oEA (any_some h) fun o e h=> ?_;exact clsB_el (P:=fun d=>o.data=d→ExcC K C P) (an h).2 (fun cd h2 ed=>.mk (h:=e.trans (congrArg some (exc_eta (v:=none) (eq_of_beq (an h).1) ed (eq_of_beq (an h2).1) (eq_of_beq (an (an h2).2).1) (eq_of_beq (an (an (an h2).2).2).1) (an (an (an h2).2).2).2))) ..) rfl
theorem excOk_of {K:Frag} (h:ykE K C P f=true):ExcF K C P f :=
 have h1:=(an h).2;have h2:=(an h1).2;have h3:=(an h2).2;have h4:=(an h3).2
 ⟨excShape_of (an h).1,eq_of_beq (an h1).1,(an h2).1,eq_of_beq (an h3).1,eq_of_beq (an h4).1,eq_of_beq (an h4).2⟩
theorem ExcC.sub {K:Frag} (E:ExcC K C P) {base:Value} (hb:(Value.ref C:: .ref P::bmE).contains base=true):mroIn K C base=some true:=by
 obtain ⟨nm,q,N,bs,sn,sub,ab,col,dd,k0,k1,k2,k3,k5,h⟩:=E;unfold mroIn clsIn;rw [h];exact congrArg some hb
theorem ExcC.cd {K:Frag} (E:ExcC K C P):∃ cd,clsIn K C=some cd∧cd.mro= .ref C:: .ref P::bmE∧cd.hasDict=true:=by
 obtain ⟨nm,q,N,bs,sn,sub,ab,col,dd,k0,k1,k2,k3,k5,h⟩:=E;unfold clsIn;rw [h];exact ⟨_,rfl,rfl,rfl⟩
theorem ExcC.ty {K:Frag} (E:ExcC K C P):typeIn K (.ref C)=some (.type "type"):=by
 obtain ⟨nm,q,N,bs,sn,sub,ab,col,dd,k0,k1,k2,k3,k5,h⟩:=E;exact congrArg (Option.map (·.cls)) h
section
variable {prog:Program} {w:World} {A:Around} {E:Value→Shared→Prop} {h:Heap} {g:Array GenState} {d:Drawn} {t:Nat} {os:OsState} {R:Result→Shared→Prop}
variable {nm q:Str} {C N:Addr} {bs bm:List Value} {hdct:Bool} {sn:List Str} {sub:List Value} {ab:Bool} {col:Option Bool} {dd:Option Addr} {k0 k1 k2 k3 k5:Option Value} {B newId initId:String} {bmB:List Value}
theorem exc_new (Fn:ExcBaseFacts B newId initId bmB) (hB:bm.contains (.type B)=true) (hA:bm.contains (.type "AttributeError")=false) (hN:bm.contains (.type "NameError")=false)
  (hC:h.get? C=some (excClassObj nm q C N bs bm hdct sn sub ab col dd k0 k1 k2 k3 k5 newId))
  (hq:R (.ok (.ret (.ref (h.objs.size+1)))) ⟨(h.push {cls:=.type "tuple",data:=.seq rest.toArray}).push
   {cls:=.ref C,data:=.fields #[.ref h.objs.size,.none,.none,.none,.bool false,.none]},g,d,t,os⟩) (hrest:rest.length≤sizeLine:=by size_fits) :
  codeAny (model prog w) A (.builtin newId ⟨.ref C::rest,[]⟩) R ⟨h,g,d,t,os⟩:=by
 have hends:=Fn.ends;have hcB:(Value.ref C::bm).contains (.type B)=true:=by rw [List.contains_cons,hB,Bool.or_true]
 have hcA:(Value.ref C::bm).contains (.type "AttributeError")=false:=by rw [List.contains_cons,hA]; rfl
 have hcN:(Value.ref C::bm).contains (.type "NameError")=false:=by rw [List.contains_cons,hN]; rfl
 refine codeAny_builtinAt Fn.entry ?_;unfold Builtin.«BaseException.__new__»;refine PySem.wpAt_bind ?_;show PySem.wpAt _ _ _ (stack >>= _) _ _ _;refine PySem.wpAt_bind (PySem.wpAt_stack fun p below=>PySem.wpAt_of_wpAny ?_)
 wp_walk
 refine PySem.wpAt_of_wpAny ?_;rw [Fn.owner]
 repeat (first|with_reducible refine wpAny_madeHere_exc Fn.canon hC ?_|with_reducible refine wpAny_loadPart_at hC ?_|(with_reducible refine wpAny_isSubtype_exc hC ?_; first|rw [hcB]|rw [hcA]|rw [hcN])|wp_step)
 show R _ _;rw [Heap.size_push];exact hq
theorem exc_type_call (Fn:ExcBaseFacts B newId initId bmB) (hB:bm.contains (.type B)=true) (hA:bm.contains (.type "AttributeError")=false) (hN:bm.contains (.type "NameError")=false) {K:Frag} (X:K.In h)
  (hC:h.get? C=some (excClassObj nm q C N bs bm hdct sn sub ab col dd k0 k1 k2 k3 k5 newId)) (hi:findIn K (.ref C) "__init__" =some (some (.ref fI))) (hfI:isFn K (.ref fI)=true)
  (hq:∀ h' e,Heap.MadeExcOf h h' e (.ref C) rest →
   wpAny (model prog w) A (call (.ref fI) (.ref e::rest)) (fun r s'=>r= .none∧Q (.done (.ret (.ref e))) s') E ⟨h',g,d,t,os⟩) (hrest:rest.length≤sizeLine:=by size_fits) :
  wpAny (model prog w) A (Builtin.«type.__call__» ⟨.ref C::rest,[]⟩) Q E ⟨h,g,d,t,os⟩:=by
 repeat (first|with_reducible refine wpAny_loadPart_at hC ?_|with_reducible refine wpAny_madeBy_exc hC ?_|wp_step)
 refine codeAny_call_builtin_code (Code.quiet_builtin _ Fn.quiet) (PySem.wpAny_check_new_subU Fn hB .base hC ?_);refine exc_new Fn hB hA hN hC ?_ hrest;show wpAny _ _ _ _ _ _;have kp:∀ b o,h.get? b=some o→((h.push {cls:=.type "tuple",data:=.seq rest.toArray}).push {cls:=.ref C,data:=.fields #[.ref h.objs.size,.none,.none,.none,.bool false,.none]}).get? b=some o :=
  fun b o hb=>Heap.get?_push_of_some _ (Heap.get?_push_of_some _ hb)
 have hC₁:=kp _ _ hC;have X₁:=X.keeps kp;have hget:((h.push {cls:=.type "tuple",data:=.seq rest.toArray}).push
   {cls:=.ref C,data:=.fields #[.ref h.objs.size,.none,.none,.none,.bool false,.none]}).get? (h.objs.size+1)=some
   {cls:=.ref C,data:=.fields #[.ref h.objs.size,.none,.none,.none,.bool false,.none]}:=by heap_get
 have hcC:(Value.ref C::bm).contains (.ref C)=true:=by simp
 unfold isInstance
 repeat (first|with_reducible refine wpAny_loadPart_at hget ?_|(with_reducible refine wpAny_isSubtype_exc hC₁ ?_; rw [hcC])|wp_step)
 show wpAny _ _ (typeLookup (.ref C) _) _ _ _;refine (looks_findIn X₁ hi) _ _ _ _ (fun _ _ e=>e) ?_;refine wpAny_holding ?_;refine wpAny_bind ((bind_fn X₁ _ (beq_iff_eq.mp hfI)).here ?_);refine wpAny_bind (wpAny_mono (hq _ (h.objs.size+1) ⟨kp,Heap.get?_none_of_le (Nat.le_succ _),h.objs.size,hget,Heap.get?_none_of_le (Nat.le_refl _),?_⟩) (fun r s' hr=> ?_) fun _ _ x=>x)
 ·exact Heap.get?_push_of_some _ (Heap.get?_push_at rfl rfl)
 ·obtain ⟨rfl,hQ⟩:=hr
  wp_walk
  exact hQ
theorem exc_call (Fn:ExcBaseFacts B newId initId bmB) (hB:bm.contains (.type B)=true) (hA:bm.contains (.type "AttributeError")=false) (hN:bm.contains (.type "NameError")=false) {K:Frag} (X:K.In h)
  (hC:h.get? C=some (excClassObj nm q C N bs bm hdct sn sub ab col dd k0 k1 k2 k3 k5 newId)) (hi:findIn K (.ref C) "__init__" =some (some (.ref fI))) (hfI:isFn K (.ref fI)=true)
  (hq:∀ h' e,Heap.MadeExcOf h h' e (.ref C) rest →
   wpAny (model prog w) (A.under (.builtin "type.__call__" ⟨.ref C::rest,[]⟩)) (call (.ref fI) (.ref e::rest)) (fun r s'=>r= .none∧Q (.ref e) s') E ⟨h',g,d,t,os⟩) (hrest:rest.length≤sizeLine:=by size_fits) :
  wpAny (model prog w) A (call (.ref C) rest) Q E ⟨h,g,d,t,os⟩:=by
 have f1:=tc_lookup;have f2:=tc_bind (.ref C);have hT:(⟨h,g,d,t,os⟩:Shared).TypeIs (.ref C) "type" :=⟨_,hC,rfl⟩;refine wpAny_call (codeAny_of_tree ?_);show wpAny _ _ (callAny (.ref C) _) _ _ _
 repeat (any_goals (first|assumption|with_reducible refine wpAny_loadPart_at hC ?_|wp_step))
 refine ⟨rfl,?_⟩;refine codeAny_call_builtin_at (Code.quiet_builtin _ (by decide +kernel)) entry_typeCall (wpAny_check_type_call_sub hC (exc_type_call (hrest:=hrest) Fn hB hA hN X hC hi hfI fun h' e hm=> ?_));exact hq h' e hm
end
end Mine
end
section
open PySem PySem.W PyProof.Rows PySem.Calls Builtin Builtin.ObjectAttr
namespace Mine
set_option tactic.hygienic false
section
variable {prog:Program} {w:World} {A:Around} {E:Value→Shared→Prop} {s:Shared} {C P f x:Addr} {name:Str} {v:Value} {K:Frag} {ox:Obj} {od:Option Obj}
theorem zzJ {m:Str→Option Value} {Q:Fin→Shared→Prop} (hn:s.heap.Ns1 dx m) (hw:Within m ns) (hz:ns.length≤5) (hQ:∀ h',h'.Ns1 dx (fun y=>if y=name then some v else m y)→Heap.SameBut dx s.heap h'→Q (.done (.ret .none)) {s with heap:=h',toks:=s.toks+1}) :
  wpAny (model prog w) A (storeInDict dx (.str name tk) name v) Q E s:=by
 refine wpAny_bind (wpAny_pure (wpAny_bind (wpAny_nsSet1 hn fun h' hn' hs=> ?_)));refine zY (hn'.count (Within.cons name v hw)) fun oD es ep h1 h2 h3=> ?_;exact wpAny_bind (wpAny_lookBehind (s:={s with heap:=h',toks:=s.toks+1}) h1 (by rw [h2]; exact pastItsLine_dict (Nat.le_trans h3 (Nat.le_trans (Nat.succ_le_succ hz) (by decide)))) (wpAny_pure (hQ h' hn' hs)))
theorem ykD {Q:Unit→Shared→Prop} (Ef:ExcF K C P f) (X:K.In s.heap) (I:InstAt s.heap x ox C od) (hna:findIn K (.ref C) name=some none)
  (k:wpAny (model prog w) A.in1 (storeInOwnDict (.ref x) (.ref C) (.str name s.toks) name v false) (fun fin s'=>fin= .done (.ret .none)∧Q () s') (fun _ _=>False) {s with toks:=s.toks+1}) :
  wpAny (model prog w) A (setAttr (.ref x) name v) Q E s:=by
 have SF:=PySem.F.store_Exception;refine oEAA (Ef.sh.cd) fun cd hc hm _=> ?_;have L1:Looks (model prog w) s.heap (mroOf (.ref C)) (.ref C:: .ref P::bmE):=hm▸(looks_clsIn X hc).andThen .now;refine set_plain X I Ef.sa (codeAny_call_builtin SF.slot.plain SF.entry (@check_slot (model prog w) _ _ {s with toks:=s.toks+1} "object.__setattr__" "object" "__setattr__" (.ref x) [.str name s.toks,v] [] _ SF.kind SF.split (I.type.andThen (looks_mroIn X (Ef.sh.sub (by rfl)))) (SF.args (.ref x) (.str name s.toks) v) ?_));rw [osa_eq,refuse_eq];refine wpAny_bind (wpAny_bind (I.type.at (wpAny_bind (L1.at ?_))));rw [refuseLoop_ref,refuseLoop_ref,SF.passes];refine wpAny_pure (wpAny_bind (I.type.at (wpAny_bind ((looks_findIn X hna).at (wpAny_bind (wpAny_pure (wpAny_mono k (fun fin s' h=> ?_) fun _ _ h=>h.elim)))))));rw [h.1];exact h.2
theorem exc_store0 {Q:Unit→Shared→Prop} (Ef:ExcF K C P f) (X:K.In s.heap) (hx:s.heap.get? x=some {cls:=.ref C,data:=.fields vs}) (hna:findIn K (.ref C) name=some none)
  (hq:∀ h' tk,h'.get? x=some {cls:=.ref C,dict:=some s.heap.objs.size,data:=.fields vs}→h'.Ns1 s.heap.objs.size (fun y=>if y=name then some v else none)→(∀ b o,b≠x→s.heap.get? b=some o→h'.get? b=some o)→Q () {s with heap:=h',toks:=tk}) :
  wpAny (model prog w) A (setAttr (.ref x) name v) Q E s:=by
 refine ykD (od:=none) Ef X ⟨hx,rfl,rfl,trivial⟩ hna ?_;refine oEAA (Ef.sh.cd) fun cd hc _ hd=> ?_;refine wpAny_bind (wpAny_pure (wpAny_bind (wpAny_bind (wpAny_loadPart hx (wpAny_bind ((looks_clsIn X hc).at ?_))))));rw [hd];have hxs:x≠s.heap.objs.size:=Nat.ne_of_lt (Heap.lt_size hx);have hx1:=Heap.get?_push_of_some {cls:=.type "dict",data:=.dict #[]} hx;refine wpAny_bind (wpAny_alloc (wpAny_bind (wpAny_update hx1 (wpAny_pure (zzJ (Heap.Ns1.of_empty ⟨_,#[],_,(Heap.get?_update_ne _ _ _ _ hxs.symm).trans (Heap.get?_push_at rfl rfl),rfl,(fun e he=>absurd he (Array.not_mem_empty e)),fun _=>rfl⟩) Within.nil (Nat.zero_le _) fun h' h1 h2=>⟨rfl,hq h' _ ?_ h1 fun b o hb h=> ?_⟩)))))
 ·exact (h2.2 x hxs).trans (Heap.get?_update_self _ hx1 rfl)
 ·exact (h2.2 b (Nat.ne_of_lt (Heap.lt_size h))).trans ((Heap.get?_update_ne _ _ _ _ hb).trans (Heap.get?_push_of_some _ h))
theorem exc_store1 {Q:Unit→Shared→Prop} (Ef:ExcF K C P f) (X:K.In s.heap) (hx:s.heap.get? x=some {cls:=.ref C,dict:=some dx,data:=.fields vs}) (hn:s.heap.Ns1 dx m) (hw:Within m ns) (hz:ns.length≤5) (hna:findIn K (.ref C) name=some none)
  (hq:∀ h' tk,(∀ b o,b≠dx→s.heap.get? b=some o→h'.get? b=some o)→Q () {s with heap:=h',toks:=tk}) :
  wpAny (model prog w) A (setAttr (.ref x) name v) Q E s:=by
 refine wQ (id hn) fun oD es ep hD _=> ?_;refine ykD (od:=some oD) Ef X ⟨hx,rfl,rfl,hD⟩ hna ?_;refine oEAA (Ef.sh.cd) fun cd hc _ hd=> ?_;refine wpAny_bind (wpAny_pure (wpAny_bind (wpAny_bind (wpAny_loadPart hx (wpAny_bind ((looks_clsIn X hc).at ?_))))));rw [hd];exact wpAny_pure (a:=some dx) (zzJ hn hw hz fun h' _ h2=>⟨rfl,hq h' _ fun b o hb h=>(h2.2 b hb).trans h⟩)
end
end Mine
end
section
open PySem PySem.W PyProof.Rows PySem.Calls
namespace Mine
set_option tactic.hygienic false
section
variable {prog:Program} {w:World} {A:Around} {E:Value→Shared→Prop} {s:Shared}
theorem exc_base (he:s.heap.get? e=some ob) (hd:ob.data= .fields vs) (h0:vs[0]? =some (.ref t0)) (hr:rest.length≤sizeLine)
  (h:Q (.done (.ret .none)) {s with heap:=(s.heap.push {cls:=.type "tuple",data:=.seq rest.toArray}).update e (Obj.mapFields (·.setIfInBounds 0 (.ref s.heap.objs.size)))}) :
  wpAny (model prog w) A (Builtin.«BaseException.__init__» ⟨.ref e::rest,[]⟩) Q E s:=by
 unfold Builtin.«BaseException.__init__»;dsimp only;rw [if_neg (by simp)];unfold Builtin.BaseException.bexcPut;have hsz:0<vs.size:=(Array.getElem?_eq_some_iff.mp h0).1;have he₁:=Heap.get?_push_of_some (h:=s.heap) {cls:=.type "tuple",data:=.seq rest.toArray} he;refine wpAny_bind (wpAny_newTuple (wpAny_bind (wpAny_bind (wpAny_field he₁ hd h0 (wpAny_bind (wpAny_setField he₁ hd hsz ?_))))) hr);exact wpAny_letGo (wpAny_pure h)
theorem exc_init_eq (e:Addr) (v:Value):checkBuiltinCall "Exception.__init__" ⟨[.ref e,v],[]⟩=(isInstance (.ref e) (.type "Exception") >>= fun b=>if !b then (rule "call.slot-wrapper.wrong-self" >>= fun _=>typeNameOf (.ref e) >>= fun t=>(raiseError "TypeError" (s!"descriptor '{"__init__"}' requires a '{"Exception"}' object but received a '{t}'"):Sem PUnit) >>= fun _=>Bind.checkArgs "Exception.__init__" ⟨.positional,"*","Exception",.self,[⟨"args",.varPos,false⟩]⟩ ⟨[.ref e,v],[]⟩)
  else Bind.checkArgs "Exception.__init__" ⟨.positional,"*","Exception",.self,[⟨"args",.varPos,false⟩]⟩ ⟨[.ref e,v],[]⟩):=by kernel_rfl
theorem exc_check_init {M:Model} {K:Frag} {h:Heap} {g:Array GenState} {d:Drawn} {t:Nat} {os:OsState} (Ec:ExcC K C P) (X:K.In h) {e:Addr} {oe:Obj} {Q:Unit→Shared→Prop} (he:h.get? e=some oe) (hcls:oe.cls= .ref C) (hq:Q () ⟨h,g,d,t,os⟩) :
  wpAny M A (checkBuiltinCall "Exception.__init__" ⟨[.ref e,v],[]⟩) Q E ⟨h,g,d,t,os⟩:=by
 obtain ⟨nm,q,N,bs,sn,sub,ab,col,dd,k0,k1,k2,k3,k5,hK⟩:=id Ec;have hC:=X _ _ hK;have LT:Looks M h (typeOf (.ref e)) (.ref C):=hcls▸(Looks.ld he).andThen .now;have LI:Looks M h (isInstance (.ref e) (.type "Exception")) true:=LT.andThen (looks_mroIn X (Ec.sub (by rfl)));rw [exc_init_eq];refine wpAny_bind (LI.at ?_)
 repeat (first|(with_reducible refine wpAny_loadPart_at he ?_; rw [hcls])|with_reducible refine wpAny_loadPart_at hC ?_|wp_step)
 exact hq
theorem exc_method {K:Frag} (X:K.In s.heap) (h:Q (.builtin "Exception.__init__",[]) {s with toks:=s.toks+1}):wpAny (model prog w) A (getMethod (.type "Exception") "__init__" pl) Q E s:=by
 have hstub:opaqueClassAbove (.type "Exception")=pure none:=by kernel_rfl
 have L0:Looks (model prog w) s.heap (typeOf (.type "Exception")) (.type "type"):=Looks.of_pure (by kernel_rfl);have hg:findIn K (.type "type") "__getattribute__" =some (some (.builtin "type.__getattribute__")):=type_tga;unfold getMethod specialOf;refine wpAny_bind (wpAny_bind (L0.here ((looks_findIn X hg).here ?_)));dsimp only;rw [if_pos canon_tga];refine wpAny_bind (wpAny_mono (Q:=fun v=>Q (v,[])) (E:=E) ?_ (fun _ _ z=>wpAny_pure z) fun _ _ z=>z);have LO:Looks (model prog w) s.heap (opaqueClassAbove (.type "Exception")) none:=Looks.of_pure hstub;refine cls_open (r:=.val (.builtin "Exception.__init__")) X LO L0 hg (looks_hook X (r:=none) (by rfl)) (by show subIn K _ _=_; rfl) (by kernel_rfl)
  (wpAny_pure (by show wpAny _ _ (handedOut _) _ _ _; rw [handedOut_of (by rfl)]; exact wpAny_pure h))
noncomputable def wF:List Stmt:=[
 (PySem.Stmt.Expr
  (value:=(PySem.Expr.Call
   (func:=(PySem.Expr.Attribute (PySem.Expr.Name "Exception" ⟨8,8,8,17⟩) "__init__" ⟨8,8,8,26⟩))
   (args:=[(PySem.Expr.Name "self" ⟨8,27,8,31⟩),(PySem.Expr.Name "what" ⟨8,33,8,37⟩)])
   (keywords:=[])
   (pos:=⟨8,8,8,38⟩)))
  (pos:=⟨8,8,8,38⟩)),
 (PySem.Stmt.Assign
  (targets:=[(PySem.Expr.Attribute (PySem.Expr.Name "self" ⟨9,8,9,12⟩) "what" ⟨9,8,9,17⟩)])
  (value:=(PySem.Expr.Name "what" ⟨9,20,9,24⟩))
  (pos:=⟨9,8,9,24⟩)),
 (PySem.Stmt.Assign
  (targets:=[(PySem.Expr.Attribute (PySem.Expr.Name "self" ⟨10,8,10,12⟩) "at" ⟨10,8,10,15⟩)])
  (value:=(PySem.Expr.Name "at" ⟨10,18,10,20⟩))
  (pos:=⟨10,8,10,20⟩))]
structure ymE (e:Addr) (C:Addr) (h₀ h:Heap) (tp:Value):Prop where
 keep:∀ b o,b≠e→h₀.get? b=some o→h.get? b=some o
 obj:∃ o,h.get? e=some o∧o.cls= .ref C∧o.data= .fields #[tp,.none,.none,.none,.bool false,.none]
theorem init_body {K:Frag} (hk:env.scope.kind= .function) (hs:env.kindOf "self" =some .local) (hw:env.kindOf "what" =some .local) (ha:env.kindOf "at" =some .local)
  (hloc:env.locals=L) (hns:s.heap.Ns L m) (m1:m "self" =some (.ref e)) (m2:m "what" =some vw) (m3:m "at" =some va) (X:K.In s.heap) (hKe:K.lookup e=none) (hLe:e≠L) (hi:interactive env=false)
  (Ef:ExcF K C P f) (he:s.heap.get? e=some {cls:=.ref C,data:=.fields #[.ref t0,.none,.none,.none,.bool false,.none]})
  (hexc:∀ (Q:Value→Shared→Prop) E,Q (.type "Exception") s→wpAny (model prog w) A (eval (.Name "Exception" ⟨8,8,8,17⟩) env) Q E s) :
  wpAny (model prog w) A (execs wF env) (fun fl s'=>fl= .next∧∃ h' tk tp,s'={s with heap:=h',toks:=tk}∧ymE e C s.heap h' tp) E s:=by
 subst hloc;have keepX:∀ {h:Heap},(∀ b o,b≠e→s.heap.get? b=some o→h.get? b=some o)→K.In h:=fun kp b o hb=>kp b o (fun z=>by rw [z,hKe] at hb; cases hb) (X b o hb);have keepN:∀ {h:Heap},(∀ b o,b≠e→s.heap.get? b=some o→h.get? b=some o)→h.Ns env.locals m:=fun kp=>by
  refine wQ hns fun o es ep ho r=> ?_; (try clear hns);exact ⟨o,es,ep,kp _ _ hLe.symm ho,r⟩
 have F:=PySem.F.excBase_Exception;have rd:∀ {s':Shared} {x:Str} {p:Pos} {v:Value} {Q:Value→Shared→Prop} {E:Value→Shared→Prop},s'.heap.Ns env.locals m→env.kindOf x=some .local→m x=some v→(x==("__debug__" : Str))=false→Q v s'→wpAny (model prog w) A (eval (.Name x p) env) Q E s' :=
  fun hn hl hm hd hq=>wpAny_Name (wpAny_loadName_local hk hl hn hm hq) hd
 refine wpAny_execs_cons (wpAny_Expr ?_ hi);rw [arm_eval_Call,zrE (by rfl)];refine wpAny_bind (hexc _ _ (wpAny_bind (wpAny_standAt ?_)));unfold methodCall;have few:methodCallForm (([Expr.Name "self" ⟨8,27,8,31⟩,Expr.Name "what" ⟨8,33,8,37⟩]:List Expr).length+([]:List Keyword).length) (backTo ⟨8,8,8,38⟩ (starEach [Expr.Name "self" ⟨8,27,8,31⟩,Expr.Name "what" ⟨8,33,8,37⟩] env)) (backToKw ⟨8,8,8,38⟩ (keywordEach [] env))=true:=by rfl
 rw [few];refine wpAny_bind (wpAny_holding ?_);unfold calleeOf;rw [if_pos rfl];refine exc_method X ?_;dsimp only;refine wpAny_bind ?_;unfold methodCallPos;rw [if_pos (by rfl)];refine wpAny_pure ?_;refine callWith_of (P:=fun _=>True) rfl (fun h _=>⟨.machine,.inr (.inl rfl),Looks.of_pure rfl⟩) (evalArgs_plain ?_);refine spliced_cons (rd hns hs m1 (by decide) (spliced_cons (rd hns hw m2 (by decide) (spliced_nil ⟨trivial,?_⟩))));dsimp only [List.nil_append];refine wpAny_call (codeAny_call_builtin F.init.plain F.initEntry (exc_check_init Ef.sh X he rfl ?_));refine exc_base he rfl rfl (by show 1≤sizeLine; rw [sizeLine_eq]; decide) ?_;have hep:=Heap.get?_push_of_some (h:=s.heap) {cls:=.type "tuple",data:=.seq [vw].toArray} he;generalize hH1:(s.heap.push {cls:=.type "tuple",data:=.seq [vw].toArray}).update e (Obj.mapFields (·.setIfInBounds 0 (.ref s.heap.objs.size)))=H1;have kp1:∀ b o,b≠e→s.heap.get? b=some o→H1.get? b=some o:=fun b o hb q=>by
  rw [← hH1];exact (Heap.get?_update_ne _ _ _ _ hb).trans (Heap.get?_push_of_some _ q)
 have he1:H1.get? e=some {cls:=.ref C,data:=.fields #[.ref s.heap.objs.size,.none,.none,.none,.bool false,.none]}:=by
  rw [← hH1];exact Heap.get?_update_self _ hep rfl
 dsimp only;refine wpAny_execs_cons (plainObj_wpAny_Assign_Attribute (rd (keepN kp1) hw m2 (by decide) (rd (keepN kp1) hs m1 (by decide) ?_)));refine exc_store0 Ef (keepX kp1) he1 Ef.wh fun h2 t2 he2 I2 k2=> ?_;have kp2:∀ b o,b≠e→s.heap.get? b=some o→h2.get? b=some o:=fun b o hb q=>k2 b o hb (kp1 b o hb q);refine wpAny_execs_cons (plainObj_wpAny_Assign_Attribute (rd (keepN kp2) ha m3 (by decide) (rd (keepN kp2) hs m1 (by decide) ?_)));refine exc_store1 (ns:=["what"]) Ef (keepX kp2) he2 I2 (Within.cons _ _ Within.nil) (by decide) Ef.at_ fun h3 t3 k3=> ?_;exact wpAny_execs_nil ⟨rfl,h3,t3,.ref s.heap.objs.size,rfl,⟨fun b o hb q=>k3 b o (Nat.ne_of_lt (Heap.lt_size (kp1 b o hb q))) (kp2 b o hb q),_,k3 _ _ (Nat.ne_of_lt (Heap.lt_size he1)) he2,rfl,rfl⟩⟩
end
inductive InitFn (G:Gl) (f:Addr):Prop
 |mk (oc:Value) (od:Option Addr) (osl:Array (Option Value)) (name qual:Str) (params:Arguments) (scope:Scope) (dV kV doc pm cdv ct:Value) (an:Option Addr)
  (q0:G.K.lookup f=some ⟨oc,od,.func (fnX name qual params wF scope [] dV kV doc pm an cdv ct),osl⟩) (q1:codeIn G.K cdv qual=true) (q2:scope.isCoroutine=false) (q3:scope.isGenerator=false) (q4:scope.kind= .function) (q5:scope.names.lookup ("self" : Str)=some .local) (q6:scope.names.lookup ("what" : Str)=some .local) (q7:scope.names.lookup ("at" : Str)=some .local) (q8:scope.names.lookup ("Exception" : Str)=some .globalImplicit) (q9:(∀ (s:Shared) e x y,G.K.In s.heap→BindsTo s (fnX name qual params wF scope [] dV kV doc pm an cdv ct) ⟨[.ref e,x,y],[]⟩ [("self",.ref e),("what",x),("at",y)])) (q10:(∀ (s:Shared) e x,G.K.In s.heap→∃ y,BindsTo s (fnX name qual params wF scope [] dV kV doc pm an cdv ct) ⟨[.ref e,x],[]⟩ [("self",.ref e),("what",x),("at",y)]))
structure zwE (G:Gl) (f:Addr):Prop where
 fn:InitFn G f
 exc:nsIn G.K mainGlobals "Exception" =some none
section
variable {G:Gl} {A:Around} {s:Shared}
theorem call_init (O:GOk G) (hI:zwE G f) (Ef:ExcF G.K C P f) (X:G.K.In s.heap) (T:Top G.p G.loose G.mean G.mg G.mb s.heap) (nol:s.heap.NoLimit) (hroom:A.depth<recursionLimit) (hr:(∃ x y,rest=[x,y])∨∃ x,rest=[x])
  (hKe:G.K.lookup e=none) (he:s.heap.get? e=some {cls:=.ref C,data:=.fields #[.ref t0,.none,.none,.none,.bool false,.none]})
  (h:∀ h' tk tp,ymE e C s.heap h' tp→R (.ok (.ret .none)) {s with heap:=h',toks:=tk}):codeAny (model G.prog G.w) A (.call (.ref f) ⟨.ref e::rest,[]⟩) R s:=by
 obtain ⟨⟨oc,od,osl,name,qual,params,scope,dV,kV,doc,pm,cdv,ct,an,ho,hcd,hco,hgen,hk,n1,n2,n3,n4,b2,b1⟩,hexc⟩:=hI;have hb:∃ x y,BindsTo s (fnX name qual params wF scope [] dV kV doc pm an cdv ct) ⟨.ref e::rest,[]⟩ [("self",.ref e),("what",x),("at",y)]:=by
  rcases hr with ⟨x,y,rfl⟩|⟨x,rfl⟩
  ·exact ⟨x,y,b2 s e x y X⟩
  ·obtain ⟨y,hy⟩:=b1 s e x X
   exact ⟨x,y,hy⟩
 refine oEE hb fun vw va hbind=> ?_; (try clear hb);refine codeAny_call_function hroom (X _ _ ho) rfl hco hgen rfl (codeRec_of X hcd) (hbind _ _ _ _ ?_);refine wpAny_newFunctionEnv_cells hk (kindsX (by simp [n1,n2,n3]) _) fun env' he' s' x=> ?_;subst he';refine ⟨nol.keeps x.toInCall.keep,codeAny_func ?_⟩;refine oEEA (x.done) fun h₁ tk o1_ _=> ?_; obtain rfl:=o1_;have hk₁:=x.toInCall.keep;have hns:=x.toInCall.ns;have X₁:=X.keeps hk₁;have T₁:=T.keeps hk₁;refine wpAny_mono (init_body (E:=fun _ _=>False) (t0:=t0) (C:=C) (P:=P) (f:=f) hk n1 n2 n3 rfl hns (vw:=vw) (va:=va) ?_ ?_ ?_ X₁ hKe (Nat.ne_of_lt (Heap.lt_size he)) ?_ Ef (hk₁ _ _ he) ?_) (fun fl s3 h3=> ?_) fun _ _ z=>z.elim
 ·exact zaD n1 (by show (["self","what","at"]:List Str).Nodup; decide) (.inl (by simp))
 ·exact zaD n2 (by show (["self","what","at"]:List Str).Nodup; decide) (.inl (by simp))
 ·exact zaD n3 (by show (["self","what","at"]:List Str).Nodup; decide) (.inl (by simp))
 ·unfold interactive
  show (scope.kind== .module&&_)=false;rw [hk]; rfl
 ·intro Q E hq
  refine Name_function_global hk n4 (loadGlobal_builtin (mg:=G.mg) (mb:=G.mb) T₁.g (mg_none_of X₁ T₁.g hexc) T₁.b ((T₁.builtins "Exception" (by decide)).trans (by kernel_rfl)) hq) (by decide)
 ·refine oAEEEA h3 fun o1_ h' tk' tp o2_ x'=> ?_; (try clear h3); obtain rfl:=o1_; obtain rfl:=o2_
  exact h h' tk' tp ⟨fun b o hb q=>x'.keep b o hb (hk₁ _ _ q),x'.obj⟩
end
section
variable {M:Model} {A:Around} {E:Value→Shared→Prop} {env:Env} {K:Frag} {C P:Addr}
inductive ysB (K:Frag) (C:Addr) (E:Value→Shared→Prop) (v:Value) (s:Shared):Prop
 |mk (e:Addr) (tp:Value) (od:Option Addr) (sl:Array (Option Value)) (hv:v= .ref e) (X:K.In s.heap) (he:s.heap.get? e=some {cls:=.ref C,dict:=od,data:=.fields #[tp,.none,.none,.none,.bool false,.none],slots:=sl}) (hE:E (.ref e) s)
theorem raise_own (Ec:ExcC K C P) (hh:A.handled=none) (h:wpAny M A x (ysB K C E) E s):wpAny M A (raiseStmt env (some x) none) Q E s:=by
 refine wpAny_bind (wpAny_mono h (fun v s₁ h₁=> ?_) fun _ _ x=>x);obtain ⟨e,tp,od,sl,rfl,X,he,hE⟩:=h₁;have LT:Looks M s₁.heap (isType (.ref e)) false:=(Looks.ld he).andThen .now;have LY:Looks M s₁.heap (typeOf (.ref e)) (.ref C):=(Looks.ld he).andThen .now;have LX:Looks M s₁.heap (isExcClass (.ref e)) false:=LT.andThen .now;have LI:Looks M s₁.heap (isInstance (.ref e) (.type "BaseException")) true:=LY.andThen (looks_mroIn X (Ec.sub (by rfl)));have L1:Looks M s₁.heap (excFromValue (.ref e) "exceptions must derive from BaseException") (.ref e):=LX.andThen (LI.andThen .now);have L2:Looks M s₁.heap (raisedInstance (.ref e)) (.ref e):=LY.andThen ((looks_typeIn X Ec.ty).andThen .now);have LF:Looks M s₁.heap (field (.ref e) 1) .none:=looks_field he 1 rfl;have L3:Looks M s₁.heap (setFlight (.ref e) none) ():=LF.andThen .now;exact wpAny_bind (wpAny_pure (wpAny_bind (wpAny_holding (L1.here (wpAny_bind (LT.here (wpAny_bind (L2.here (wpAny_bind (L3.here (wpAny_raiseNew_none hh hE)))))))))))
end
section
variable {G:Gl} {φ:Fx} {k:Nat} {R fz:zB} {μ:Mu} {loc:Loc} {H:Hp} {s:Shared}
theorem zjD (A:Around) (C:Addr) (vals:List Value):(A.under (.builtin "type.__call__" ⟨.ref C::vals,[]⟩)).depth=A.depth+1:=rfl
theorem made_own (D:Good G φ (k+1)) (O:GOk G) {C P f:Addr} (hI:zwE G f) (Ef:ExcF G.K C P f) (S:Sat G φ R fz μ loc H s) {rest:List Value} (hr:(∃ x y,rest=[x,y])∨∃ x,rest=[x]) {Q:Value→Shared→Prop} {E:Value→Shared→Prop}
  (h:∀ e h' tk oe tp,(∀ b o,s.heap.get? b=some o→h'.get? b=some o)→s.heap.get? e=none→h'.get? e=some oe→oe.cls= .ref C→oe.data= .fields #[tp,.none,.none,.none,.bool false,.none]→Q (.ref e) {s with heap:=h',toks:=tk}) :
  wpAny (model G.prog G.w) φ.A (call (.ref C) rest) Q E s:=by
 have X:=S.X D O;have T:=S.T D O;have nol:s.heap.NoLimit:=T.nolimit;have hl:rest.length≤sizeLine:=by
  rw [sizeLine_eq]
  rcases hr with ⟨x,y,rfl⟩|⟨x,rfl⟩
  ·show 2≤16777216; decide
  ·show 1≤16777216; decide
 obtain ⟨hp,g,d,tk,os⟩:=s;obtain ⟨nm,q,N,bs,sn,sub,ab,col,dd,k0,k1,k2,k3,k5,hC⟩:=Ef.sh;refine exc_call PySem.F.excBase_Exception (by simp) (by simp) (by simp) X (X _ _ hC) Ef.ini Ef.fn (fun h' e hm=> ?_) hl;refine oEAA (hm.there) fun t het htn ht=> ?_;have hKe:G.K.lookup e=none:=by
  cases z:G.K.lookup e with
  |none=>rfl
  |some o=>have:=X _ _ z; rw [hm.new] at this; cases this
 refine wpAny_call (call_init O hI Ef (X.keeps hm.keeps) (T.keeps hm.keeps) (nol.keeps hm.keeps) ?_ hr hKe het fun h2 tk2 tp x=> ?_)
 ·rw [zjD]
  have:=D.hde;unfold xE at this; lia
 ·refine oEAA (x.obj) fun oe q1 q2 q3=> ?_
  refine ⟨rfl,h e h2 tk2 oe tp (fun b o q=>x.keep b o (fun z=> ?_) (hm.keeps b o q)) hm.new q1 q2 q3⟩;rw [z,hm.new] at q; cases q
theorem len_two {α:Type} {l:List α} (h:l.length=2):∃ a b,l=[a,b]:=by
 refine oEE (List.exists_cons_of_length_eq_add_one (show l.length=1+1 from h)) fun a l o1_=> ?_; obtain rfl:=o1_;obtain ⟨b,rfl⟩:=List.length_eq_one_iff.mp (show l.length=1 from Nat.succ.inj h);exact ⟨a,b,rfl⟩
theorem ss_raise (D:Good G φ (k+1)) (O:GOk G) (hc:φ.comp=none) (hI:zwE G f) (hx:ykE G.K (G.ca C) P f=true) (hkeep:keepIn G.K (.ref (G.ca C))=true)
  (hname:nsIn G.K mainGlobals x=some (some (.ref (G.ca C)))) (hkx:φ.env.kindOf x=some .globalImplicit) (hd:(x==("__debug__" : Str))=false)
  (hlen:args.length=1∨args.length=2) (ha:AJ G φ fa (backTo cpos (starEach args φ.env))) (hal:∀ loc H vs H',fa loc H= .ok vs H'→vs.length=args.length) :
  SS G φ (fun loc H=>(fa loc H).bind fun _ H=>.exc C H) (exec (.Raise (some (.Call (.Name x np) args [] cpos)) none pos) φ.env):=by
 intro R fz μ loc H s S hF;dsimp only at hF ⊢;have Ef:=excOk_of hx;rw [arm_exec_Raise];refine wpAny_bind (wpAny_standAt (raise_own Ef.sh D.hh ?_));refine wpAny_bind (wpAny_mono (wpAny_Call_ofName (xU D O S hkx hname hd ?_)) (fun v s₃ h₃=>wpAny_bind (wpAny_standAt (wpAny_pure h₃))) fun _ _ x=>x);refine callWith_of (P:=fun h=>G.K.In h) (by rw [ha.pl]; rfl) (fun h hp=>keeps_K hkeep _ hp) ?_;have fin:∀ (vs:List Value) s',QE (wVs G) G φ R fz μ loc (fa loc H) vs s'→G.K.In s'.heap∧wpAny (model G.prog G.w) φ.A (call (.ref (G.ca C)) ([]++vs) [])
   (ysB G.K (G.ca C) (EX G φ R fz μ ((fa loc H).bind fun _ H=>(.exc C H:Rs Fl)))) (EX G φ R fz μ ((fa loc H).bind fun _ H=>(.exc C H:Rs Fl))) s':=fun vs s' ⟨pvs,H1,fz1,μ1,e1,x1',S1,w1⟩=>by
  have hlv:vs.length=args.length:=by rw [← hal loc H pvs H1 e1]; exact (zE w1).symm
  refine ⟨S1.X D O,made_own D O hI Ef S1 ?_ fun e h' tk oe tp q1 q2 q3 q4 q5=> ?_⟩
  ·rw [List.nil_append]
   rcases hlen with hl|hl
   ·exact .inr (List.length_eq_one_iff.mp (hlv.trans hl))
   ·exact .inl (len_two (hlv.trans hl))
  ·obtain ⟨oc,od,oda,osl⟩:=oe
   cases q4;cases q5;refine .mk e tp od osl rfl (fun a o h=>q1 _ _ (S1.X D O a o h)) q3 ?_;rw [e1];exact EX.up x1' (fun _ _ z=>z) (raised_ex D O S1 hc (s':={s' with heap:=h',toks:=tk}) S1.1 q1 q2 q3 rfl rfl rfl rfl:EX G φ R fz1 μ1 (.exc C H1:Rs Fl) (.ref e) _)
 have exc:∀ e s',EX G φ R fz μ (fa loc H) e s'→EX G φ R fz μ ((fa loc H).bind fun _ H=>(.exc C H:Rs Fl)) e s':=fun e s' h'=>h'.up .refl fun C H q=>by rw [q]; rfl
 have run:=ha.sj R fz μ loc H s S trivial hF.fst;generalize hts:backTo cpos (starEach args φ.env)=ts at ha run;cases ts with
 |nil =>
  have:=ha.nl rfl loc H;exact evalArgs_nil3 (fin [] s ⟨[],H,fz,μ,this,.refl,S,trivial⟩)
 |cons t r =>
  obtain ⟨b,x⟩:=t;have hb:b=false:=by have:=ha.pl; simp at this; exact this.1
  subst hb;exact evalArgs_plain (wpAny_mono run fin exc)
end
theorem setAt_comm {α:Type}:∀ (l:List α) {i j:Nat} {x y:α},i≠j→zF (zF l i x) j y=zF (zF l j y) i x:=by
 intro l0
 induction l0 with
 |nil =>
  intro _ _ _ _ _;exact rfl
 |cons a r ih =>
  intro l1;cases l1 with
  |zero =>
   intro l2;cases l2 with
   |zero =>
    intro _ _ h;exact absurd rfl h
   |succ j =>
    intro _ _ _;exact rfl
  |succ i =>
   intro l2;cases l2 with
   |zero =>
    intro _ _ _;exact rfl
   |succ j =>
    intro x y h;simp only [zF]; rw [ih (fun e=>h (by rw [e]))]
theorem wZ {i:Nat} {is:List Nat} {v:PV} {vs:List PV} {loc:Loc}:zZ (i::is) (v::vs) loc=zZ is vs (zF loc i (some v)):=rfl
theorem setLocs_out:∀ {is:List Nat} {vs:List PV} {loc:Loc} {i:Nat} {v:Option PV},i∉is→zZ is vs (zF loc i v)=(zZ is vs loc).map fun l=>zF l i v:=by
 intro l0
 induction l0 with
 |nil =>
  intro l1;cases l1 with
  |nil =>
   intro _ _ _ _;exact rfl
  |cons _ _ =>
   intro _ _ _ _;exact rfl
 |cons j is ih =>
  intro l1;cases l1 with
  |nil =>
   intro _ _ _ _;exact rfl
  |cons w vs =>
   intro loc i v h;rw [wZ,wZ,setAt_comm loc (fun e=>h (by rw [e]; exact mQ)),ih (fun m=>h (mC _ m))]
theorem zjI:∀ {is:List Nat} {vs:List PV} {loc l:Loc},zZ is vs loc=some l→is.length=vs.length:=by
 intro l0
 induction l0 with
 |nil =>
  intro l1;cases l1 with
  |nil =>
   intro _ _ _;exact rfl
  |cons _ _ =>
   intro _ _ h;cases h
 |cons j is ih =>
  intro l1;cases l1 with
  |nil =>
   intro _ _ h;cases h
  |cons w vs =>
   intro loc l h;exact congrArg (· + 1) (ih (l:=l) (wZ.symm.trans h))
theorem setLocs_snoc:∀ {is:List Nat} {vs:List PV} {loc:Loc} {i:Nat} {v:PV},is.length=vs.length→zZ (is++[i]) (vs++[v]) loc=(zZ is vs loc).map fun l=>zF l i (some v):=by
 intro l0
 induction l0 with
 |nil =>
  intro l1;cases l1 with
  |nil =>
   intro _ _ _ _;exact rfl
  |cons _ _ =>intros; contradiction
 |cons j is ih =>
  intro l1;cases l1 with
  |nil =>intros; contradiction
  |cons w vs =>
   intro loc i v h;rw [List.cons_append,List.cons_append,wZ];exact ih (Nat.succ.inj h)
theorem setLocs_rev:∀ {is:List Nat} {vs:List PV} {loc:Loc},is.Nodup→is.length=vs.length→zZ is.reverse vs.reverse loc=zZ is vs loc:=by
 intro l0
 induction l0 with
 |nil =>
  intro l1;cases l1 with
  |nil =>
   intro _ _ _;exact rfl
  |cons _ _ =>intros; contradiction
 |cons i is ih =>
  intro l1;cases l1 with
  |nil =>intros; contradiction
  |cons v vs =>
   intro loc h hl;rw [List.reverse_cons,List.reverse_cons,setLocs_snoc (by rw [List.length_reverse,List.length_reverse]; exact Nat.succ.inj hl),ih (List.nodup_cons.mp h).2 (Nat.succ.inj hl),wZ,setLocs_out (List.nodup_cons.mp h).1]
theorem all2_snoc {α β:Type} {r:α→β→Prop}:∀ {as:List α} {bs:List β} {a:α} {b:β},All2 r as bs→r a b→All2 r (as++[a]) (bs++[b]):=by
 intro l0
 induction l0 with
 |nil =>
  intro l1;cases l1 with
  |nil =>
   intro _ _ _ h;exact ⟨h,trivial⟩
  |cons _ _ =>intros; contradiction
 |cons _ _ ih =>
  intro l1;cases l1 with
  |nil =>intros; contradiction
  |cons _ _ =>
   intro _ _ h h2;exact ⟨h.1,ih h.2 h2⟩
theorem yeE {α β:Type} {r:α→β→Prop}:∀ {as:List α} {bs:List β},All2 r as bs→All2 r as.reverse bs.reverse:=by
 intro l0
 induction l0 with
 |nil =>
  intro l1;cases l1 with
  |nil =>
   intro _;exact trivial
  |cons _ _ =>intros; contradiction
 |cons _ _ ih =>
  intro l1;cases l1 with
  |nil =>intros; contradiction
  |cons _ _ =>
   intro h;rw [List.reverse_cons,List.reverse_cons]; exact all2_snoc (ih h.2) h.1
section
variable {G:Gl} {φ:Fx} {k:Nat} {R fz fz₁:zB} {μ μ₁:Mu} {loc loc':Loc} {H:Hp} {s:Shared}
noncomputable def Tgt (φ:Fx) (i:Nat) (x:Str):Prop:=φ.xs[i]? =some x∧(φ.env.kindOf x=some .local∨φ.env.kindOf x=some .cell)
noncomputable def ymC (G:Gl) (φ:Fx) (f:Value→Sem Unit) (x:Str):Prop:=∀ v (Q:Unit→Shared→Prop) E s,wpAny (model G.prog G.w) φ.A (storeName φ.env x v) Q E s→wpAny (model G.prog G.w) φ.A (f v) Q E s
theorem zmI (D:Good G φ k) (hc:φ.comp=none):∀ {is:List Nat} {xs:List Str} {fs:List (Value→Sem Unit)} {vs:List PV} {vals:List Value} {loc loc':Loc} {s:Shared},Sat G φ R fz μ loc H s→All2 (Tgt φ) is xs→All2 (ymC G φ) fs xs→VRs G fz μ vs vals →
  zZ is vs loc=some loc'→wpAny (model G.prog G.w) φ.A (assignInOrder fs vals) (fun _ s'=>Sat G φ R fz μ loc' H s') (fun _ _=>False) s:=by
 intro is
 induction is with
 |nil =>
  intro xs fs vs vals loc loc' s S h1 h2 h3 h;obtain rfl:=List.eq_nil_of_length_eq_zero (zE h1).symm;obtain rfl:=List.eq_nil_of_length_eq_zero (zE h2);cases vs with
  |nil =>
   obtain rfl:=List.eq_nil_of_length_eq_zero (zE h3).symm;exact Option.some.inj h▸wpAny_pure S
  |cons=>exact nomatch h
 |cons i is ih =>
  intro xs fs vs vals loc loc' s S h1 h2 h3 h;cases vs with
  |nil=>exact nomatch h
  |cons v vs =>
   cases xs with
   |nil=>exact h1.elim
   |cons x xs =>
    cases fs with
    |nil=>exact h2.elim
    |cons f fs =>
     cases vals with
     |nil=>exact h3.elim
     |cons y vals=>exact wpAny_assignInOrder_more (h2.1 _ _ _ _ (wpAny_mono (zpD D hc S h1.1.1 h1.1.2 h3.1) (fun _ s1 S1=>ih S1 h1.2 h2.2 h3.2 h) fun _ _ z=>z))
noncomputable abbrev tgts (ps:List (Str×Pos)):List Expr:=ps.map fun p=> .Name p.1 p.2
theorem zlG (env:Env):∀ (ps:List (Str×Pos)),assignEach (tgts ps) env=ps.map fun p=>(false,assign (.Name p.1 p.2) env):=by
 intro l0
 induction l0 with
 |nil =>exact rfl
 |cons p ps ih =>
  show (false,assign (.Name p.1 p.2) env)::assignEach (tgts ps) env=_;rw [ih]; rfl
theorem stores_each:∀ {ps:List (Str×Pos)},All2 (ymC G φ) (ps.map fun p=>assign (.Name p.1 p.2) φ.env) (ps.map (·.1)):=by
 intro l0
 induction l0 with
 |nil =>exact trivial
 |cons p ps ih =>exact ⟨fun v Q E s h=>assign_Name h,ih⟩
theorem stores_bind:∀ {xs:List Str},All2 (ymC G φ) (xs.map fun n=>bindName φ.env n) xs:=by
 intro l0
 induction l0 with
 |nil =>exact trivial
 |cons p ps ih =>exact ⟨fun v Q E s h=>bindName_ h,ih⟩
theorem findIdx_none {ps:List (Str×Pos)} {env:Env}:(ps.map fun p=>((false,assign (.Name p.1 p.2) env):Bool×(Value→Sem Unit))).findIdx? (·.1)=none:=by
 rw [List.findIdx?_eq_none_iff];intro x hx;refine oEA (List.mem_map.mp hx) fun p _ o1_=> ?_; obtain rfl:=o1_
 rfl
theorem ss_asgT (D:Good G φ k) (hc:φ.comp=none) {f:Loc→Hp→Rs PV} {is:List Nat} {ps:List (Str×Pos)} {kk:Nat} {tpos pos:Pos} {value:Expr} (hT:All2 (Tgt φ) is (ps.map (·.1)))
  (hs:swapsWith value (some (.Tuple (tgts ps) kk tpos)) pos.line φ.env=pure false) (hw:swappedStores [.Tuple (tgts ps) kk tpos] value φ.env=pure none∨(is.Nodup∧swappedStores [.Tuple (tgts ps) kk tpos] value φ.env=pure (some (ps.map (·.1)))))
  (h:EJ G φ f (eval value φ.env)) :
  SS G φ (fun loc H=>(f loc H).bind fun v H=>match v with | .tup vs=>zC ((zZ is vs loc).map .next) H|_=>.bad) (exec (.Assign [.Tuple (tgts ps) kk tpos] value pos) φ.env):=by
 intro R fz μ loc H s S hF;dsimp only at hF;have go:∀ {a:PV} {b:Value} {H':Hp} {fz':zB} {μ':Mu} {s':Shared},f loc H= .ok a H'→Ext fz μ fz' μ'→Sat G φ R fz' μ' loc H' s'→VR G fz' μ' a b →
   ∃ (vs:List PV) (vals:List Value) (n:Nat) (t:Addr) (loc':Loc),b= .ref t∧IsTup s'.heap t vals.toArray∧VRs G fz' μ' vs vals∧zZ is vs loc=some loc'∧is.length=vals.length ∧
    ((f loc H).bind fun v H=>match v with | .tup vs=>zC ((zZ is vs loc).map Fl.next) H|_=>.bad)= .ok (.next loc') H':=fun {a b H' fz' μ' s'} e x' S' w=>by
  rw [e] at hF ⊢
  replace hF:Fine φ (match a with | .tup vs=>zC ((zZ is vs loc).map Fl.next) H' | _=>.bad):=hF
  cases a with
  |tup vs =>
   refine z0 (w.tup') fun vals n t o1_ hp hz q=> ?_; obtain rfl:=o1_;obtain ⟨l,hl⟩:=z9 hF;refine oEA (Option.map_eq_some_iff.mp hl) fun loc' hl' o1_=> ?_; obtain rfl:=o1_;refine ⟨vs,vals,n,t,loc',rfl,S'.isTup D hp,q,hl',?_,?_⟩
   ·rw [zjI hl',zE q]
   ·show (match (PV.tup vs) with | .tup vs=>zC ((zZ is vs loc).map Fl.next) H' | _=>.bad)=_
    dsimp only;rw [hl']; rfl
  |_=>exact hF.elim
 have hss:swapsWithSole [.Tuple (tgts ps) kk tpos] value pos.line φ.env=pure false:=hs;have hip:is.length=ps.length:=by rw [zE hT,List.length_map]
 rcases hw with hw|⟨hnd,hw⟩
 ·refine Assign_Tuple (SS.open_ (g:=fun v loc H=>match v with | .tup vs=>zC ((zZ is vs loc).map Fl.next) H|_=>.bad) h S hF fun a b H' fz' μ' s' e x' S' w=> ?_) hss hw
  refine zkC (go e x' S' w) fun vs vals n t loc' o1_ ht q hl hn er=> ?_; obtain rfl:=o1_;dsimp only;rw [er];refine assign_Tuple_tuple D.hh ht (by rw [zlG,List.length_map,← hip,hn]; rfl) (by rw [zlG]; exact findIdx_none) fun h' x=> ?_;rw [zlG,List.map_map];have S2:Sat G φ R fz' μ' loc H' {s' with heap:=h'}:=S'.keeps (tk:=s'.toks) fun b o e=>x b o (Nat.ne_of_lt (Heap.lt_size e)) e;refine wpNo (wpAny_mono (zmI D hc S2 hT stores_each q hl) (fun _ s3 S3=>⟨.next _,H',fz',μ',_,rfl,x',S3,rfl⟩) fun _ _ z=>z)
 ·refine Assign_Tuple_swapped (SS.open_ (g:=fun v loc H=>match v with | .tup vs=>zC ((zZ is vs loc).map Fl.next) H|_=>.bad) h S hF fun a b H' fz' μ' s' e x' S' w=> ?_) hss hw
  refine zkC (go e x' S' w) fun vs vals n t loc' o1_ ht q hl hn er=> ?_; obtain rfl:=o1_;dsimp only;rw [er];have hsz:(ps.map (·.1)).length=vals.toArray.size:=by rw [List.length_map,← hip,hn]; rfl
  rw [hsz];refine unpackItems_tuple D.hh ht fun h' x=> ?_;have S2:Sat G φ R fz' μ' loc H' {s' with heap:=h'}:=S'.keeps (tk:=s'.toks) fun b o e=>x b o (Nat.ne_of_lt (Heap.lt_size e)) e;have q2:VRs G fz' μ' vs.reverse vals.reverse:=yeE q;refine wpNo (wpAny_mono (zmI D hc (is:=is.reverse) (xs:=(ps.map (·.1)).reverse) S2 (yeE hT) stores_bind q2 (by rw [setLocs_rev hnd (zjI hl)]; exact hl)) (fun _ s3 S3=>⟨.next _,H',fz',μ',_,rfl,x',S3,rfl⟩) fun _ _ z=>z)
end
noncomputable def zdG (k:Nat) (w v:PV) (loc:Loc) (H:Hp):Rs Fl:=match v with
 | .ref i=>match zA H i with
  | .att C ks vs=>if okA C k&&decide (ks.length<100) then let q:=setK ks vs k w; .ok (.next loc) (zF H i (.att C q.1 q.2)) else .bad
  |_=>.bad
 |_=>.bad
noncomputable def xO (w v k:PV) (loc:Loc) (H:Hp):Rs Fl:=match v with
 | .ref i=>match zA H i,k with
  | .dicI ks vs,.int k=>let q:=setK ks vs k w; if ks.length<SZ then .ok (.next loc) (zF H i (.dicI q.1 q.2)) else .bad
  | .dicS ks vs,.str k=>let q:=setK ks vs k w; if ks.length<SZ then .ok (.next loc) (zF H i (.dicS q.1 q.2)) else .bad
  |_,_=>.bad
 |_=>.bad
section
variable {G:Gl} {φ:Fx} {k:Nat} {T:Tab}
theorem ss_asgA (KO:KOk G T) (D:Good G φ k) (O:GOk G) (hs:swapsWith value (some (.Attribute o (nm j) apos)) pos.line φ.env=pure false)
  (h:EJ G φ f (eval value φ.env)) (ha:EJ G φ a (eval o φ.env)) :
  SS G φ (fun loc H=>(f loc H).bind fun w H=>(a loc H).bind fun v H=>zdG j w v loc H) (exec (.Assign [.Attribute o (nm j) apos] value pos) φ.env):=by
 intro R fz μ loc H s S hF;dsimp only at hF ⊢;refine plainObj_wpAny_Assign_Attribute (SS.open_ (g:=fun w loc H=>(a loc H).bind fun v H=>zdG j w v loc H) h S hF fun w y H1 fz1 μ1 s1 e1 x1 S1 w1=> ?_) hs;rw [e1] at hF ⊢
 replace hF:Fine φ ((a loc H1).bind fun v H=>zdG j w v loc H):=hF
 show wpAny _ _ _ _ (EX G φ R fz μ ((a loc H1).bind fun v H=>zdG j w v loc H)) _;refine wpAny_mono (ha R fz1 μ1 loc H1 s1 S1 trivial hF.fst) (fun x s2 ⟨v,H2,fz2,μ2,e2,x2,S2,w2⟩=> ?_) fun e s' h'=>h'.up x1 fun C H q=>by rw [q]; rfl
 rw [e2] at hF
 replace hF:Fine φ (zdG j w v loc H2):=hF
 have er:((Rs.ok w H1).bind fun w H=>(a loc H).bind fun v H=>zdG j w v loc H)=zdG j w v loc H2:=by
  show ((a loc H1).bind fun v H=>zdG j w v loc H)=_;rw [e2]; rfl
 rw [er];have w1':=w1.mono x2;unfold zdG at hF ⊢;cases v with
 |ref i =>
  dsimp only at hF ⊢;cases hh:zA H2 i with
  |att C ks vs =>
   rw [hh] at hF;dsimp only at hF ⊢
   by_cases hc:(okA C j&&decide (ks.length<100))=true
   ·rw [if_pos hc]
    rw [Bool.and_eq_true,decide_eq_true_eq] at hc;refine wpNo (wpAny_mono (lf_setAttr KO D O S2 w2 w1' hh hc.1 hc.2) (fun _ s3 S3=>⟨.next _,_,fz2,μ2,_,rfl,x1.trans x2,S3,rfl⟩) fun _ _ z=>z)
   ·rw [if_neg hc] at hF; exact hF.elim
  |_=>rw [hh] at hF; exact hF.elim
 |_=>exact hF.elim
theorem ss_asgI (D:Good G φ k) (hs:swapsWith value (some (.Subscript o i ipos)) pos.line φ.env=pure false)
  (h:EJ G φ f (eval value φ.env)) (ha:EJ G φ a (eval o φ.env)) (hb:EJ G φ b (eval i φ.env)) :
  SS G φ (fun loc H=>(f loc H).bind fun w H=>(a loc H).bind fun v H=>(b loc H).bind fun k H=>xO w v k loc H) (exec (.Assign [.Subscript o i ipos] value pos) φ.env):=by
 intro R fz μ loc H s S hF;dsimp only at hF ⊢;refine wpAny_Assign_Subscript (SS.open_ (g:=fun w loc H=>(a loc H).bind fun v H=>(b loc H).bind fun k H=>xO w v k loc H) h S hF fun w y H1 fz1 μ1 s1 e1 x1 S1 w1=> ?_) hs;rw [e1] at hF ⊢
 replace hF:Fine φ ((a loc H1).bind fun v H=>(b loc H).bind fun k H=>xO w v k loc H):=hF
 show wpAny _ _ _ _ (EX G φ R fz μ ((a loc H1).bind fun v H=>(b loc H).bind fun k H=>xO w v k loc H)) _;refine wpAny_mono (ha R fz1 μ1 loc H1 s1 S1 trivial hF.fst) (fun x s2 ⟨v,H2,fz2,μ2,e2,x2,S2,w2⟩=> ?_) fun e s' h'=>h'.up x1 fun C H q=>by rw [q]; rfl
 rw [e2] at hF
 replace hF:Fine φ ((b loc H2).bind fun k H=>xO w v k loc H):=hF
 refine wpAny_mono (hb R fz2 μ2 loc H2 s2 S2 trivial hF.fst) (fun key s3 ⟨kv,H3,fz3,μ3,e3,x3,S3,w3⟩=> ?_) fun e s' h'=>h'.up (x1.trans x2) fun C H q=>by
  show ((a loc H1).bind fun v H=>(b loc H).bind fun k H=>xO w v k loc H)=_;rw [e2];show ((b loc H2).bind _)=_;rw [q]; rfl
 rw [e3] at hF
 replace hF:Fine φ (xO w v kv loc H3):=hF
 have er:((a loc H1).bind fun v H=>(b loc H).bind fun k H=>xO w v k loc H)=xO w v kv loc H3:=by
  rw [e2];show ((b loc H2).bind fun k H=>xO w v k loc H)=_;rw [e3]; rfl
 have er2:((Rs.ok w H1).bind fun w H=>(a loc H).bind fun v H=>(b loc H).bind fun k H=>xO w v k loc H)=xO w v kv loc H3:=er;rw [er2];have w1':=(w1.mono x2).mono x3;have w2':=w2.mono x3;unfold xO at hF ⊢;cases v with
 |ref i =>
  dsimp only at hF ⊢;cases hh:zA H3 i with
  |dicI ks vs =>
   rw [hh] at hF;cases kv with
   |int j =>
    dsimp only at hF ⊢
    by_cases hc:ks.length<SZ
    ·rw [if_pos hc]
     exact wpNo (wpAny_mono (lf_setI D S3 w2' w3 w1' hh hc) (fun _ s4 S4=>⟨.next _,_,fz3,μ3,_,rfl,(x1.trans x2).trans x3,S4,rfl⟩) fun _ _ z=>z)
    ·rw [if_neg hc] at hF; exact hF.elim
   |_=>exact hF.elim
  |dicS ks vs =>
   rw [hh] at hF;cases kv with
   |str j =>
    dsimp only at hF ⊢
    by_cases hc:ks.length<SZ
    ·rw [if_pos hc]
     exact wpNo (wpAny_mono (lf_setS D S3 w2' w3 w1' hh hc) (fun _ s4 S4=>⟨.next _,_,fz3,μ3,_,rfl,(x1.trans x2).trans x3,S4,rfl⟩) fun _ _ z=>z)
    ·rw [if_neg hc] at hF; exact hF.elim
   |_=>exact hF.elim
  |_=>rw [hh] at hF; exact hF.elim
 |_=>exact hF.elim
end
end Mine
end
section
open PySem PySem.W PyProof.Rows PySem.Calls Builtin
namespace Mine
set_option tactic.hygienic false
open Builtin._codecs in
theorem encodeRoad_ascii (self:Value) (x:Str):encodeRoad "str.encode" self x (Str.ofString "ascii") none=(do mkBytes (← encodeNarrow "str.encode" asciiCodec none self x)):=by
 first|rfl|(unfold encodeRoad; rfl)|(unfold encodeRoad; simp only []; rfl)|decide
open Builtin._codecs in
theorem encode_tree2 (x:Str) (t u:Tok):Builtin.«str.encode» ⟨[.str x t,.str (Str.ofString "ascii") u],[]⟩=(do ret (← encodeRoad "str.encode" (.str x t) x (Str.ofString "ascii") none)):=by
 kernel_rfl
theorem fold_list:∀ (l:List Nat) (acc:Array UInt8),l.foldl (fun acc y=>acc++(Builtin._codecs.asciiCodec.bytesOf y).toArray) acc=acc++(l.map (·.toUInt8)).toArray:=by
 intro l0
 induction l0 with
 |nil =>
  intro acc
  simp
 |cons a r ih =>
  intro acc;rw [List.foldl_cons,ih];show (acc++ #[a.toUInt8])++_=_
  simp
theorem zoC (x:Array Nat):x.foldl (fun acc y=>acc++(Builtin._codecs.asciiCodec.bytesOf y).toArray) #[]=x.map (·.toUInt8):=by
 rw [← Array.foldl_toList,fold_list];apply Array.ext'
 simp
theorem two_loop {β γ:Type} {b b1:β} {f:Nat→β→Sem (ForInStep β)} {k:β→Sem γ} {r:Sem γ} (h1:0<n→f 0 b=pure (.yield b1)) (h2:0<n→f 1 b1=pure (.done b1)) (h3:0<n→k b1=r) (h0:n=0→k b=r):(forIn [0:n] b f >>= k)=r:=by
 rw [Std.Legacy.Range.forIn_eq_forIn_range']
 match n,h0,h1,h2,h3 with
 |0,h0,_,_,_=>exact (pure_bind _ _).trans (h0 rfl)
 |1,_,h1,_,h3 =>
  show (forIn [0] b f >>= k)=r;rw [List.forIn_cons,h1 Nat.one_pos,pure_bind];exact (pure_bind _ _).trans (h3 Nat.one_pos)
 |n+2,_,h1,h2,h3 =>
  have e:(n+2-0+1-1) / 1=n+1+1:=Nat.div_one _;show (forIn (List.range' 0 ((n+2-0+1-1) / 1) 1) b f >>= k)=r;rw [e,List.range'_succ,List.range'_succ,List.forIn_cons,h1 (Nat.succ_pos _),pure_bind];show (forIn (1::_) b1 f >>= k)=r;rw [List.forIn_cons,h2 (Nat.succ_pos _),pure_bind];exact (pure_bind _ _).trans (h3 (Nat.succ_pos _))
open Builtin._codecs in
theorem encodeNarrow_ascii (self:Value) (x:Str) (h:x.cps.findIdx? asciiCodec.bad=none) (hz:x.cps.size≤sizeLine):encodeNarrow "str.encode" asciiCodec none self x=pure (x.cps.foldl (fun acc y=>acc++(asciiCodec.bytesOf y).toArray) #[]):=by
 have hb:∀ a∈x.cps,asciiCodec.bad a=false:=fun a ha=>by
  rw [Array.findIdx?_eq_none_iff] at h
  simpa using h a ha
 have hex:x.cps.extract 0 x.cps.size=x.cps:=Array.extract_size;have hle:¬ (x.cps.foldl (fun acc y=>acc++(asciiCodec.bytesOf y).toArray) #[]).size>sizeLine:=by rw [zoC,Array.size_map]; exact Nat.not_lt.mpr hz
 have hnone:x.cps[0+x.cps.size]? =none:=Array.getElem?_eq_none (Nat.le_of_eq (Nat.zero_add _).symm);unfold encodeNarrow;refine two_loop (b1:=(0+x.cps.size,x.cps.foldl (fun acc y=>acc++(asciiCodec.bytesOf y).toArray) #[],{})) (fun hn=> ?_) (fun hn=> ?_) (fun hn=>rfl) fun hn=> ?_
 ·have hlt:0<x.cps.size:=hn
  refine (if_neg (Nat.not_lt_zero _)).trans ?_;dsimp only;rw [Array.getElem?_eq_getElem hlt];dsimp only;rw [hb _ (Array.getElem_mem (xs:=x.cps) hlt)];refine (if_pos rfl).trans ?_;rw [hex,h];dsimp only [Option.getD_none];rw [hex]
 ·refine (if_neg hle).trans ?_
  dsimp only;rw [hnone]
 ·have e:x.cps= #[]:=Array.eq_empty_of_size_eq_zero hn
  rw [e]; rfl
section
variable {G:Gl} {φ:Fx} {k:Nat} {R fz:zB} {μ:Mu} {loc:Loc} {H:Hp} {s:Shared}
theorem zfD {x:Str} {l:List Nat} (h:x.cps.toList=l):x=⟨l.toArray⟩:=by
 obtain ⟨c⟩:=x;subst h
 simp
theorem lf_enc (S:Sat G φ R fz μ loc H s) (ha:VR G fz μ (.str l) x) (hb:VR G fz μ (.str c) y) (hc:c=[97,115,99,105,105]) (hl:l.all (· < 128)=true) (hz:l.length≤SZ) :
  wpAny (model G.prog G.w) φ.A (call (.builtin "str.encode") [x,y]) (LQ (wV G) G φ R fz μ loc H (.bytes l)) (fun _ _=>False) s:=by
 refine zcE (ha.str') fun e t o1_ he _=> ?_; obtain rfl:=o1_;refine zcE (hb.str') fun e2 u o1_ he2 _=> ?_; obtain rfl:=o1_;subst hc;obtain rfl:=zfD he2;have hsz:e.cps.size=l.length:=by rw [← Array.length_toList,he]
 have hbad:e.cps.findIdx? Builtin._codecs.asciiCodec.bad=none:=by
  rw [Array.findIdx?_eq_none_iff];intro a ha;have ha':a∈l:=by rw [← he]; exact Array.mem_toList_iff.mpr ha
  have:=List.all_eq_true.mp hl a ha';simp only [decide_eq_true_eq] at this
  simp [Builtin._codecs.asciiCodec,this]
 have hsl:e.cps.size≤sizeLine:=by rw [hsz]; exact Nat.le_trans hz y7
 refine wpAny_call_entry PySem.F.slot_str_encode (PySem.typeIs_str _ _ _) PySem.F.entry_str_encode ?_ (PySem.F.args_str_encode_2 _ _);show wpAny (model G.prog G.w) φ.A.in1 (Builtin.«str.encode» ⟨[.str e t,.str (Str.ofString "ascii") u],[]⟩) _ _ s;rw [encode_tree2,encodeRoad_ascii,encodeNarrow_ascii _ _ hbad hsl,pure_bind,zoC];refine wpAny_bind ?_;unfold mkBytes;rw [if_neg (by rw [Array.size_map]; lia)];refine wpAny_bind (wpAny_fresh (wpAny_pure (wpAny_pure ⟨_,rfl,LQ.tok S (zcC ?_ ?_)⟩)))
 ·rw [Array.toList_map,he,List.map_map]
  have:∀ n∈l,(UInt8.toNat ∘ fun n:Nat=>n.toUInt8) n=n:=fun n hn=>by
   have:=List.all_eq_true.mp hl n hn;simp only [decide_eq_true_eq] at this;show (UInt8.ofNat n).toNat=n;rw [UInt8.toNat_ofNat']; exact Nat.mod_eq_of_lt (by lia)
  rw [List.map_congr_left this,List.map_id']
 ·rw [Array.size_map,hsz]; exact hz
end
end Mine
end
section
open PySem PySem.W PyProof.Rows PySem.Calls
namespace Mine
set_option tactic.hygienic false
section
variable {G:Gl} {φ:Fx} {k:Nat} {R fz:zB} {μ:Mu} {loc:Loc} {H:Hp} {s:Shared}
theorem ej_dct0 (D:Good G φ k) (O:GOk G) {isI:Bool} {pos:Pos}:EJ G φ (fun loc H=>.ok (.ref H.length) (H++[if isI then .dicI [] [] else .dicS [] []])) (eval (.Dict [] [] pos) φ.env):=by
 refine SJ.hf (f:=fun H=>Rs.ok (PV.ref H.length) (H++[if isI then .dicI [] [] else .dicS [] []])) fun R fz μ loc H s S g _=>⟨_,_,rfl,?_⟩;have nm:=S.notMods D O;refine wpAny_Dict_empty ?_;have kp:∀ b ob,s.heap.get? b=some ob→(s.heap.push {cls:=.type "dict",data:=.dict #[]}).get? b=some ob:=fun b ob e=>Heap.get?_push_of_some _ e;cases isI with
 |true =>
  refine oEA (Heap.dictOf_iff.mp (Heap.DictOf.new (knd:=PySem.intKind G.prog G.w) s.heap)) fun o ho hd=> ?_;exact HQ.mpush S (tk:=s.toks) kp ho S.none_ trivial ⟨rfl,[],⟨nm,Nat.zero_le _⟩,zK.of (Heap.DictOf.new s.heap) ho,rfl,trivial⟩
 |false =>
  refine oEA (Heap.dictOf_iff.mp (Heap.DictOf.new (knd:=PySem.strKind G.prog G.w) s.heap)) fun o ho hd=> ?_;exact HQ.mpush S (tk:=s.toks) kp ho S.none_ trivial ⟨rfl,[],⟨nm,Nat.zero_le _,fun _ h=>by cases h⟩,zK.of (Heap.DictOf.new s.heap) ho,rfl,trivial⟩
end
end Mine
end
section
open PySem PySem.W PyProof.Rows PySem.Calls Builtin
namespace Mine
set_option tactic.hygienic false
theorem bytes_repr_tree (x:Array UInt8) (t:Tok):Builtin.«bytes.__repr__» ⟨[.bytes x t],[]⟩=(do retStr (← Builtin.Bytes.literalAsked x)):=by rfl
theorem wL (x:Array UInt8) (t:Tok) (h:4*x.size+3≤sizeLine):Gives (Builtin.«bytes.__repr__» ⟨[.bytes x t],[]⟩) (.str (Builtin.Bytes.literal x)):=by
 rw [bytes_repr_tree];unfold Builtin.Bytes.literalAsked;have:Builtin.Bytes.tooLong (4*x.size+3+0)=false:=by
  unfold Builtin.Bytes.tooLong
  simpa using h
 rw [this];exact .of_eq rfl
theorem wY:Slot "bytes" "__repr__" "bytes.__repr__" :=.of (owner:= "bytes") (n:= "__repr__") (by rw [typeLookup_type,builtinLookup_eq_fast]; kernel_rfl) (by decide +kernel) (by decide +kernel) (by decide +kernel)
  (by first|exact .inl (by decide +kernel)|exact .inr (by decide +kernel)) (by rw [isSubtype_type]; kernel_rfl)
theorem wM:entryFor table "bytes.__repr__" =some Builtin.«bytes.__repr__» :=by first|exact entryFor_of_fast (by kernel_rfl)|exact entryFor_of_tree (by kernel_rfl)
theorem zaF (a:Value):argsOk "bytes.__repr__" ⟨[a],[]⟩:=by unfold argsOk; kernel_rfl
theorem lit_fold (q:Nat) (f:Nat→Array Nat) (hf:∀ c,(f c).size≤4):∀ (l:List UInt8) (acc:Array Nat),(l.foldl (fun acc c=>acc++f c.toNat) acc).size≤acc.size+4*l.length:=by
 intro l0
 induction l0 with
 |nil =>
  intro acc
  simp
 |cons c r ih =>
  intro acc;rw [List.foldl_cons];have:=ih (acc++f c.toNat);have:=hf c.toNat;simp only [Array.size_append,List.length_cons] at *
  lia
theorem zcG (x:Array UInt8):(Builtin.Bytes.literal x).length≤4*x.size+3:=by
 unfold Builtin.Bytes.literal;dsimp only;show (Array.push _ _).size≤_;rw [Array.size_push,← Array.foldl_toList];have h:=lit_fold 0 (fun c=>if (c==(if (false:Bool)=true then 39 else if (x.contains 39&& !x.contains 34)=true then 34 else 39)||c==92)=true then #[92,c]
  else if (c==9)=true then #[92,116]
  else if (c==10)=true then #[92,110]
  else if (c==13)=true then #[92,114]
  else if (decide (c<32)||decide (c≥127))=true then #[92,120,if c / 16<10 then 48+c / 16 else 87+c / 16,if c % 16<10 then 48+c % 16 else 87+c % 16]
  else #[c]) (fun c=>by (repeat' split) <;> simp) x.toList #[98,if (x.contains 39&& !x.contains 34)=true then 34 else 39]
 simp only [Array.length_toList] at h;have e:(#[98,if (x.contains 39&& !x.contains 34)=true then 34 else 39]:Array Nat).size=2:=rfl;rw [e] at h;refine Nat.le_trans (Nat.succ_le_succ h) (by lia)
mutual
noncomputable def xN:PV→Str
 | .tup vs=>tupleText (xM vs)
 | .str l=>reprText ⟨l.toArray⟩
 | .bytes l=>Builtin.Bytes.literal (l.map (·.toUInt8)).toArray
 | .int i=>Str.ofString (toString i)
 |_=>Str.ofString ""
noncomputable def xM:List PV→List Str
 |[]=>[]
 |v::vs=>xN v::xM vs
end
theorem tupleText_len (ts:List Str):(tupleText ts).length≤piled ts+3:=by
 unfold tupleText;rw [strLen_append,strLen_append];have h2:(Str.ofString (if (ts.length==1)=true then ",)" else ")")).length≤2:=by split <;> decide
 have h3:("(" : Str).length=1:=by decide
 have h4:(Str.join ", " ts).length≤piled ts:=by
  cases ts with
  |nil=>decide
  |cons a b=>have:=join_length_add (a::b) (by simp); lia
 show ("(" : Str).length+(Str.join ", " ts).length+(Str.ofString (if (ts.length==1)=true then ",)" else ")")).length≤_
 lia
noncomputable def ihT (N:List PV→Prop) (v:PV):Prop:=match v with
 | .tup vs=>N vs
 |_=>True
theorem zdE {M:PV→Prop} {N:List PV→Prop} (h:∀ v,ihT N v→M v) (hn:N []) (hc:∀ v vs,M v→N vs→N (v::vs)) (v:PV):M v :=
 PV.rec (motive_1:=M) (motive_2:=N) (h _ trivial) (fun _=>h _ trivial) (fun _=>h _ trivial) (fun _=>h _ trivial) (fun _=>h _ trivial) (fun _=>h _ trivial) (fun vs ih=>h (.tup vs) ih) (fun _ _=>h _ trivial) (fun _ _ _=>h _ trivial) (fun _ _ _=>h _ trivial)
  (fun _ _ _ _=>h _ trivial) (fun _=>h _ trivial) (fun _=>h _ trivial) (fun _=>h _ trivial) (fun _ _ _=>h _ trivial) hn (fun v vs a b=>hc v vs a b) v
theorem trees_ind {M:PV→Prop} {N:List PV→Prop} (h:∀ v,ihT N v→M v) (hn:N []) (hc:∀ v vs,M v→N vs→N (v::vs)):∀ vs,N vs:=by
 intro l0
 induction l0 with
 |nil =>exact hn
 |cons v vs ih =>exact hc v vs (zdE h hn hc v) (ih)
theorem zhA {M:PV→Bool→Prop} (h0:∀ v,M v false) (ht:∀ vs,M (.tup vs) (okRs vs)) (hs:∀ l:List Nat,M (.str l) (l.all (· < 4294967296))) (hb:∀ l,M (.bytes l) true) (hi:∀ i:Int,M (.int i) (decide (i.natAbs<10 ^ 60))) (v:PV):M v (okR v):=by
 cases v <;> first|exact h0 _|exact ht _|exact hs _|exact hb _|exact hi _
theorem textR_step (v:PV):ihT (fun vs=>okRs vs=true→piled (xM vs)≤szRs vs) v→okR v=true→(xN v).length≤szR v :=
 zhA (M:=fun v r=>ihT (fun vs=>okRs vs=true→piled (xM vs)≤szRs vs) v→r=true→(xN v).length≤szR v) (fun _ _ h=>Bool.noConfusion h)
  (fun vs ih h=>Nat.le_trans (tupleText_len (xM vs)) (Nat.add_le_add_right (ih h) 3))
  (fun l _ h=>by
   show (reprText ⟨l.toArray⟩).length≤10*l.length+2;refine StrLaws.reprText_len ⟨l.toArray⟩ fun c hc=> ?_;rw [show (16:Nat) ^ 8=4294967296 from rfl];exact of_decide_eq_true (List.all_eq_true.mp h c hc))
  (fun l _ _=>by
   have h:=zcG (l.map (·.toUInt8)).toArray;rw [List.size_toArray,List.length_map] at h;exact h)
  (fun i _ h=>by
   show (Str.ofString (toString i)).length≤61;rw [PySem.ofString_length];exact int_text_length_le10 (a:=i) (k:=60) (by decide) (of_decide_eq_true h)) v
theorem textR_nil:okRs []=true→piled (xM [])≤szRs []:=fun _=>Nat.le_refl _
theorem textR_cons (v:PV) (vs:List PV) (hv:okR v=true→(xN v).length≤szR v) (hs:okRs vs=true→piled (xM vs)≤szRs vs) (h:okRs (v::vs)=true):piled (xM (v::vs))≤szRs (v::vs):=by
 have h:=Bool.and_eq_true_iff.mp h;show piled (xN v::xM vs)≤szR v+2+szRs vs;rw [piled_cons];have:=hv h.1;have:=hs h.2
 lia
theorem zdF {v:PV}:okR v=true→(xN v).length≤szR v:=zdE (M:=fun v=>okR v=true→(xN v).length≤szR v) textR_step textR_nil textR_cons v
section
variable {G:Gl} {φ:Fx} {k:Nat} {R fz:zB} {μ:Mu} {loc:Loc} {H:Hp} {s:Shared}
theorem ReprIs.bytesV (x:Array UInt8) (t:Tok) (hz:4*x.size+3≤sizeLine):ReprIs prog w (.bytes x t) (Builtin.Bytes.literal x):=fun n hn _ _ _ _ h=>by
 have hn':n≤sizeLine:=by lia
 rw [pyReprUnder_leaf (v:=.bytes x t) hn' (fun _ e=>nomatch e)];unfold pyRepr;exact wpAny_bind (wpAny_pyReprObj_gives (typeIs_bytes _ x t) wY wM (zaF _) (wL x t hz) (wpAny_pure (h _)) rfl (Nat.le_trans (zcG x) hz))
noncomputable def Tree (G:Gl) (fz:zB) (μ:Mu) (n:Nat) (b:Addr):Prop:=∃ v,okR v=true∧zX v≤n∧VR G fz μ v (.ref b)
theorem zuE {x:Array UInt8} {l:List Nat} (h:x.toList.map UInt8.toNat=l):(l.map (·.toUInt8)).toArray=x:=by
 subst h;apply Array.ext';rw [List.map_map];have:∀ c∈x.toList,((fun n:Nat=>n.toUInt8) ∘ UInt8.toNat) c=c:=fun c _=>by simp
 show (List.map ((fun n:Nat=>n.toUInt8) ∘ UInt8.toNat) x.toList)=_;rw [List.map_congr_left this,List.map_id']
theorem seq_same {x y:List Value} {m n:Nat} {a:Addr} {h:Heap} (p:h.get? a=some (tupO x m)) (q:h.get? a=some (tupO y n)):x=y:=by
 have e:=congrArg Obj.data (Option.some.inj (p.symm.trans q))
 injection e with e1
 exact (Array.mk.inj e1)
noncomputable abbrev One (G:Gl) (fz:zB) (μ:Mu) (v:PV):Prop:=∀ v' x,okR v'=true→VR G fz μ v x→VR G fz μ v' x→v=v'
noncomputable abbrev Ones (G:Gl) (fz:zB) (μ:Mu) (vs:List PV):Prop:=okRs vs=true→∀ vs' xs,okRs vs'=true→VRs G fz μ vs xs→VRs G fz μ vs' xs→vs=vs'
theorem one_step (D:Good G φ k) (S:Sat G φ R fz μ loc H s) (v:PV):ihT (Ones G fz μ) v→okR v=true→One G fz μ v :=
 zhA (M:=fun v r=>ihT (Ones G fz μ) v→r=true→One G fz μ v) (fun _ _ h=>Bool.noConfusion h)
  (fun vs ih h v' x h' q=>VR.tup_el (P:=fun x=>VR G fz μ v' x→ .tup vs=v') q fun vals n a hp _ r=>zhA (M:=fun v' r'=>r'=true→VR G fz μ v' (.ref a)→ .tup vs=v') (fun _ h=>Bool.noConfusion h)
   (fun vs' h' q'=>by
    refine z0 (q'.tup') fun vals' n' a' e hp' _ r'=> ?_;rw [← Value.ref.inj e] at hp';rw [← seq_same (S.P D hp) (S.P D hp')] at r';rw [ih h vs' vals h' r r'])
   (fun l _ q'=>by refine oEEA (q'.str') fun _ _ e _=> ?_; exact nomatch e) (fun l _ q'=>by refine oEEA (q'.bytes') fun _ _ e _=> ?_; exact nomatch e) (fun l _ q'=>by obtain ⟨_,e⟩:=q'.int'; exact nomatch e) v' h')
  (fun l _ _ v' x h' q=>VR.str_el (P:=fun x=>VR G fz μ v' x→ .str l=v') q fun y t e _=>zhA (M:=fun v' r'=>r'=true→VR G fz μ v' (.str y t)→ .str l=v') (fun _ h=>Bool.noConfusion h)
   (fun vs' _ q'=>by refine wQ (q'.tup') fun _ _ _ e _=> ?_; exact nomatch e) (fun l' _ q'=>by refine zcE (q'.str') fun _ _ e' e2 _=> ?_; exact by rw [← e,← e2,(Value.str.inj e').1]) (fun l _ q'=>by refine oEEA (q'.bytes') fun _ _ e _=> ?_; exact nomatch e) (fun l _ q'=>by obtain ⟨_,e⟩:=q'.int'; exact nomatch e) v' h')
  (fun l _ _ v' x h' q=>VR.bytes_el (P:=fun x=>VR G fz μ v' x→ .bytes l=v') q fun y t e _=>zhA (M:=fun v' r'=>r'=true→VR G fz μ v' (.bytes y t)→ .bytes l=v') (fun _ h=>Bool.noConfusion h)
   (fun vs' _ q'=>by refine wQ (q'.tup') fun _ _ _ e _=> ?_; exact nomatch e) (fun l' _ q'=>by refine oEEA (q'.str') fun _ _ e _=> ?_; exact nomatch e) (fun l _ q'=>by refine zcE (q'.bytes') fun _ _ e' e2 _=> ?_; exact by rw [← e,← e2,(Value.bytes.inj e').1]) (fun l _ q'=>by obtain ⟨_,e⟩:=q'.int'; exact nomatch e) v' h')
  (fun l _ _ v' x h' q=>VR.int_el (P:=fun x=>VR G fz μ v' x→ .int l=v') q fun t=>zhA (M:=fun v' r'=>r'=true→VR G fz μ v' (.int l t)→ .int l=v') (fun _ h=>Bool.noConfusion h)
   (fun vs' _ q'=>by refine wQ (q'.tup') fun _ _ _ e _=> ?_; exact nomatch e) (fun l' _ q'=>by refine oEEA (q'.str') fun _ _ e _=> ?_; exact nomatch e) (fun l _ q'=>by refine oEEA (q'.bytes') fun _ _ e _=> ?_; exact nomatch e) (fun l' _ q'=>by obtain ⟨_,e⟩:=q'.int'; exact by rw [(Value.int.inj e).1]) v' h') v
theorem one_nil:Ones G fz μ []:=fun _ vs' xs _ q q'=>List.eq_nil_of_length_eq_zero ((zE q').trans (zE q).symm) |> Eq.symm
theorem one_cons (v:PV) (vs:List PV) (hv:okR v=true→One G fz μ v) (hs:Ones G fz μ vs):Ones G fz μ (v::vs):=fun h vs' xs h' q q'=>by
 cases xs with
 |nil=>exact q.elim
 |cons x xs=>cases vs' with
  |nil=>exact q'.elim
  |cons v' vs' =>
   have h:=Bool.and_eq_true_iff.mp h;have h':=Bool.and_eq_true_iff.mp h';rw [hv h.1 v' x h'.1 q.1 q'.1,hs h.2 vs' xs h'.2 q.2 q'.2]
theorem tree_one (D:Good G φ k) (S:Sat G φ R fz μ loc H s) (h:okR v=true) (h':okR v'=true) (q:VR G fz μ v x) (q':VR G fz μ v' x):v=v' :=
 zdE (M:=fun v=>okR v=true→One G fz μ v) (one_step D S) one_nil one_cons v h v' x h' q q'
noncomputable abbrev Rp (G:Gl) (fz:zB) (μ:Mu) (s:Shared) (v:PV):Prop:=okR v=true→szR v≤SZ→∀ x,VR G fz μ v x→∃ as,(∀ b∈as,Tree G fz μ (zX v) b)∧ReprK G.prog G.w as s.heap (zX v) x (xN v)
noncomputable abbrev Rps (G:Gl) (fz:zB) (μ:Mu) (s:Shared) (vs:List PV):Prop:=okRs vs=true→szRs vs≤SZ→∀ xs,VRs G fz μ vs xs→∃ as,(∀ b∈as,Tree G fz μ (z8 vs) b)∧ReprAllK G.prog G.w as s.heap (z8 vs) xs (xM vs)
theorem Tree.le (h:Tree G fz μ m b) (l:m≤n):Tree G fz μ n b:=by refine oEAA h fun v a c d=> ?_; (try clear h); exact ⟨v,a,Nat.le_trans c l,d⟩
theorem ylE {i:Int} (h:i.natAbs<10 ^ 60):i.natAbs.log2<200:=by
 by_cases h0:i.natAbs=0
 ·rw [h0]; decide
 ·exact (Nat.log2_lt h0).mpr (Nat.lt_trans h (by decide +kernel))
theorem bsz {y:Array UInt8} {l:List Nat} (e:y.toList.map UInt8.toNat=l):y.size=l.length:=by rw [← Array.length_toList,← e,List.length_map]
theorem ypA {vs:List PV} {a:Addr} {as:List Addr} (D:Good G φ k) (S:Sat G φ R fz μ loc H s) (h:okRs vs=true) (q:VR G fz μ (.tup vs) (.ref a)) (h1:∀ b∈as,Tree G fz μ (z8 vs) b):a∉as:=fun hm=>by
 refine oEAA (h1 a hm) fun v' o1 o2 o3=> ?_;rw [← tree_one D S (v:=.tup vs) h o1 q o3] at o2;exact Nat.not_succ_le_self _ o2
theorem ygF:xN (.bytes l)=Builtin.Bytes.literal (l.map (·.toUInt8)).toArray:=rfl
theorem rp_step (D:Good G φ k) (S:Sat G φ R fz μ loc H s) (v:PV):ihT (Rps G fz μ s) v→Rp G fz μ s v:=fun ih h =>
 zhA (M:=fun v r=>ihT (Rps G fz μ s) v→r=true→szR v≤SZ→∀ x,VR G fz μ v x→∃ as,(∀ b∈as,Tree G fz μ (zX v) b)∧ReprK G.prog G.w as s.heap (zX v) x (xN v)) (fun _ _ h=>Bool.noConfusion h)
  (fun vs ih h hz x q=>VR.tup_el (P:=fun x=>VR G fz μ (.tup vs) x→∃ as,(∀ b∈as,Tree G fz μ (z8 vs+1) b)∧ReprK G.prog G.w as s.heap (z8 vs+1) x (tupleText (xM vs))) q (fun vals n a hp _ r q=>by
   refine oEA (ih h (Nat.le_trans (Nat.le_add_right (szRs vs) 3) hz) vals r) fun as h1 h2=> ?_;refine ⟨a::as,fun b hb=>(mN hb).elim (fun e=>e▸⟨.tup vs,h,Nat.le_refl _,q⟩) fun hb=>(h1 b hb).le (Nat.le_succ _),?_⟩;exact ReprK.tuple (S.P D hp) rfl rfl (ypA D S h q h1) h2) q)
  (fun l _ h hz x q=>VR.str_el (P:=fun x=>∃ as,(∀ b∈as,Tree G fz μ 0 b)∧ReprK G.prog G.w as s.heap 0 x (reprText ⟨l.toArray⟩)) q fun y t e _=>by
   have hl:(reprText ⟨l.toArray⟩).length≤szR (.str l):=zdF (v:=.str l) h;rw [zfD e];exact ⟨[],(fun _ h=>nomatch h),ReprK.of_is (ReprIs.str _ t (Nat.le_trans hl (Nat.le_trans hz y7))) _ _ _⟩)
  (fun l _ h hz x q=>VR.bytes_el (P:=fun x=>∃ as,(∀ b∈as,Tree G fz μ (zX (.bytes l)) b)∧ReprK G.prog G.w as s.heap (zX (.bytes l)) x (xN (.bytes l))) q fun y t e _=>by
   rw [ygF,zuE e];exact ⟨[],(fun _ h=>nomatch h),ReprK.of_is (ReprIs.bytesV y t (by rw [bsz e]; exact Nat.le_trans (show 4*l.length+3≤SZ from hz) y7)) _ _ _⟩)
  (fun i _ h hz x q=>VR.int_el (P:=fun x=>∃ as,(∀ b∈as,Tree G fz μ 0 b)∧ReprK G.prog G.w as s.heap 0 x (Str.ofString (toString i))) q fun t => ⟨[],(fun _ h=>nomatch h),ReprK.of_is (ReprIs.int t (Nat.lt_of_lt_of_le (ylE (of_decide_eq_true h)) (by decide))) _ _ _⟩) v ih h
theorem rp_nil:Rps G fz μ s []:=fun _ _ xs q=>by
 cases xs with
 |nil=>exact ⟨[],(fun _ h=>nomatch h),.nil⟩
 |cons=>exact q.elim
theorem rp_cons (v:PV) (vs:List PV) (hv:Rp G fz μ s v) (hs:Rps G fz μ s vs):Rps G fz μ s (v::vs):=fun h hz xs q=>by
 cases xs with
 |nil=>exact q.elim
 |cons x xs =>
  have h:=Bool.and_eq_true_iff.mp h;have hz:szR v+2+szRs vs≤SZ:=hz;refine oEA (hv h.1 (Nat.le_trans (by rw [Nat.add_assoc]; exact Nat.le_add_right _ _) hz) x q.1) fun as h1 h2=> ?_;refine oEA (hs h.2 (Nat.le_trans (Nat.le_add_left _ _) hz) xs q.2) fun bs h3 h4=> ?_;exact ⟨as++bs,fun b hb=>(mP hb).elim (fun hb=>(h1 b hb).le (Nat.le_max_left _ _)) fun hb=>(h3 b hb).le (Nat.le_max_right _ _),
   .cons ((h2.more fun b hb=>mL _ hb).level_le (Nat.le_max_left _ _)) (h4.more_le (fun b hb=>mR _ hb) (Nat.le_max_right _ _))⟩
theorem repr_trees (D:Good G φ k) (S:Sat G φ R fz μ loc H s) (h:okRs vs=true) (hz:szRs vs≤SZ) (q:VRs G fz μ vs xs):∃ as,(∀ b∈as,Tree G fz μ (z8 vs) b)∧ReprAllK G.prog G.w as s.heap (z8 vs) xs (xM vs) :=
 trees_ind (M:=Rp G fz μ s) (rp_step D S) rp_nil rp_cons vs h hz xs q
end
end Mine
end
section
open PySem PySem.W PyProof.Rows PySem.Calls
namespace Mine
set_option tactic.hygienic false
theorem sameR_el {M:PV→PV→Bool→Prop} (h0:∀ a b,M a b false) (ht:∀ a b,M (.tup a) (.tup b) (znD a b)) (hs:∀ a b,M (.str a) (.str b) (a==b)) (hb:∀ a b,M (.bytes a) (.bytes b) (a==b)) (hi:∀ a b,M (.int a) (.int b) (a==b)) (a b:PV):M a b (wO a b):=by
 cases a <;> first|exact h0 _ _|(cases b <;> first|exact h0 _ _|exact ht _ _|exact hs _ _|exact hb _ _|exact hi _ _)
theorem sameR_eq (v:PV):∀ w,wO v w=true→v=w :=
 zdE (M:=fun v=>∀ w,wO v w=true→v=w) (N:=fun vs=>∀ ws,znD vs ws=true→vs=ws)
  (fun v ih w h=>sameR_el (M:=fun v w r=>ihT (fun vs=>∀ ws,znD vs ws=true→vs=ws) v→r=true→v=w) (fun _ _ _ h=>Bool.noConfusion h) (fun a b ih h=>congrArg PV.tup (ih b h)) (fun _ _ _ h=>congrArg PV.str (beq_iff_eq.mp h)) (fun _ _ _ h=>congrArg PV.bytes (beq_iff_eq.mp h)) (fun _ _ _ h=>congrArg PV.int (beq_iff_eq.mp h)) v w ih h)
  (fun ws h=>by
   cases ws with
   |nil=>rfl
   |cons=>exact Bool.noConfusion h)
  (fun v vs hv hs ws h=>by
   cases ws with
   |nil=>exact Bool.noConfusion h
   |cons w ws =>
    have h:=Bool.and_eq_true_iff.mp h;rw [hv w h.1,hs ws h.2]) v
section
variable {G:Gl} {φ:Fx} {k:Nat} {R fz:zB} {μ:Mu} {loc:Loc} {H:Hp} {s:Shared} {α β:Type} {Γ:MP}
theorem SJ.fine {W:MW α β} {f f':Loc→Hp→Rs α} {t:Sem β} (h:SJ G φ Γ W f t) (e:∀ loc H,f' loc H≠ .bad→f' loc H=f loc H):SJ G φ Γ W f' t:=by
 intro R fz μ loc H s S hΓ hF;have:f' loc H≠ .bad:=fun z=>by rw [z] at hF; exact hF.elim
 rw [e loc H this] at hF ⊢;exact h R fz μ loc H s S hΓ hF
theorem ziG (D:Good G φ k) (O:GOk G) {W:MW α Value} {g:PV→Loc→Hp→Rs α} (hkx:φ.env.kindOf x=some .globalImplicit) (hx:nsIn G.K mainGlobals x=some none) (hv:bootBuiltins x=some fn)
  (hn:x≠ "__name__") (hd:(x==("__debug__" : Str))=false) (hkeep:keeperOf fn=pure .machine) (hs:zG e=true) (ha:EJ G φ a (eval e φ.env)) (hc:∀ v y,SJ G φ (MP.top.and (wV G) v y) W (g v) (call fn [y])) :
  SJ G φ MP.top W (fun loc H=>(a loc H).bind fun v H=>g v loc H) (eval (.Call (.Name x np) [e] [] pos) φ.env) :=
 yfA (fun _ _ _ _ _ _ S _ _ h=>zbB D O S hkx hx hv hn hd h) (call1 (first:=[]) hs ha (xT hkeep) hc)
noncomputable def reprOf (v:PV) (H:Hp):Rs PV:=if okR v&&decide (szR v≤SZ)&&decide (zX v≤20) then .ok (.str (xN v).cps.toList) H else .bad
theorem lf_repr (D:Good G φ k) (S:Sat G φ R fz μ loc H s) (hw:VR G fz μ v x) (ho:okR v=true) (hz:szR v≤SZ) (hd:zX v≤20) :
  wpAny (model G.prog G.w) φ.A (call (.builtin "repr") [x]) (LQ (wV G) G φ R fz μ loc H (.str (xN v).cps.toList)) (fun _ _=>False) s:=by
 have hun:φ.A.units+100<cLine:=zpA D;have fin:∀ v,okR v=true→szR v≤SZ→∀ u,VR G fz μ (.str (xN v).cps.toList) (.str (xN v) u):=fun v ho hz u=>zwJ rfl (Nat.le_trans (zdF ho) hz);refine zhA (M:=fun v r=>r=true→okR v=true→szR v≤SZ→zX v≤20→VR G fz μ v x→wpAny (model G.prog G.w) φ.A (call (.builtin "repr") [x]) (LQ (wV G) G φ R fz μ loc H (.str (xN v).cps.toList)) (fun _ _=>False) s) (fun _ h=>Bool.noConfusion h)
  (fun vs h ho hz hd hw=> ?_) (fun l h ho hz _ hw=> ?_) (fun l h ho hz _ hw=> ?_) (fun i h ho hz _ hw=> ?_) v ho ho hz hd hw
 ·refine z0 (hw.tup') fun vals n a e hp _ r=> ?_
  rw [e] at hw ⊢;refine oEA (repr_trees D S (vs:=vs) h (Nat.le_trans (Nat.le_add_right (szRs vs) 3) hz) r) fun as h1 h2=> ?_;have hl:(tupleText (xM vs)).length≤szR (.tup vs):=zdF (v:=.tup vs) ho;have hd':z8 vs+1≤20:=hd;exact call_repr_slot (by lia) ⟨_,S.P D hp,rfl⟩ PySem.F.slot_tuple_repr (call_tuple_reprK (S.P D hp) rfl rfl (ypA D S h hw h1) h2 (g:=[]) D.hgu (fun b _=>Clear.nil b) (by show φ.A.units+1+_<cLine; lia) (fun _ _ e=>e) (fun h' u tk hk=>⟨_,_,rfl,fz,μ,.refl,S.keeps hk,fin (.tup vs) ho hz u⟩) (Nat.le_trans hl (Nat.le_trans hz y7)))
 ·refine VR.str_el hw fun y t e _=> ?_
  have hl:(reprText ⟨l.toArray⟩).length≤szR (.str l):=zdF (v:=.str l) ho;rw [zfD e];exact PySem.P.repr_of_str (LQ.tok S (fin (.str l) ho hz _)) (Nat.le_trans hl (Nat.le_trans hz y7))
 ·refine VR.bytes_el hw fun y t e _=> ?_
  have hz':4*y.size+3≤sizeLine:=by rw [bsz e]; exact Nat.le_trans (show 4*l.length+3≤SZ from hz) y7
  have hf:=fin (.bytes l) ho hz;rw [ygF,zuE e] at hf ⊢;exact call_repr_gives (typeIs_bytes _ y t) wY wM (zaF _) (wL y t hz') (LQ.tok S (hf _)) rfl (Nat.le_trans (zcG y) hz')
 ·refine VR.int_el hw fun t=> ?_
  exact PySem.P.repr_of_int (Nat.lt_of_lt_of_le (ylE (of_decide_eq_true h)) (by decide)) (LQ.tok S (fin (.int i) ho hz _))
noncomputable def txO (v:PV):Option PV:=if okR v&&decide (szR v≤SZ)&&decide (zX v≤20) then some (.str (xN v).cps.toList) else none
theorem ziA (D:Good G φ k) (O:GOk G) (hkx:φ.env.kindOf "repr" =some .globalImplicit) (hx:nsIn G.K mainGlobals "repr" =some none)
  (hs:zG e1=true) (ha:EJ G φ a (eval e1 φ.env)):EJ G φ (fun loc H=>(a loc H).bind fun v H=>zC (txO v) H) (eval (.Call (.Name "repr" np) [e1] [] pos) φ.env) :=
 ziG D O (g:=fun v _ H=>zC (txO v) H) hkx hx (fn:=.builtin "repr") bootS_repr (by decide) (by decide) rfl hs ha fun v y=>SJ.lf (op:=fun _=>txO v) fun R fz μ loc H s r S g e =>
  On.get (o:=txO v) (P:=fun r=>wpAny (model G.prog G.w) φ.A (call (.builtin "repr") [y]) (LQ (wV G) G φ R fz μ loc H r) (fun _ _=>False) s) (On.ite fun h=>by
   have h:=Bool.and_eq_true_iff.mp h;have h1:=Bool.and_eq_true_iff.mp h.1;exact lf_repr D S g.2 h1.1 (of_decide_eq_true h1.2) (of_decide_eq_true h.2)) e
theorem cmp_same:zC ((cmpV 0 (.str x) (.str x) H).map PV.bool) H= .ok (.bool true) H:=by
 show (Rs.ok (.bool (decide (x=x))) H:Rs PV)=_;rw [decide_eq_true rfl]
theorem ztC {a b:Loc→Hp→Rs PV} (loc:Loc) (H:Hp) (h:((a loc H).bind fun v H=>(zV (okR v&&decide (szR v≤SZ)&&decide (zX v≤20)) H).bind fun _ H=>(b loc H).bind fun w H=>if wO v w then Rs.ok (PV.bool true) H else .bad)≠ .bad) :
  ((a loc H).bind fun v H=>(zV (okR v&&decide (szR v≤SZ)&&decide (zX v≤20)) H).bind fun _ H=>(b loc H).bind fun w H=>if wO v w then Rs.ok (PV.bool true) H else .bad) =
   (((a loc H).bind fun v H=>zC (txO v) H).bind fun v H=>((b loc H).bind fun v H=>zC (txO v) H).bind fun w H=>zC ((cmpV 0 v w H).map .bool) H):=by
 cases ea:a loc H with
 |ok v H1 =>
  rw [ea] at h
  replace h:((zV (okR v&&decide (szR v≤SZ)&&decide (zX v≤20)) H1).bind fun _ H=>(b loc H).bind fun w H=>if wO v w then Rs.ok (PV.bool true) H else .bad)≠ .bad:=h
  show ((zV (okR v&&decide (szR v≤SZ)&&decide (zX v≤20)) H1).bind fun _ H=>(b loc H).bind fun w H=>if wO v w then Rs.ok (PV.bool true) H else .bad)=((zC (txO v) H1).bind fun v H=>((b loc H).bind fun v H=>zC (txO v) H).bind fun w H=>zC ((cmpV 0 v w H).map .bool) H);cases hg:(okR v&&decide (szR v≤SZ)&&decide (zX v≤20)) with
  |false=>rw [hg] at h; exact absurd rfl h
  |true =>
   have e1:txO v=some (.str (xN v).cps.toList):=by unfold txO; rw [hg]; rfl
   rw [hg] at h;rw [e1]
   replace h:((b loc H1).bind fun w H=>if wO v w then Rs.ok (PV.bool true) H else .bad)≠ .bad:=h
   show ((b loc H1).bind fun w H=>if wO v w then Rs.ok (PV.bool true) H else .bad)=(((b loc H1).bind fun v H=>zC (txO v) H).bind fun w H=>zC ((cmpV 0 (.str (xN v).cps.toList) w H).map .bool) H);cases eb:b loc H1 with
   |ok w H2 =>
    rw [eb] at h
    replace h:(if wO v w then Rs.ok (PV.bool true) H2 else .bad)≠ .bad:=h
    show (if wO v w then Rs.ok (PV.bool true) H2 else .bad)=((zC (txO w) H2).bind fun w H=>zC ((cmpV 0 (.str (xN v).cps.toList) w H).map .bool) H);cases hs:wO v w with
    |false=>rw [hs] at h; exact absurd rfl h
    |true =>
     rw [← sameR_eq v w hs,e1];exact cmp_same.symm
   |exc C H2=>rfl
   |bad=>rw [eb] at h; exact absurd rfl h
 |exc C H1=>rfl
 |bad=>rw [ea] at h; exact absurd rfl h
theorem ej_reprEq (D:Good G φ k) (O:GOk G) {a b:Loc→Hp→Rs PV} {e1 e2:Expr} {np pos np2 pos2 cp:Pos} (hkx:φ.env.kindOf "repr" =some .globalImplicit) (hx:nsIn G.K mainGlobals "repr" =some none)
  (hs:zG e1=true) (hs2:zG e2=true) (hm:behindInMarks .Eq (.Call (.Name "repr" np2) [e2] [] pos2)=false) (ha:EJ G φ a (eval e1 φ.env)) (hb:EJ G φ b (eval e2 φ.env)) :
  EJ G φ (fun loc H=>(a loc H).bind fun v H=>(zV (okR v&&decide (szR v≤SZ)&&decide (zX v≤20)) H).bind fun _ H=>(b loc H).bind fun w H=>if wO v w then .ok (.bool true) H else .bad)
   (eval (.Compare (.Call (.Name "repr" np) [e1] [] pos) [.Eq] [.Call (.Name "repr" np2) [e2] [] pos2] cp) φ.env) :=
 SJ.fine (yqE D (op:=0) hm (ziA D O hkx hx hs ha) (ziA D O hkx hx hs2 hb)) fun loc H h=>ztC loc H h
theorem tj_reprEq (D:Good G φ k) (O:GOk G) {a b:Loc→Hp→Rs PV} {e1 e2:Expr} {np pos np2 pos2 cp:Pos} {w:Sem Value} (hkx:φ.env.kindOf "repr" =some .globalImplicit) (hx:nsIn G.K mainGlobals "repr" =some none)
  (hs:zG e1=true) (hs2:zG e2=true) (hm:behindInMarks .Eq (.Call (.Name "repr" np2) [e2] [] pos2)=false) (ha:EJ G φ a (eval e1 φ.env)) (hb:EJ G φ b (eval e2 φ.env)) :
  TJ G φ (fun loc H=>(a loc H).bind fun v H=>(zV (okR v&&decide (szR v≤SZ)&&decide (zX v≤20)) H).bind fun _ H=>(b loc H).bind fun w H=>if wO v w then .ok (.bool true) H else .bad)
   (isTrue (.Compare (.Call (.Name "repr" np) [e1] [] pos) [.Eq] [.Call (.Name "repr" np2) [e2] [] pos2] cp) φ.env w) :=
 SJ.fine (ynG D (op:=0) hm (ziA D O hkx hx hs ha) (ziA D O hkx hx hs2 hb)) fun loc H h=>by
  unfold tst at h ⊢;exact congrArg (fun r=>Rs.bind r fun v H=>zC (zM v) H) (ztC (a:=a) (b:=b) loc H fun z=>h (by dsimp only; rw [z]; rfl))
end
noncomputable def yeC:List Str:=["len","str","chr","bytes","tuple","sorted","dict","min","range","isinstance","repr","bool","int","list"]
structure NOk (G:Gl):Prop where
 built:∀ x∈yeC,nsIn G.K mainGlobals x=some none
noncomputable def biN (b:Nat):Str:=match b with
 |0=> "len" |1=> "str" |2=> "chr" |3=> "bytes" |4=> "tuple" |_=> "sorted"
theorem boot_bi:∀ b,b<6→bootBuiltins (biN b)=some (biOf b):=by decide +kernel
theorem boot_dict:bootBuiltins "dict" =some (.type "dict"):=by decide +kernel
theorem boot_min:bootBuiltins "min" =some (.builtin "min"):=by decide +kernel
theorem zoF:bootBuiltins "range" =some (.type "range"):=by decide +kernel
theorem boot_isin:bootBuiltins "isinstance" =some (.builtin "isinstance"):=by decide +kernel
section
variable {G:Gl} {φ:Fx} {k:Nat} {R fz:zB} {μ:Mu} {loc:Loc} {H:Hp} {s:Shared} {α β:Type} {Γ:MP}
theorem ydE (D:Good G φ k) (O:GOk G) {W:MW α Value} {g:PV→PV→Loc→Hp→Rs α} (hkx:φ.env.kindOf x=some .globalImplicit) (hx:nsIn G.K mainGlobals x=some none) (hv:bootBuiltins x=some fn)
  (hn:x≠ "__name__") (hd:(x==("__debug__" : Str))=false) (hkeep:keeperOf fn=pure .machine) (hs:zG e=true) (hs2:zG e2=true) (ha:EJ G φ a (eval e φ.env)) (hb:EJ G φ b (eval e2 φ.env))
  (hc:∀ v y w z,SJ G φ ((MP.top.and (wV G) v y).and (wV G) w z) W (g v w) (call fn [y,z])) :
  SJ G φ MP.top W (fun loc H=>(a loc H).bind fun v H=>(b loc H).bind fun w H=>g v w loc H) (eval (.Call (.Name x np) [e,e2] [] pos) φ.env) :=
 yfA (fun _ _ _ _ _ _ S _ _ h=>zbB D O S hkx hx hv hn hd h) (call2 (first:=[]) hs hs2 ha hb (xT hkeep) hc)
theorem ej_call3 (D:Good G φ k) (O:GOk G) {W:MW α Value} {g:PV→PV→PV→Loc→Hp→Rs α} (hkx:φ.env.kindOf x=some .globalImplicit) (hx:nsIn G.K mainGlobals x=some none) (hv:bootBuiltins x=some fn)
  (hn:x≠ "__name__") (hd:(x==("__debug__" : Str))=false) (hkeep:keeperOf fn=pure .machine) (hs:zG e=true) (hs2:zG e2=true) (hs3:zG e3=true) (ha:EJ G φ a (eval e φ.env)) (hb:EJ G φ b (eval e2 φ.env)) (hc3:EJ G φ c (eval e3 φ.env))
  (hc:∀ v y w z u t,SJ G φ (((MP.top.and (wV G) v y).and (wV G) w z).and (wV G) u t) W (g v w u) (call fn [y,z,t])) :
  SJ G φ MP.top W (fun loc H=>(a loc H).bind fun v H=>(b loc H).bind fun w H=>(c loc H).bind fun u H=>g v w u loc H) (eval (.Call (.Name x np) [e,e2,e3] [] pos) φ.env) :=
 yfA (fun _ _ _ _ _ _ S _ _ h=>zbB D O S hkx hx hv hn hd h) (call3 (first:=[]) hs hs2 hs3 ha hb hc3 (xT hkeep) hc)
theorem keep_bi:∀ b,keeperOf (biOf b)=pure .machine
 |0|1|2|3|4|_+5=>rfl
theorem bi_names:∀ b,b<6→biN b∈yeC∧biN b≠ "__name__" ∧(biN b==("__debug__" : Str))=false:=by decide
theorem ej_bi (D:Good G φ k) (O:GOk G) (N:NOk G) (hb:b<6) (hkx:φ.env.kindOf (biN b)=some .globalImplicit) (hs:zG e=true) (ha:EJ G φ a (eval e φ.env)) :
  EJ G φ (fun loc H=>(a loc H).bind fun v H=>zC (biV b v H) H) (eval (.Call (.Name (biN b) np) [e] [] pos) φ.env):=by
 refine oAA (bi_names b hb) fun h1 h2 h3=> ?_;exact ziG D O (g:=fun v _ H=>zC (biV b v H) H) hkx (N.built _ h1) (boot_bi b hb) h2 h3 (keep_bi b) hs ha fun v y =>SJ.lf (op:=fun H=>biV b v H) fun R fz μ loc H s r S g e=>lf_bi D O S g.2 e
theorem ej_dic (D:Good G φ k) (O:GOk G) (N:NOk G) (hkx:φ.env.kindOf "dict" =some .globalImplicit) (hs:zG e=true) (ha:EJ G φ a (eval e φ.env)) :
  EJ G φ (fun loc H=>(a loc H).bind fun v H=>(zC (dicV isI v) H).bind fun o H=>Rs.ok (PV.ref H.length) (H++[o])) (eval (.Call (.Name "dict" np) [e] [] pos) φ.env) :=
 ziG D O (g:=fun v _ H=>(zC (dicV isI v) H).bind fun o H=>Rs.ok (PV.ref H.length) (H++[o])) hkx (N.built _ (by decide)) boot_dict (by decide) (by decide) rfl hs ha fun v y =>SJ.on (f:=fun H=>(zC (dicV isI v) H).bind fun o H=>Rs.ok (PV.ref H.length) (H++[o])) fun R fz μ loc H s S g=>OnR.bindO (On.of fun o e=>lf_dic D O S g.2 e)
theorem minZ_el {H:Hp} {M:PV→PV→Rs PV→Prop} (h0:∀ a b,M a b .bad) (h:∀ x y,M (.int x) (.int y) (.ok (.int (if y<x then y else x)) H)) (a b:PV):M a b (minZ a b H):=by cases a <;> first|exact h0 _ _|(cases b <;> first|exact h0 _ _|exact h _ _)
theorem ej_min2 (D:Good G φ k) (O:GOk G) (N:NOk G) {a b:Loc→Hp→Rs PV} {e e2:Expr} {np pos:Pos} (hkx:φ.env.kindOf "min" =some .globalImplicit) (hs:zG e=true) (hs2:zG e2=true) (ha:EJ G φ a (eval e φ.env)) (hb:EJ G φ b (eval e2 φ.env)) :
  EJ G φ (fun loc H=>(a loc H).bind fun v H=>(b loc H).bind fun w H=>minZ v w H) (eval (.Call (.Name "min" np) [e,e2] [] pos) φ.env) :=
 ydE D O (g:=fun v w _ H=>minZ v w H) hkx (N.built _ (by decide)) boot_min (by decide) (by decide) rfl hs hs2 ha hb fun v y w z=>SJ.on (f:=fun H=>minZ v w H) fun R fz μ loc H s S g =>minZ_el (H:=H) (M:=fun v w r=>VR G fz μ v y→VR G fz μ w z→OnR r fun a H'=>wpAny (model G.prog G.w) φ.A (call (.builtin "min") [y,z]) (HQ (wV G) G φ R fz μ loc a H') (fun _ _=>False) s) (fun _ _ _ _=>trivial) (fun i j ha hb=>HQ.of (lf_min2 D O S ha hb)) v w g.1.2 g.2
theorem rngZ_el {H:Hp} {M:PV→Rs PV→Prop} (h0:∀ a,M a .bad) (h:∀ x,M (.int x) (.ok (.rng 0 x 1) H)) (a:PV):M a (rngZ a H):=by cases a <;> first|exact h0 _|exact h _
theorem ej_rng1 (D:Good G φ k) (O:GOk G) (N:NOk G) {a:Loc→Hp→Rs PV} {e:Expr} {np pos:Pos} (hkx:φ.env.kindOf "range" =some .globalImplicit) (hs:zG e=true) (ha:EJ G φ a (eval e φ.env)) :
  EJ G φ (fun loc H=>(a loc H).bind fun v H=>rngZ v H) (eval (.Call (.Name "range" np) [e] [] pos) φ.env) :=
 ziG D O (g:=fun v _ H=>rngZ v H) hkx (N.built _ (by decide)) zoF (by decide) (by decide) rfl hs ha fun v y=>SJ.on (f:=fun H=>rngZ v H) fun R fz μ loc H s S g =>rngZ_el (H:=H) (M:=fun v r=>VR G fz μ v y→OnR r fun a H'=>wpAny (model G.prog G.w) φ.A (call (.type "range") [y]) (HQ (wV G) G φ R fz μ loc a H') (fun _ _=>False) s) (fun _ _=>trivial) (fun i ha=>HQ.of (lf_rng1 D O S ha)) v g.2
theorem rnZ_el {H:Hp} {M:PV→PV→PV→Rs PV→Prop} (h0:∀ a b c,M a b c .bad) (h:∀ i j k:Int,M (.int i) (.int j) (.int k) (if i.natAbs≤1000000∧j.natAbs≤1000000∧0<k∧k≤1000 then .ok (.rng i j k) H else .bad)) (a b c:PV):M a b c (rnZ a b c H):=by
 cases a <;> first|exact h0 _ _ _|(cases b <;> first|exact h0 _ _ _|(cases c <;> first|exact h0 _ _ _|exact h _ _ _))
theorem ej_rng3 (D:Good G φ k) (O:GOk G) (N:NOk G) {a b c:Loc→Hp→Rs PV} {e e2 e3:Expr} {np pos:Pos} (hkx:φ.env.kindOf "range" =some .globalImplicit) (hs:zG e=true) (hs2:zG e2=true) (hs3:zG e3=true) (ha:EJ G φ a (eval e φ.env)) (hb:EJ G φ b (eval e2 φ.env)) (hc:EJ G φ c (eval e3 φ.env)) :
  EJ G φ (fun loc H=>(a loc H).bind fun v H=>(b loc H).bind fun w H=>(c loc H).bind fun x H=>rnZ v w x H) (eval (.Call (.Name "range" np) [e,e2,e3] [] pos) φ.env) :=
 ej_call3 D O (g:=fun v w x _ H=>rnZ v w x H) hkx (N.built _ (by decide)) zoF (by decide) (by decide) rfl hs hs2 hs3 ha hb hc fun v y w z x t=>SJ.on (f:=fun H=>rnZ v w x H) fun R fz μ loc H s S g =>
  rnZ_el (H:=H) (M:=fun v w x r=>VR G fz μ v y→VR G fz μ w z→VR G fz μ x t→OnR r fun a H'=>wpAny (model G.prog G.w) φ.A (call (.type "range") [y,z,t]) (HQ (wV G) G φ R fz μ loc a H') (fun _ _=>False) s) (fun _ _ _ _ _ _=>trivial)
   (fun i j k ha hb hc=>OnR.ite fun h=>HQ.of (lf_rng3 D O S ha hb hc ⟨h.2.2.1,h.2.2.2⟩)) v w x g.1.1.2 g.1.2 g.2
theorem ej_isin (IO:IOk G) (D:Good G φ k) (O:GOk G) (N:NOk G) (hkx:φ.env.kindOf "isinstance" =some .globalImplicit) (hs:zG e=true) (hs2:zG e2=true) (ha:EJ G φ a (eval e φ.env)) (hb:EJ G φ b (eval e2 φ.env)) :
  EJ G φ (fun loc H=>(a loc H).bind fun v H=>(b loc H).bind fun w H=>zC ((zuH v w H).map PV.bool) H) (eval (.Call (.Name "isinstance" np) [e,e2] [] pos) φ.env) :=
 ydE D O (g:=fun v w _ H=>zC ((zuH v w H).map PV.bool) H) hkx (N.built _ (by decide)) boot_isin (by decide) (by decide) rfl hs hs2 ha hb fun v y w z =>
  SJ.lf (op:=fun H=>(zuH v w H).map PV.bool) fun R fz μ loc H s r S g e=>by exact (On.map (On.of fun q h=>lf_isin IO D O S g.1.2 g.2 h):On ((zuH v w H).map PV.bool) fun r=>wpAny (model G.prog G.w) φ.A (call (.builtin "isinstance") [y,z]) (LQ (wV G) G φ R fz μ loc H r) (fun _ _=>False) s).get e
end
noncomputable def selB (b:Bool):Option Unit:=if b then some () else none
theorem zfE:zC (selB b) H=zV b H:=by unfold selB zV; cases b <;> rfl
theorem zxD (h:selB b=some f):b=true:=by unfold selB at h; cases b with|true=>rfl|false=>cases h
section
variable {G:Gl} {φ:Fx} {k:Nat} {R fz:zB} {μ:Mu} {loc:Loc} {H:Hp} {s:Shared} {α β:Type} {Γ:MP}
noncomputable def zhE (G:Gl) (φ:Fx) (sel:PV→Hp→Bool) (name:Str) (id:String):Prop :=
 ∀ R fz μ loc H s v x,Sat G φ R fz μ loc H s→VR G fz μ v x→sel v H=true→∀ pl (Q:Value×List Value→Shared→Prop) E,Q (.builtin id,[x]) s→wpAny (model G.prog G.w) φ.A (getMethod x name pl) Q E s
theorem refO_el {i:Nat} {M:PO→Option (Nat×List PV)→Prop} (h0:∀ o,M o none) (h1:∀ vs,M (.lst vs) (some (i,vs))) (o:PO):M o (refO i o):=by cases o <;> first|exact h0 _|exact h1 _
theorem refL_el {H:Hp} {M:PV→Option (Nat×List PV)→Prop} (h0:∀ o,M o none) (h1:∀ i,M (.ref i) (refO i (zA H i))) (v:PV):M v (yD v H):=by cases v <;> first|exact h0 _|exact h1 _
theorem ztD {H:Hp} (v:PV):On (yD v H) fun q=>v= .ref q.1∧zA H q.1= .lst q.2 :=
 refL_el (H:=H) (M:=fun v o=>On o fun q=>v= .ref q.1∧zA H q.1= .lst q.2) (fun _=>trivial) (fun i=>refO_el (i:=i) (M:=fun o r=>zA H i=o→On r fun q=>PV.ref i= .ref q.1∧zA H q.1= .lst q.2) (fun _ _=>trivial) (fun vs h=>⟨rfl,h⟩) _ rfl) v
theorem isL_of (h:isL v H=true):∃ i vs,v= .ref i∧zA H i= .lst vs :=
 by obtain ⟨q,e⟩:=Option.isSome_iff_exists.mp h; exact ⟨q.1,q.2,(ztD v).get e⟩
theorem isDO_el {M:PO→Bool→Prop} (h0:∀ o,M o false) (h1:∀ ks vs,M (.dicI ks vs) true) (o:PO):M o (isDO o):=by cases o <;> first|exact h0 _|exact h1 _ _
theorem isD_el {H:Hp} {M:PV→Bool→Prop} (h0:∀ o,M o false) (h1:∀ i,M (.ref i) (isDO (zA H i))) (v:PV):M v (isD v H):=by cases v <;> first|exact h0 _|exact h1 _
theorem isD_of {v:PV} {H:Hp} (h:isD v H=true):∃ i ks vs,v= .ref i∧zA H i= .dicI ks vs :=
 isD_el (H:=H) (M:=fun v r=>r=true→∃ i ks vs,v= .ref i∧zA H i= .dicI ks vs) (fun _ h=>Bool.noConfusion h) (fun i=>isDO_el (M:=fun o r=>zA H i=o→r=true→∃ i' ks vs,PV.ref i= .ref i'∧zA H i'= .dicI ks vs) (fun _ _ h=>Bool.noConfusion h) (fun ks vs h _=>⟨i,ks,vs,rfl,h⟩) _ rfl) v h
theorem zkD (D:Good G φ k) {name:Str} {id:String} (slot:Slot "list" name id) (ty:typeOf (.builtin id)=pure (.type "method_descriptor")):zhE G φ isL name id:=by
 intro R fz μ loc H s v x S hv hs pl Q E h;refine oEEA (isL_of hs) fun i vs o1_ hh=> ?_; obtain rfl:=o1_;refine oEEA (hv.ref') fun a d o1_ hm=> ?_; obtain rfl:=o1_;refine zbH (S.mlst D hm hh) fun _ vals n ho _ _=> ?_;exact getMethod_builtin ⟨_,ho,rfl⟩ PySem.F.plainAttrs_list slot ty (fun b e=>by cases e; exact ⟨_,ho,rfl⟩) h
theorem meth_dictM (D:Good G φ k) {name:Str} {id:String} (slot:Slot "dict" name id) (ty:typeOf (.builtin id)=pure (.type "method_descriptor")):zhE G φ isD name id:=by
 intro R fz μ loc H s v x S hv hs pl Q E h;refine wQ (isD_of hs) fun i ks vs o1_ hh=> ?_; obtain rfl:=o1_;refine oEEA (hv.ref') fun a d o1_ hm=> ?_; obtain rfl:=o1_;refine oAEA (S.mdicI D hm hh) fun _ kvs dd _=> ?_;exact getMethod_builtin dd.typeIs PySem.F.plainAttrs_dict slot ty dd.mapOf.noDict h
theorem meth_dictS (D:Good G φ k) {name:Str} {id:String} (slot:Slot "dict" name id) (ty:typeOf (.builtin id)=pure (.type "method_descriptor")):zhE G φ (fun v _=>isDS v) name id:=by
 intro R fz μ loc H s v x S hv hs pl Q E h;cases v with
 |dicS ks vs =>
  refine zcE (S.dicS D hv) fun kvs a o1_ dd _=> ?_; obtain rfl:=o1_;exact getMethod_builtin dd.typeIs PySem.F.plainAttrs_dict slot ty dd.mapOf.noDict h
 |_=>cases hs
theorem meth_dictI (D:Good G φ k) {name:Str} {id:String} (slot:Slot "dict" name id) (ty:typeOf (.builtin id)=pure (.type "method_descriptor")):zhE G φ (fun v _=>isDI v) name id:=by
 intro R fz μ loc H s v x S hv hs pl Q E h;cases v with
 |dicI ks vs =>
  refine zcE (S.dicI D hv) fun kvs a o1_ dd _=> ?_; obtain rfl:=o1_;exact getMethod_builtin dd.typeIs PySem.F.plainAttrs_dict slot ty dd.mapOf.noDict h
 |_=>cases hs
theorem ybH {name:Str} {id:String} (slot:Slot "str" name id) (ty:typeOf (.builtin id)=pure (.type "method_descriptor")):zhE G φ (fun v _=>isS v) name id:=by
 intro R fz μ loc H s v x S hv hs pl Q E h;cases v with
 |str l =>
  refine oEEA (hv.str') fun e t o1_ _=> ?_; obtain rfl:=o1_;exact getMethod_builtin (PySem.typeIs_str _ _ _) PySem.F.plainAttrs_str slot ty (fun b e=>by cases e) h
 |_=>cases hs
theorem zbC {sel:PV→Hp→Bool} {name:Str} {id:String} (M:zhE G φ sel name id) {W:MW α Value} {a b:Loc→Hp→Rs PV} {o e:Expr} {apos pos:Pos} {g:PV→PV→Loc→Hp→Rs α} (hn:z3 o=true) (hpos:(apos.endLine==pos.line)=true) (hs:zG e=true)
  (ha:EJ G φ a (eval o φ.env)) (hb:EJ G φ b (eval e φ.env)) (hc:∀ v x w y,SJ G φ ((MP.top.and (wV G) v x).and (wV G) w y) W (g v w) (call (.builtin id) [x,y])) :
  SJ G φ MP.top W (fun loc H=>(a loc H).bind fun v H=>(zV (sel v H) H).bind fun _ H=>(b loc H).bind fun w H=>g v w loc H) (eval (.Call (.Attribute o name apos) [e] [] pos) φ.env) :=
 SJ.congr (mj (sel:=fun v H=>selB (sel v H)) (fnOf:=fun _=>.builtin id) (g:=fun _ v loc H=>(b loc H).bind fun w H=>g v w loc H) hn hpos (by simp) (by rw [yI hs]; rfl) ha
  (fun R fz μ loc H s v x f S hv hsel pl Q E h=>M R fz μ loc H s v x S hv (zxD hsel) pl Q E h)
  fun v x f=>call1 (first:=[x]) hs hb (xT rfl) fun w y=>hc v x w y) fun loc H=>by cases a loc H <;> first|rfl|(show (zV _ _).bind _=(zC (selB _) _).bind _; rw [zfE])
theorem ej_meth0 {sel:PV→Hp→Bool} {name:Str} {id:String} (M:zhE G φ sel name id) {W:MW α Value} {a:Loc→Hp→Rs PV} {o:Expr} {apos pos:Pos} {g:PV→Loc→Hp→Rs α} (hn:z3 o=true) (hpos:(apos.endLine==pos.line)=true)
  (ha:EJ G φ a (eval o φ.env)) (hc:∀ v x,SJ G φ (MP.top.and (wV G) v x) W (g v) (call (.builtin id) [x])) :
  SJ G φ MP.top W (fun loc H=>(a loc H).bind fun v H=>(zV (sel v H) H).bind fun _ H=>g v loc H) (eval (.Call (.Attribute o name apos) [] [] pos) φ.env) :=
 SJ.congr (mj (sel:=fun v H=>selB (sel v H)) (fnOf:=fun _=>.builtin id) (g:=fun _ v loc H=>g v loc H) hn hpos (by simp) rfl ha
  (fun R fz μ loc H s v x f S hv hsel pl Q E h=>M R fz μ loc H s v x S hv (zxD hsel) pl Q E h)
  fun v x f=>SJ.congr (zeI (first:=[x]) zwC (xT rfl) (g:=fun vs loc H=>match vs with|[]=>g v loc H|_=>.bad) fun vs xs=>by
   intro R fz μ loc H s S hΓ hF
   match vs,xs,hΓ,hF with
   |[],[],hΓ,hF=>exact hc v x R fz μ loc H s S hΓ.1 hF
   |[],_::_,hΓ,hF=>exact hΓ.2.elim
   |_::_,xs,hΓ,hF=>exact hF.elim) fun loc H=>rfl) fun loc H=>by
   cases a loc H <;> first|rfl|(show (zV _ _).bind _=(zC (selB _) _).bind _; rw [zfE])
theorem ej_meth2 {sel:PV→Hp→Bool} {name:Str} {id:String} (M:zhE G φ sel name id) {W:MW α Value} {a b c:Loc→Hp→Rs PV} {o e e2:Expr} {apos pos:Pos} {g:PV→PV→PV→Loc→Hp→Rs α} (hn:z3 o=true) (hpos:(apos.endLine==pos.line)=true) (hs:zG e=true) (hs2:zG e2=true)
  (ha:EJ G φ a (eval o φ.env)) (hb:EJ G φ b (eval e φ.env)) (hb2:EJ G φ c (eval e2 φ.env)) (hc:∀ v x w y u z,SJ G φ (((MP.top.and (wV G) v x).and (wV G) w y).and (wV G) u z) W (g v w u) (call (.builtin id) [x,y,z])) :
  SJ G φ MP.top W (fun loc H=>(a loc H).bind fun v H=>(zV (sel v H) H).bind fun _ H=>(b loc H).bind fun w H=>(c loc H).bind fun u H=>g v w u loc H) (eval (.Call (.Attribute o name apos) [e,e2] [] pos) φ.env) :=
 SJ.congr (mj (sel:=fun v H=>selB (sel v H)) (fnOf:=fun _=>.builtin id) (g:=fun _ v loc H=>(b loc H).bind fun w H=>(c loc H).bind fun u H=>g v w u loc H) hn hpos (by simp) (by rw [yI hs,yI hs2]; rfl) ha
  (fun R fz μ loc H s v x f S hv hsel pl Q E h=>M R fz μ loc H s v x S hv (zxD hsel) pl Q E h)
  fun v x f=>call2 (first:=[x]) hs hs2 hb hb2 (xT rfl) fun w y u z=>hc v x w y u z) fun loc H=>by cases a loc H <;> first|rfl|(show (zV _ _).bind _=(zC (selB _) _).bind _; rw [zfE])
end
section
variable {G:Gl} {φ:Fx} {k:Nat} {R fz:zB} {μ:Mu} {loc:Loc} {H:Hp} {s:Shared} {α β:Type} {Γ:MP}
theorem xQ {v:PV} {H:Hp} {i:Nat} {vs:List PV} (h:yD v H=some (i,vs)):v= .ref i∧zA H i= .lst vs:=(ztD v).get h
theorem apZ_on {o:Option (Nat×List PV)} {w:PV} {H:Hp} {P:PV→Hp→Prop} (h:On o fun q=>q.2.length<SZ→P .none (zF H q.1 (.lst (q.2++[w])))):OnR (apZ o w H) P:=by
 cases o with
 |none=>trivial
 |some q=>exact OnR.ite h
theorem ej_append (D:Good G φ k) {a b:Loc→Hp→Rs PV} {o e:Expr} {apos pos:Pos} (hn:z3 o=true) (hpos:(apos.endLine==pos.line)=true) (hs:zG e=true) (ha:EJ G φ a (eval o φ.env)) (hb:EJ G φ b (eval e φ.env)) :
  EJ G φ (fun loc H=>(a loc H).bind fun v H=>(zV (isL v H) H).bind fun _ H=>(b loc H).bind fun w H=>apZ (yD v H) w H) (eval (.Call (.Attribute o "append" apos) [e] [] pos) φ.env) :=
 zbC (zkD D PySem.F.slot_list_append PySem.F.type_list_append) (g:=fun v w _ H=>apZ (yD v H) w H) hn hpos hs ha hb fun v x w y=>SJ.on (f:=fun H=>apZ (yD v H) w H) fun R fz μ loc H s S g =>apZ_on (On.of fun q e hz=>lf_append D S ((xQ e).1▸g.1.2) g.2 (xQ e).2 hz)
theorem exZ_on {o:Option (Nat×List PV)} {r:Option (List PV)} {H:Hp} {P:PV→Hp→Prop} (h:On o fun q=>On r fun ws=>(q.2++ws).length≤SZ→P .none (zF H q.1 (.lst (q.2++ws)))):OnR (exZ o r H) P:=by
 cases o with
 |none=>trivial
 |some q=>cases r with
  |none=>trivial
  |some ws=>exact OnR.ite h
theorem ej_extend (D:Good G φ k) {a b:Loc→Hp→Rs PV} {o e:Expr} {apos pos:Pos} (hn:z3 o=true) (hpos:(apos.endLine==pos.line)=true) (hs:zG e=true) (ha:EJ G φ a (eval o φ.env)) (hb:EJ G φ b (eval e φ.env)) :
  EJ G φ (fun loc H=>(a loc H).bind fun v H=>(zV (isL v H) H).bind fun _ H=>(b loc H).bind fun w H=>exZ (yD v H) (lstV w H) H) (eval (.Call (.Attribute o "extend" apos) [e] [] pos) φ.env) :=
 zbC (zkD D PySem.F.slot_list_extend PySem.F.type_list_extend) (g:=fun v w _ H=>exZ (yD v H) (lstV w H) H) hn hpos hs ha hb fun v x w y=>SJ.on (f:=fun H=>exZ (yD v H) (lstV w H) H) fun R fz μ loc H s S g =>exZ_on (On.of fun q e=>On.of fun ws e2 hz=>lf_extend D S ((xQ e).1▸g.1.2) g.2 (xQ e).2 e2 hz)
theorem poL_on {i:Nat} {vs:List PV} {o:Option PV} {H:Hp} {P:PV→Hp→Prop} (h:On o fun x=>P x (zF H i (.lst vs.dropLast))):OnR (poL i vs o H) P:=by cases o <;> exact h
theorem poZ_on {o:Option (Nat×List PV)} {H:Hp} {P:PV→Hp→Prop} (h:On o fun q=>On q.2.getLast? fun x=>P x (zF H q.1 (.lst q.2.dropLast))):OnR (poZ o H) P:=by
 cases o with
 |none=>trivial
 |some q=>exact poL_on h
theorem ej_pop (D:Good G φ k) (O:GOk G) {a:Loc→Hp→Rs PV} {o:Expr} {apos pos:Pos} (hn:z3 o=true) (hpos:(apos.endLine==pos.line)=true) (ha:EJ G φ a (eval o φ.env)) :
  EJ G φ (fun loc H=>(a loc H).bind fun v H=>poZ (yD v H) H) (eval (.Call (.Attribute o "pop" apos) [] [] pos) φ.env) :=
 SJ.fine (ej_meth0 (zkD D PySem.F.slot_list_pop PySem.F.type_list_pop) (g:=fun v _ H=>poZ (yD v H) H) hn hpos ha fun v x=>SJ.on (f:=fun H=>poZ (yD v H) H) fun R fz μ loc H s S g =>
  poZ_on (On.of fun q e=>On.of fun w e2=>lf_pop D O S ((xQ e).1▸g.2) (xQ e).2 e2)) fun loc H h=>by
  cases e:a loc H with
  |ok v H1 =>
   rw [e] at h;show poZ (yD v H1) H1=(zV (yD v H1).isSome H1).bind fun _ H=>poZ (yD v H) H
   replace h:poZ (yD v H1) H1≠ .bad:=h
   cases e2:yD v H1 with
   |none=>rw [e2] at h; exact absurd rfl h
   |some q=>show _=poZ (yD v H1) H1; rw [e2]
  |exc C H1=>rfl
  |bad=>rfl
theorem dpL_on {i:Nat} {ks:List Int} {vs:List PV} {k:Int} {o:Option PV} {H:Hp} {P:PV→Hp→Prop} (h:On o fun x=>P x (zF H i (.dicI (delK ks vs k).1 (delK ks vs k).2))):OnR (dpL i ks vs k o H) P:=by cases o <;> exact h
theorem dpZ_el {i:Nat} {k:Int} {H:Hp} {M:PO→Rs PV→Prop} (h0:∀ o,M o .bad) (h:∀ ks vs,M (.dicI ks vs) (dpL i ks vs k (zS ks vs k) H)) (o:PO):M o (dpZ i k o H):=by cases o <;> first|exact h0 _|exact h _ _
theorem dpV_el {H:Hp} {M:PV→PV→Rs PV→Prop} (h0:∀ a b,M a b .bad) (h:∀ i k,M (.ref i) (.int k) (dpZ i k (zA H i) H)) (a b:PV):M a b (dpV a b H):=by cases a <;> first|exact h0 _ _|(cases b <;> first|exact h0 _ _|exact h _ _)
theorem ej_dpop (D:Good G φ k) (O:GOk G) {a b:Loc→Hp→Rs PV} {o e:Expr} {apos pos:Pos} (hn:z3 o=true) (hpos:(apos.endLine==pos.line)=true) (hs:zG e=true) (ha:EJ G φ a (eval o φ.env)) (hb:EJ G φ b (eval e φ.env)) :
  EJ G φ (fun loc H=>(a loc H).bind fun v H=>(zV (isD v H) H).bind fun _ H=>(b loc H).bind fun w H=>dpV v w H) (eval (.Call (.Attribute o "pop" apos) [e] [] pos) φ.env) :=
 zbC (meth_dictM D PySem.F.slot_dict_pop PySem.F.type_dict_pop) (g:=fun v w _ H=>dpV v w H) hn hpos hs ha hb fun v x w y=>SJ.on (f:=fun H=>dpV v w H) fun R fz μ loc H s S g =>
  dpV_el (H:=H) (M:=fun v w r=>VR G fz μ v x→VR G fz μ w y→OnR r fun a H'=>wpAny (model G.prog G.w) φ.A (call (.builtin "dict.pop") [x,y]) (HQ (wV G) G φ R fz μ loc a H') (fun _ _=>False) s) (fun _ _ _ _=>trivial)
   (fun i k ha hb=>dpZ_el (i:=i) (k:=k) (H:=H) (M:=fun o r=>zA H i=o→OnR r fun a H'=>wpAny (model G.prog G.w) φ.A (call (.builtin "dict.pop") [x,y]) (HQ (wV G) G φ R fz μ loc a H') (fun _ _=>False) s) (fun _ _=>trivial) (fun ks vs hh=>dpL_on (On.of fun z e=>lf_dpop D O S ha hb hh e)) _ rfl) v w g.1.2 g.2
theorem dgZ_el {H:Hp} {M:PV→PV→Rs PV→Prop} (h0:∀ a b,M a b .bad) (h:∀ ks vs k,M (.dicS ks vs) (.str k) (.ok ((zS ks vs k).getD .none) H)) (a b:PV):M a b (dgZ a b H):=by cases a <;> first|exact h0 _ _|(cases b <;> first|exact h0 _ _|exact h _ _ _)
theorem ej_dget (D:Good G φ k) {a b:Loc→Hp→Rs PV} {o e:Expr} {apos pos:Pos} (hn:z3 o=true) (hpos:(apos.endLine==pos.line)=true) (hs:zG e=true) (ha:EJ G φ a (eval o φ.env)) (hb:EJ G φ b (eval e φ.env)) :
  EJ G φ (fun loc H=>(a loc H).bind fun v H=>(zV (isDS v) H).bind fun _ H=>(b loc H).bind fun w H=>dgZ v w H) (eval (.Call (.Attribute o "get" apos) [e] [] pos) φ.env) :=
 zbC (sel:=fun v _=>isDS v) (meth_dictS D PySem.F.slot_dict_get PySem.F.type_dict_get) (g:=fun v w _ H=>dgZ v w H) hn hpos hs ha hb fun v x w y=>SJ.on (f:=fun H=>dgZ v w H) fun R fz μ loc H s S g =>dgZ_el (H:=H) (M:=fun v w r=>VR G fz μ v x→VR G fz μ w y→OnR r fun a H'=>wpAny (model G.prog G.w) φ.A (call (.builtin "dict.get") [x,y]) (HQ (wV G) G φ R fz μ loc a H') (fun _ _=>False) s) (fun _ _ _ _=>trivial) (fun ks vs k ha hb=>HQ.of (lf_dget D S ha hb)) v w g.1.2 g.2
theorem dhZ_el {H:Hp} {x:PV} {M:PV→PV→Rs PV→Prop} (h0:∀ a b,M a b .bad) (h:∀ ks vs k,M (.dicI ks vs) (.int k) (.ok ((zS ks vs k).getD x) H)) (a b:PV):M a b (dhZ a b x H):=by cases a <;> first|exact h0 _ _|(cases b <;> first|exact h0 _ _|exact h _ _ _)
theorem ej_dget2 (D:Good G φ k) {a b c:Loc→Hp→Rs PV} {o e e2:Expr} {apos pos:Pos} (hn:z3 o=true) (hpos:(apos.endLine==pos.line)=true) (hs:zG e=true) (hs2:zG e2=true) (ha:EJ G φ a (eval o φ.env)) (hb:EJ G φ b (eval e φ.env)) (hc:EJ G φ c (eval e2 φ.env)) :
  EJ G φ (fun loc H=>(a loc H).bind fun v H=>(zV (isDI v) H).bind fun _ H=>(b loc H).bind fun w H=>(c loc H).bind fun x H=>dhZ v w x H) (eval (.Call (.Attribute o "get" apos) [e,e2] [] pos) φ.env) :=
 ej_meth2 (sel:=fun v _=>isDI v) (meth_dictI D PySem.F.slot_dict_get PySem.F.type_dict_get) (g:=fun v w x _ H=>dhZ v w x H) hn hpos hs hs2 ha hb hc fun v x w y u z=>SJ.on (f:=fun H=>dhZ v w u H) fun R fz μ loc H s S g =>dhZ_el (H:=H) (x:=u) (M:=fun v w r=>VR G fz μ v x→VR G fz μ w y→OnR r fun a H'=>wpAny (model G.prog G.w) φ.A (call (.builtin "dict.get") [x,y,z]) (HQ (wV G) G φ R fz μ loc a H') (fun _ _=>False) s) (fun _ _ _ _=>trivial) (fun ks vs k ha hb=>HQ.of (lf_dget2 D S ha hb g.2)) v w g.1.1.2 g.1.2
theorem joZ_on {o:Option (List Nat)} {H:Hp} {P:PV→Hp→Prop} (h:On o fun l=>l.length≤SZ→P (.str l) H):OnR (joZ o H) P:=by
 cases o with
 |none=>trivial
 |some l=>exact OnR.ite h
theorem jnZ_el {o:Option (List Nat)} {H:Hp} {M:PV→Rs PV→Prop} (h0:∀ a,M a .bad) (h:M (.str []) (joZ o H)) (a:PV):M a (jnZ a o H):=by
 cases a with
 |str l=>cases l with
  |nil=>exact h
  |cons=>exact h0 _
 |_=>exact h0 _
theorem ej_join (D:Good G φ k) {a b:Loc→Hp→Rs PV} {o e:Expr} {apos pos:Pos} (hn:z3 o=true) (hpos:(apos.endLine==pos.line)=true) (hs:zG e=true) (ha:EJ G φ a (eval o φ.env)) (hb:EJ G φ b (eval e φ.env)) :
  EJ G φ (fun loc H=>(a loc H).bind fun v H=>(zV (isS v) H).bind fun _ H=>(b loc H).bind fun w H=>jnZ v ((lstV w H).bind zyA) H) (eval (.Call (.Attribute o "join" apos) [e] [] pos) φ.env) :=
 zbC (sel:=fun v _=>isS v) (ybH PySem.F.slot_str_join PySem.F.type_str_join) (g:=fun v w _ H=>jnZ v ((lstV w H).bind zyA) H) hn hpos hs ha hb fun v x w y=>SJ.on (f:=fun H=>jnZ v ((lstV w H).bind zyA) H) fun R fz μ loc H s S g =>jnZ_el (o:=(lstV w H).bind zyA) (H:=H) (M:=fun v r=>VR G fz μ v x→OnR r fun a H'=>wpAny (model G.prog G.w) φ.A (call (.builtin "str.join") [x,y]) (HQ (wV G) G φ R fz μ loc a H') (fun _ _=>False) s) (fun _ _=>trivial) (fun ha=>joZ_on (On.bind (On.of fun ws h1=>On.of fun l h2 hz=>HQ.of (lf_join (v:=.none) D S ha g.2 h1 h2 hz)))) v g.1.2
theorem enZ_el {H:Hp} {M:PV→PV→Rs PV→Prop} (h0:∀ a b,M a b .bad) (h:∀ l c,M (.str l) (.str c) (if c=[97,115,99,105,105]∧l.all (· < 128)∧l.length≤SZ then .ok (.bytes l) H else .bad)) (a b:PV):M a b (enZ a b H):=by cases a <;> first|exact h0 _ _|(cases b <;> first|exact h0 _ _|exact h _ _)
theorem ej_enc {a b:Loc→Hp→Rs PV} {o e:Expr} {apos pos:Pos} (hn:z3 o=true) (hpos:(apos.endLine==pos.line)=true) (hs:zG e=true) (ha:EJ G φ a (eval o φ.env)) (hb:EJ G φ b (eval e φ.env)) :
  EJ G φ (fun loc H=>(a loc H).bind fun v H=>(zV (isS v) H).bind fun _ H=>(b loc H).bind fun w H=>enZ v w H) (eval (.Call (.Attribute o "encode" apos) [e] [] pos) φ.env) :=
 zbC (sel:=fun v _=>isS v) (ybH PySem.F.slot_str_encode PySem.F.type_str_encode) (g:=fun v w _ H=>enZ v w H) hn hpos hs ha hb fun v x w y=>SJ.on (f:=fun H=>enZ v w H) fun R fz μ loc H s S g =>enZ_el (H:=H) (M:=fun v w r=>VR G fz μ v x→VR G fz μ w y→OnR r fun a H'=>wpAny (model G.prog G.w) φ.A (call (.builtin "str.encode") [x,y]) (HQ (wV G) G φ R fz μ loc a H') (fun _ _=>False) s) (fun _ _ _ _=>trivial) (fun l c ha hb=>OnR.ite fun h=>HQ.of (lf_enc S ha hb h.1 h.2.1 h.2.2)) v w g.1.2 g.2
end
section
variable {G:Gl} {φ:Fx} {k:Nat} {R fz:zB} {μ:Mu} {loc:Loc} {H:Hp} {s:Shared} {α β:Type} {Γ:MP} {m vm:Str→Option Value} {ce:zB} {h:Heap}
theorem yH.sub (S:yH G R fz μ H mu tb) (hs:∀ p∈R',p∈R):yH G R' fz μ H mu tb:=by
 have im2:∀ q,q∈tb++R'→q∈tb++R:=fun q hq=>by
  simp only [List.mem_append] at hq ⊢;exact hq.imp id (hs _)
 have im3:∀ q,q∈fz++(tb++R')→q∈fz++(tb++R):=fun q hq=>by
  simp only [List.mem_append] at hq ⊢;exact hq.imp id fun h=>h.imp id (hs _)
 exact ⟨S.len,S.live,S.own,S.inj,fun p hp q hq=>S.sepM p hp q (im3 q hq),fun p hp q hq=>S.sepF p hp q (im2 q hq),fun p hp q hq=>S.sepT p hp q (hs q hq),S.fun_,S.tab,S.tfun⟩
theorem Base.hideX (x:Base G φ m R fz μ H h):∃ mu tb,yH G R fz μ H mu tb∧Base G φ m (mu++R) fz [] [] h:=by
 obtain ⟨g,mu,tb,T,F,N,S⟩:=x;refine ⟨mu,tb,S,⟨g,[],tb,T,F,fun p hp=>N p ?_,?_⟩⟩
 ·simp only [List.mem_append,List.nil_append] at hp ⊢
  rcases hp with a|b|c|d
  ·exact .inl a
  ·exact .inr (.inr (.inl b))
  ·exact .inr (.inl c)
  ·exact .inr (.inr (.inr d))
 ·constructor
  ·rfl
  ·exact fun i po h _=>by simp at h
  ·exact fun p hp=>by simp at hp
  ·exact fun i j po po' a d a' h=>by simp at h
  ·exact fun p hp=>by simp at hp
  ·intro p hp q hq
   simp only [List.mem_append] at hq
   rcases hq with hq|hq|hq
   ·exact S.sepF p hp q (mL _ hq)
   ·exact fun e=>S.sepM q hq p (mL _ hp) e.symm
   ·exact S.sepF p hp q (mR _ hq)
  ·intro p hp q hq
   rcases mP hq with hq|hq
   ·exact fun e=>S.sepM q hq p (mR _ (mL _ hp)) e.symm
   ·exact S.sepT p hp q hq
  ·exact fun p hp=>by simp at hp
  ·exact S.tab
  ·exact S.tfun
theorem yH.unhide (S:yH G R fz μ H mu tb) (hf:∀ p∈fz,p∈fz') (hR:∀ p∈R',p∈R) (S':yH G (mu++R') fz' μ' H' mu' tb'):yH G R' fz' μ H mu tb' :=
 ⟨S.len,fun i po hi hl=>by refine zY (S.live i po hi hl) fun a d o h1 h2 h3=> ?_; exact ⟨a,d,o,h1,h2,h3.mono ⟨hf,fun _ _ h=>h⟩⟩,S.own,S.inj,fun p hp q hq=>by
    simp only [List.mem_append] at hq
    rcases hq with hq|hq|hq
    ·exact fun e=>S'.sepF q hq p (mR _ (mL _ hp)) e.symm
    ·exact fun e=>S'.sepT q hq p (mL _ hp) e.symm
    ·exact S.sepM p hp q (mR _ (mR _ (hR _ hq))),fun p hp q hq=>by
    rcases mP hq with hq|hq
    ·exact S'.sepF p hp q (mL _ hq)
    ·exact S'.sepF p hp q (mR _ (mR _ hq)),fun p hp q hq=>S'.sepT p hp q (mR _ hq),S.fun_,S'.tab,S'.tfun⟩
noncomputable def zbF (G:Gl) (c:Call) (k:Nat):Prop :=
 ∀ {φ:Fx} {A:Around} {R:zB} {m vm:Str→Option Value} {ce fz:zB} {μ:Mu} {loc:Loc} {H:Hp} {s:Shared} (f:Nat) (vs:List PV) (xs:List Value),Good G φ (k+1)→Near φ A k→same φ.s₀ s→Base G φ m (ce++R) fz μ H s.heap →
  zgC G φ R m vm ce fz μ loc→VRs G fz μ vs xs→Fine φ (c f vs H)→codeAny (model G.prog G.w) A (.call (.ref (G.fa f)) ⟨xs,[]⟩) (CB G φ m (ce++R) R fz μ (c f vs H)) s
theorem closed_fine (h:Fine φ (closedCall c f vs H)):zO vs=true∧Fine φ (c f vs []):=by
 rw [zeH] at h
 split at h
 ·rename_i hc
  refine ⟨hc,?_⟩;cases e:c f vs [] with
  |ok v H=>trivial
  |exc C H=>rw [e] at h; exact h
  |bad=>rw [e] at h; exact h.elim
 ·exact h.elim
theorem sc_closed (SC:zbF G c k) (D:Good G φ (k+1)) (NA:Near φ A k) (sm:same φ.s₀ s) (B:Base G φ m (ce++R) fz μ H s.heap) (L:zgC G φ R m vm ce fz μ loc) (q:VRs G fz μ vs xs)
  (hF:Fine φ (closedCall c f vs H)):codeAny (model G.prog G.w) A (.call (.ref (G.fa f)) ⟨xs,[]⟩) (CB G φ m (ce++R) R fz μ (closedCall c f vs H)) s:=by
 obtain ⟨hc,hF'⟩:=closed_fine hF;refine oEEA (B.hideX) fun mu tb S B1=> ?_;have B2:Base G φ m (ce++(mu++R)) fz [] [] s.heap:=B1.sub fun p hp=>by
  simp only [List.mem_append] at hp ⊢
  rcases hp with a|b|c
  ·exact .inr (.inl a)
  ·exact .inl b
  ·exact .inr (.inr c)
 have L2:zgC G φ (mu++R) m vm ce fz [] []:=by
  refine ⟨fun p hp q hq=> ?_,fun p hp=>mR _ (L.rcR p hp),L.cs,fun i x hx=> ?_⟩
  ·rcases mP hq with hq|hq
   ·exact fun e=>S.sepM q hq p (mR _ (mR _ (mL _ hp))) e.symm
   ·exact L.sepR p hp q hq
  ·obtain ⟨h1,h2⟩:=L.at_ i x hx
   refine ⟨fun _ v hv=>by simp at hv,fun hk=> ?_⟩;refine z0 (h2 hk) fun c o ov k1 k2 k3 _=> ?_;exact ⟨c,o,ov,k1,k2,k3,fun v hv=>by simp at hv⟩
 refine codeAny_mono (SC f vs xs D NA sm B2 L2 (VRs.closed q hc) hF') fun r s' h=> ?_;rw [zeH] at hF ⊢;rw [if_pos hc] at hF ⊢;cases r with
 |ok fl =>
  cases fl with
  |ret v =>
   obtain ⟨pv,H',fz',μ',e,x,sm',B',w⟩:=h;rw [e] at hF ⊢;dsimp only at hF ⊢
   split at hF
   ·rename_i hcl
    rw [if_pos hcl];obtain ⟨g',mu',tb',T',F',N',S'⟩:=B';refine ⟨pv,H,fz',μ,rfl,⟨x.1,fun _ _ h=>h⟩,sm',⟨g',mu,tb',T',F',fun p hp=>N' p ?_,?_⟩,VR.closed w hcl⟩
    ·simp only [List.mem_append] at hp ⊢
     rcases hp with a|b|c|d|e
     ·exact .inl a
     ·exact .inr (.inr (.inr (.inr (.inl b))))
     ·exact .inr (.inr (.inl c))
     ·exact .inr (.inr (.inr (.inl d)))
     ·exact .inr (.inr (.inr (.inr (.inr e))))
    ·exact yH.unhide S x.1 (fun _ h=>h) (S'.sub fun p hp=>by
      simp only [List.mem_append] at hp ⊢
      rcases hp with a|b|c
      ·exact .inr (.inl a)
      ·exact .inl b
      ·exact .inr (.inr c))
   ·exact hF.elim
  |_=>exact h.elim
 |error e =>
  obtain ⟨hc0,hx⟩:=h;refine ⟨hc0,wpAny_mono hx (fun _ s'' h_=> ?_) fun _ _ z=>z⟩;obtain ⟨C,H',fz',μ',er,x,X⟩:=h_;rw [er];refine ⟨C,H,fz',μ,rfl,⟨x.1,fun _ _ h=>h⟩,?_⟩;obtain ⟨a,mu',tb',rfl,sm2,⟨B3,a0,hB,hBG,hl,hfl⟩,hup,S'⟩:=X;refine ⟨a,mu,tb',rfl,sm2,⟨B3,a0,hB,hBG,fun q hq=>hl q ?_,hfl⟩,hup,yH.unhide S x.1 (fun p hp=>mR _ hp) S'⟩;simp only [List.mem_append] at hq ⊢
  rcases hq with a|b|c|d
  ·exact .inl a
  ·exact .inr (.inr (.inr (.inl b)))
  ·exact .inr (.inr (.inl c))
  ·exact .inr (.inr (.inr (.inr d)))
theorem yeA (SC:zbF G c k) (D:Good G φ (k+1)) (hv:∀ fz μ,Γ.p fz μ→VRs G fz μ vs xs):SJ G φ Γ (wV G) (fun _ H=>c f vs H) (call (.ref (G.fa f)) xs):=by
 intro R fz μ loc H s S hΓ hF;obtain ⟨sm,m,vm,ce,B,L⟩:=S;refine wpAny_call (codeAny_mono (SC f vs xs D (Near.self D) sm B L (hv _ _ hΓ) hF) fun r s' h=> ?_);have h':=h.toCQ L;cases r with
 |ok fl=>cases fl with
  |ret v=>exact h'
  |_=>exact h'.elim
 |error e=>exact h'
theorem zmA (SC:zbF G c k) (D:Good G φ (k+1)) (hv:∀ fz μ,Γ.p fz μ→VRs G fz μ vs xs):SJ G φ Γ (wV G) (fun _ H=>closedCall c f vs H) (call (.ref (G.fa f)) xs):=by
 intro R fz μ loc H s S hΓ hF;obtain ⟨sm,m,vm,ce,B,L⟩:=S;refine wpAny_call (codeAny_mono (sc_closed SC D (Near.self D) sm B L (hv _ _ hΓ) hF) fun r s' h=> ?_);have h':=h.toCQ L;cases r with
 |ok fl=>cases fl with
  |ret v=>exact h'
  |_=>exact h'.elim
 |error e=>exact h'
end
section
variable {G:Gl} {φ:Fx} {k:Nat} {R fz:zB} {μ:Mu} {loc:Loc} {H:Hp} {s:Shared} {α β:Type} {Γ:MP}
theorem ymB:∀ fz μ,(Γ.and (wVs G) vs xs).p fz μ→VRs G fz μ vs xs:=fun _ _ h=>h.2
theorem ej_callO (SC:zbF G c k) (D:Good G φ (k+1)) (O:GOk G) (hkx:φ.env.kindOf x=some .globalImplicit) (hx:nsIn G.K mainGlobals x=some (some (.ref (G.fa f)))) (hd:(x==("__debug__" : Str))=false)
  (hkeep:keepIn G.K (.ref (G.fa f))=true) (ha:AJ G φ fa (backTo pos (starEach args φ.env))) :
  EJ G φ (fun loc H=>(fa loc H).bind fun vs H=>c f vs H) (eval (.Call (.Name x np) args [] pos) φ.env) :=
 yfA (fun _ _ _ _ _ _ S _ _ h=>xU D O S hkx hx hd h) (zeI (first:=[]) ha (zlB D O hkeep) (g:=fun vs _ H=>c f vs H) fun vs xs=>yeA SC D ymB)
theorem ej_callC (SC:zbF G c k) (D:Good G φ (k+1)) (O:GOk G) (hkx:φ.env.kindOf x=some .globalImplicit) (hx:nsIn G.K mainGlobals x=some (some (.ref (G.fa f)))) (hd:(x==("__debug__" : Str))=false)
  (hkeep:keepIn G.K (.ref (G.fa f))=true) (ha:AJ G φ fa (backTo pos (starEach args φ.env))) :
  EJ G φ (fun loc H=>(fa loc H).bind fun vs H=>closedCall c f vs H) (eval (.Call (.Name x np) args [] pos) φ.env) :=
 yfA (fun _ _ _ _ _ _ S _ _ h=>xU D O S hkx hx hd h) (zeI (first:=[]) ha (zlB D O hkeep) (g:=fun vs _ H=>closedCall c f vs H) fun vs xs=>zmA SC D ymB)
theorem ybI (KO:KOk G T) (D:Good G φ k) (O:GOk G):∀ R fz μ loc H s v x f,Sat G φ R fz μ loc H s→VR G fz μ v x→((clsV v H).bind fun C=>T.meth C j)=some f →
  ∀ pl (Q:Value×List Value→Shared→Prop) E,Q (.ref (G.fa f),[x]) s→wpAny (model G.prog G.w) φ.A (getMethod x (metN j) pl) Q E s:=by
 intro R fz μ loc H s v x f S hv hs pl Q E h;refine oEA (Option.bind_eq_some_iff.mp hs) fun C hC hf=> ?_;obtain ⟨a,d,ks,vs,es,n,e,I,hk,q⟩:=(inst_of D S hv).get hC;have hm:=KO.met C j f hf;unfold metOk at hm;simp only [Bool.and_eq_true,beq_iff_eq] at hm;obtain ⟨⟨⟨h1,h2⟩,h3⟩,h4⟩:=hm;refine xC (S.look D O) fun g m F B X Tp=> ?_;rw [e] at h ⊢;exact method_inst F X I h1 h2 h3 (keys_miss (fun i e=>met_nm e.symm) hk) h
noncomputable def ynC (G:Gl):Prop:=∀ f,keepIn G.K (.ref (G.fa f))=true
theorem ej_methO (KO:KOk G T) (FK:ynC G) (SC:zbF G c k) (D:Good G φ (k+1)) (O:GOk G) (hn:z3 o=true) (hpos:(apos.endLine==pos.line)=true) (hlen:args.length<30)
  (h0:EJ G φ a (eval o φ.env)) (ha:AJ G φ fa (backTo pos (starEach args φ.env))) :
  EJ G φ (fun loc H=>(a loc H).bind fun v H=>(zC ((clsV v H).bind fun C=>T.meth C j) H).bind fun f H=>(fa loc H).bind fun vs H=>c f (v::vs) H) (eval (.Call (.Attribute o (metN j) apos) args [] pos) φ.env) :=
 mj (sel:=fun v H=>(clsV v H).bind fun C=>T.meth C j) (fnOf:=fun f=>.ref (G.fa f)) (g:=fun f v loc H=>(fa loc H).bind fun vs H=>c f (v::vs) H) hn hpos hlen ha.pl h0 (ybI KO D O) fun v x f =>zeI (first:=[x]) ha (zlB D O (FK f)) (g:=fun vs _ H=>c f (v::vs) H) fun vs xs=>yeA SC D fun _ _ h=>⟨h.1.2,h.2⟩
theorem ej_methC (KO:KOk G T) (FK:ynC G) (SC:zbF G c k) (D:Good G φ (k+1)) (O:GOk G) (hn:z3 o=true) (hpos:(apos.endLine==pos.line)=true) (hlen:args.length<30)
  (h0:EJ G φ a (eval o φ.env)) (ha:AJ G φ fa (backTo pos (starEach args φ.env))) :
  EJ G φ (fun loc H=>(a loc H).bind fun v H=>(zC ((clsV v H).bind fun C=>T.meth C j) H).bind fun f H=>(fa loc H).bind fun vs H=>closedCall c f (v::vs) H) (eval (.Call (.Attribute o (metN j) apos) args [] pos) φ.env) :=
 mj (sel:=fun v H=>(clsV v H).bind fun C=>T.meth C j) (fnOf:=fun f=>.ref (G.fa f)) (g:=fun f v loc H=>(fa loc H).bind fun vs H=>closedCall c f (v::vs) H) hn hpos hlen ha.pl h0 (ybI KO D O) fun v x f =>zeI (first:=[x]) ha (zlB D O (FK f)) (g:=fun vs _ H=>closedCall c f (v::vs) H) fun vs xs=>zmA SC D fun _ _ h=>⟨h.1.2,h.2⟩
end
section
variable {G:Gl} {φ:Fx} {k:Nat} {R fz:zB} {μ:Mu} {loc:Loc} {H:Hp} {s:Shared} {α β:Type} {Γ:MP}
theorem Sat.newInst (S:Sat G φ R fz μ loc H s) (C:Nat) :
  Sat G φ R ((s.heap.objs.size+1,instObj (G.ca C) s.heap.objs.size)::fz) (μ++[(s.heap.objs.size+1,s.heap.objs.size)]) loc (H++[.att C [] []]) {s with heap:=(s.heap.push (dictOf [] 0)).push (instObj (G.ca C) s.heap.objs.size),toks:=tk}:=by
 have hd:((s.heap.push (dictOf [] 0)).push (instObj (G.ca C) s.heap.objs.size)).get? s.heap.objs.size=some (dictOf [] 0):=Heap.get?_push_of_some _ (Heap.get?_push_size _ rfl);have ha:((s.heap.push (dictOf [] 0)).push (instObj (G.ca C) s.heap.objs.size)).get? (s.heap.objs.size+1)=some (instObj (G.ca C) s.heap.objs.size):=Heap.get?_push_at (by rw [Heap.size_push]) rfl;have kp:∀ b o,s.heap.get? b=some o→((s.heap.push (dictOf [] 0)).push (instObj (G.ca C) s.heap.objs.size)).get? b=some o:=fun b o e=>Heap.get?_push_of_some _ (Heap.get?_push_of_some _ e);generalize ((s.heap.push (dictOf [] 0)).push (instObj (G.ca C) s.heap.objs.size))=h' at hd ha kp;have S1:=S.more (h':=hideAll h' [s.heap.objs.size]) (tk:=tk) (new:=[(s.heap.objs.size+1,instObj (G.ca C) s.heap.objs.size)]) (fun b o e=>hideAll_get _ (kp b o e) fun hm=>by
   rw [List.mem_singleton.mp hm,S.none_] at e; cases e) (fun p hp=>by
   rw [List.mem_singleton.mp hp];refine ⟨hideAll_get _ ha fun hm=> ?_,Heap.get?_none_of_le (Nat.le_succ _)⟩;exact absurd (List.mem_singleton.mp hm) (Nat.succ_ne_self _))
 exact S1.mpush (h':=h') (tk:=tk) (fun b o e=>of_hideAll _ e) hd (hideAll_none _ (List.mem_singleton.mpr rfl)) trivial ⟨.inr mQ,[],0,rfl,trivial,trivial⟩
theorem make_X {K:Frag} (X:K.In s.heap) (hm:makesIn K C=true) (hi:findIn K (.ref C) "__init__" =some (some (.ref fI))) (hf:isFn K (.ref fI)=true)
  (h:codeAny (model prog w) (A.under (.builtin "type.__call__" ⟨.ref C::rest,[]⟩)) (.call (.ref fI) ⟨.ref (s.heap.objs.size+1)::rest,[]⟩) (InitBack (s.heap.objs.size+1) Rr) {s with heap:=(s.heap.push (dictOf [] 0)).push (instObj C s.heap.objs.size)}) :
  codeAny (model prog w) A (.call (.ref C) ⟨rest,[]⟩) Rr s:=by
 obtain ⟨hh,g,d,t,os⟩:=s;refine make_core (makes_of X hm) (looks_findIn X hi) (fun self=>bind_fn X self (beq_iff_eq.mp hf)) (.inl rfl) ?_;exact h
end
section
variable {G:Gl} {φ:Fx} {k:Nat} {R fz:zB} {μ:Mu} {loc:Loc} {H:Hp} {s:Shared} {α β:Type} {Γ:MP}
theorem near_make (D:Good G φ (k+1)) (C:Addr) (vals:List Value):Near φ (φ.A.under (.builtin "type.__call__" ⟨.ref C::vals,[]⟩)) k:=by
 have N:=Near.self D;have h1:xE (k+1)=xE k+8:=by unfold xE; lia
 have h2:zbE (k+1)=zbE k+20:=by unfold zbE; lia
 have h3:=D.hde;have h4:=D.hun;refine ⟨?_,N.hh,?_,?_,?_⟩
 ·have e:(φ.A.under (.builtin "type.__call__" ⟨.ref C::vals,[]⟩)).frames=φ.A.frames:=rfl
  rw [e]; exact N.fr
 ·have e:(φ.A.under (.builtin "type.__call__" ⟨.ref C::vals,[]⟩)).guards=φ.A.guards:=rfl
  rw [e]; exact N.hg
 ·rw [zjD]; lia
 ·show φ.A.units+1+3+zbE k≤_
  lia
noncomputable def newR (T:Tab) (c:Call) (C:Nat) (vs:List PV) (H:Hp):Rs PV:=match T.init C with
 |some f=>(c f (.ref H.length::vs) (H++[.att C [] []])).bind fun r H'=>if isNone r then .ok (.ref H.length) H' else .bad
 |none=>.bad
theorem call_new (KO:KOk G T) (SC:zbF G c k) (D:Good G φ (k+1)) (O:GOk G) (hv:∀ fz μ,Γ.p fz μ→VRs G fz μ vs xs):SJ G φ Γ (wV G) (fun _ H=>newR T c C vs H) (call (.ref (G.ca C)) xs):=by
 intro R fz μ loc H s S hΓ hF;dsimp only at hF ⊢;unfold newR at hF ⊢;cases hi:T.init C with
 |none=>rw [hi] at hF; exact hF.elim
 |some f =>
  rw [hi] at hF;dsimp only at hF ⊢;have hk:=KO.ini C f hi;unfold iniOk at hk;simp only [Bool.and_eq_true,beq_iff_eq] at hk;obtain ⟨⟨⟨h1,h2⟩,h3⟩,h4⟩:=hk;refine wpAny_call (make_X (S.X D O) h1 h2 h3 ?_);have S1:=S.newInst C (tk:=s.toks);have hlen:μ.length=H.length:=S.mulen;have ex:Ext fz μ ((s.heap.objs.size+1,instObj (G.ca C) s.heap.objs.size)::fz) (μ++[(s.heap.objs.size+1,s.heap.objs.size)]):=⟨fun p hp=>mC _ hp,fun i x h=>by rw [List.getElem?_append_left (List.getElem?_eq_some_iff.mp h).1]; exact h⟩;have hself:VR G ((s.heap.objs.size+1,instObj (G.ca C) s.heap.objs.size)::fz) (μ++[(s.heap.objs.size+1,s.heap.objs.size)]) (.ref H.length) (.ref (s.heap.objs.size+1)):=.ref _ _ s.heap.objs.size (by rw [← hlen]; simp);obtain ⟨sm,m,vm,ce,B,L⟩:=S1;refine codeAny_mono (SC f (.ref H.length::vs) (.ref (s.heap.objs.size+1)::xs) D (near_make D _ _) sm B L ⟨hself,(hv _ _ hΓ).mono ex⟩ hF.fst) fun r s' h=> ?_;cases r with
  |ok fl =>
   cases fl with
   |ret v =>
    obtain ⟨pv,H',fz',μ',e,x,sm',B',w⟩:=h;rw [e] at hF ⊢
    replace hF:Fine φ (if isNone pv then Rs.ok (PV.ref H.length) H' else .bad):=hF
    cases hp:isNone pv with
    |false=>rw [hp] at hF; exact hF.elim
    |true =>
     have:pv= .none:=by cases pv <;> first|rfl|cases hp
     subst this;cases w;refine ⟨rfl,.ref H.length,H',fz',μ',rfl,ex.trans x,⟨sm',m,vm,ce,B',L.ext x⟩,hself.mono x⟩
   |_=>exact h.elim
  |error e=>exact EX.up ex (fun C H q=>by rw [q]; rfl) h
theorem ej_new (KO:KOk G T) (SC:zbF G c k) (D:Good G φ (k+1)) (O:GOk G) (hkx:φ.env.kindOf x=some .globalImplicit) (hx:nsIn G.K mainGlobals x=some (some (.ref (G.ca C)))) (hd:(x==("__debug__" : Str))=false)
  (hkeep:keepIn G.K (.ref (G.ca C))=true) (ha:AJ G φ fa (backTo pos (starEach args φ.env))) :
  EJ G φ (fun loc H=>(fa loc H).bind fun vs H=>newR T c C vs H) (eval (.Call (.Name x np) args [] pos) φ.env) :=
 yfA (fun _ _ _ _ _ _ S _ _ h=>xU D O S hkx hx hd h) (zeI (first:=[]) ha (zlB D O hkeep) (g:=fun vs _ H=>newR T c C vs H) fun vs xs=>call_new KO SC D O ymB)
end
section
variable {G:Gl} {φ:Fx} {k:Nat} {R fz:zB} {μ:Mu} {loc:Loc} {H:Hp} {s:Shared}
theorem ydD (D:Good G φ k) (O:GOk G) (hkx:φ.env.kindOf x=some .globalImplicit) (hx:nsIn G.K mainGlobals x=some (some y)) (hd:(x==("__debug__" : Str))=false) (hv:∀ fz μ,VR G fz μ v y) :
  EJ G φ (fun _ H=>.ok v H) (eval (.Name x pos) φ.env) :=
 fun R fz μ loc H s S hΓ hF=>xU D O S hkx hx hd ⟨v,H,fz,μ,rfl,.refl,S,hv _ _⟩
theorem ej_builtV (D:Good G φ k) (O:GOk G) (hkx:φ.env.kindOf x=some .globalImplicit) (hx:nsIn G.K mainGlobals x=some none) (hb:bootBuiltins x=some y) (hn:x≠ "__name__") (hd:(x==("__debug__" : Str))=false) (hv:∀ fz μ,VR G fz μ v y) :
  EJ G φ (fun _ H=>.ok v H) (eval (.Name x pos) φ.env) :=
 fun R fz μ loc H s S hΓ hF=>zbB D O S hkx hx hb hn hd ⟨v,H,fz,μ,rfl,.refl,S,hv _ _⟩
end
theorem a1 (h:(a&&b)=true):a=true:=(Bool.and_eq_true_iff.mp h).1
theorem a2 (h:(a&&b)=true):b=true:=(Bool.and_eq_true_iff.mp h).2
theorem nt (h:(!a)=true):a=false:=by cases a <;> first|rfl|cases h
theorem dn {P c:Prop} [Decidable c] {t:c→Bool} (e:¬c) (h:dite c t (fun _=>false)=true):P:=absurd ((dif_neg e).symm.trans h) Bool.false_ne_true
noncomputable def zhF (x:Expr) (f:Str→Pos→Bool):Bool:=if h:x.ctorIdx=23 then Expr.Name.elim (motive_1:=fun _=>Bool) x h f else false
theorem yX {x:Expr} {f:Str→Pos→Bool} {P:Expr→Prop} (h:zhF x f=true) (g:∀ y p,f y p=true→P (.Name y p)):P x:=if e:x.ctorIdx=23 then Expr.Name.elim (motive_1:=fun x=>zhF x f=true→P x) x e g h else dn e h
noncomputable def xL (x:Expr) (f:Expr→Str→Pos→Bool):Bool:=if h:x.ctorIdx=20 then Expr.Attribute.elim (motive_1:=fun _=>Bool) x h f else false
theorem wA {x:Expr} {f:Expr→Str→Pos→Bool} {P:Expr→Prop} (h:xL x f=true) (g:∀ o a p,f o a p=true→P (.Attribute o a p)):P x:=if e:x.ctorIdx=20 then Expr.Attribute.elim (motive_1:=fun x=>xL x f=true→P x) x e g h else dn e h
noncomputable def xK (x:Expr) (f:Expr→Expr→Pos→Bool):Bool:=if h:x.ctorIdx=21 then Expr.Subscript.elim (motive_1:=fun _=>Bool) x h f else false
theorem xZ {x:Expr} {f:Expr→Expr→Pos→Bool} {P:Expr→Prop} (h:xK x f=true) (g:∀ o s p,f o s p=true→P (.Subscript o s p)):P x:=if e:x.ctorIdx=21 then Expr.Subscript.elim (motive_1:=fun x=>xK x f=true→P x) x e g h else dn e h
noncomputable def yfH (x:Expr) (f:Option Expr→Option Expr→Option Expr→Pos→Bool):Bool:=if h:x.ctorIdx=26 then Expr.Slice.elim (motive_1:=fun _=>Bool) x h f else false
theorem xSlice_el {x:Expr} {f:Option Expr→Option Expr→Option Expr→Pos→Bool} {P:Expr→Prop} (h:yfH x f=true) (g:∀ l u t p,f l u t p=true→P (.Slice l u t p)):P x:=if e:x.ctorIdx=26 then Expr.Slice.elim (motive_1:=fun x=>yfH x f=true→P x) x e g h else dn e h
noncomputable def zhI (x:Expr) (f:UnaryOp→Expr→Pos→Bool):Bool:=if h:x.ctorIdx=3 then Expr.UnaryOp.elim (motive_1:=fun _=>Bool) x h f else false
theorem ziI {x:Expr} {f:UnaryOp→Expr→Pos→Bool} {P:Expr→Prop} (h:zhI x f=true) (g:∀ o e p,f o e p=true→P (.UnaryOp o e p)):P x:=if e:x.ctorIdx=3 then Expr.UnaryOp.elim (motive_1:=fun x=>zhI x f=true→P x) x e g h else dn e h
noncomputable def ygA (x:Expr) (f:Expr→Operator→Expr→Pos→Bool):Bool:=if h:x.ctorIdx=2 then Expr.BinOp.elim (motive_1:=fun _=>Bool) x h f else false
theorem xBinOp_el {x:Expr} {f:Expr→Operator→Expr→Pos→Bool} {P:Expr→Prop} (h:ygA x f=true) (g:∀ l o r p,f l o r p=true→P (.BinOp l o r p)):P x:=if e:x.ctorIdx=2 then Expr.BinOp.elim (motive_1:=fun x=>ygA x f=true→P x) x e g h else dn e h
noncomputable def zdC (x:Expr) (f:Expr→List CmpOp→List Expr→Pos→Bool):Bool:=if h:x.ctorIdx=15 then Expr.Compare.elim (motive_1:=fun _=>Bool) x h f else false
theorem zcB {x:Expr} {f:Expr→List CmpOp→List Expr→Pos→Bool} {P:Expr→Prop} (h:zdC x f=true) (g:∀ l o r p,f l o r p=true→P (.Compare l o r p)):P x:=if e:x.ctorIdx=15 then Expr.Compare.elim (motive_1:=fun x=>zdC x f=true→P x) x e g h else dn e h
noncomputable def zoJ (x:Expr) (f:PySem.BoolOp→List Expr→Pos→Bool):Bool:=if h:x.ctorIdx=0 then Expr.BoolOp.elim (motive_1:=fun _=>Bool) x h f else false
theorem zmD {x:Expr} {f:PySem.BoolOp→List Expr→Pos→Bool} {P:Expr→Prop} (h:zoJ x f=true) (g:∀ o v p,f o v p=true→P (.BoolOp o v p)):P x:=if e:x.ctorIdx=0 then Expr.BoolOp.elim (motive_1:=fun x=>zoJ x f=true→P x) x e g h else dn e h
noncomputable def yfI (x:Expr) (f:Expr→Expr→Expr→Pos→Bool):Bool:=if h:x.ctorIdx=5 then Expr.IfExp.elim (motive_1:=fun _=>Bool) x h f else false
theorem xIfExp_el {x:Expr} {f:Expr→Expr→Expr→Pos→Bool} {P:Expr→Prop} (h:yfI x f=true) (g:∀ c l r p,f c l r p=true→P (.IfExp c l r p)):P x:=if e:x.ctorIdx=5 then Expr.IfExp.elim (motive_1:=fun x=>yfI x f=true→P x) x e g h else dn e h
noncomputable def zzA (x:Expr) (f:List Expr→Nat→Pos→Bool):Bool:=if h:x.ctorIdx=25 then Expr.Tuple.elim (motive_1:=fun _=>Bool) x h f else false
theorem zrH {x:Expr} {f:List Expr→Nat→Pos→Bool} {P:Expr→Prop} (h:zzA x f=true) (g:∀ v k p,f v k p=true→P (.Tuple v k p)):P x:=if e:x.ctorIdx=25 then Expr.Tuple.elim (motive_1:=fun x=>zzA x f=true→P x) x e g h else dn e h
noncomputable def xList (x:Expr) (f:List Expr→Pos→Bool):Bool:=if h:x.ctorIdx=24 then Expr.List.elim (motive_1:=fun _=>Bool) x h f else false
theorem xList_el {x:Expr} {f:List Expr→Pos→Bool} {P:Expr→Prop} (h:xList x f=true) (g:∀ v p,f v p=true→P (.List v p)):P x:=if e:x.ctorIdx=24 then Expr.List.elim (motive_1:=fun x=>xList x f=true→P x) x e g h else dn e h
noncomputable def yfJ (x:Expr) (f:Expr→List Expr→List Keyword→Pos→Bool):Bool:=if h:x.ctorIdx=16 then Expr.Call.elim (motive_1:=fun _=>Bool) x h f else false
theorem zoI {x:Expr} {f:Expr→List Expr→List Keyword→Pos→Bool} {P:Expr→Prop} (h:yfJ x f=true) (g:∀ n a w p,f n a w p=true→P (.Call n a w p)):P x:=if e:x.ctorIdx=16 then Expr.Call.elim (motive_1:=fun x=>yfJ x f=true→P x) x e g h else dn e h
noncomputable def ziJ (x:Expr) (f:Expr→List Comprehension→Scope→Pos→Bool):Bool:=if h:x.ctorIdx=8 then Expr.ListComp.elim (motive_1:=fun _=>Bool) x h f else false
theorem xListComp_el {x:Expr} {f:Expr→List Comprehension→Scope→Pos→Bool} {P:Expr→Prop} (h:ziJ x f=true) (g:∀ e g s p,f e g s p=true→P (.ListComp e g s p)):P x:=if e:x.ctorIdx=8 then Expr.ListComp.elim (motive_1:=fun x=>ziJ x f=true→P x) x e g h else dn e h
noncomputable def zjA (x:Expr) (f:Expr→Expr→List Comprehension→Scope→Pos→Bool):Bool:=if h:x.ctorIdx=10 then Expr.DictComp.elim (motive_1:=fun _=>Bool) x h f else false
theorem xDictComp_el {x:Expr} {f:Expr→Expr→List Comprehension→Scope→Pos→Bool} {P:Expr→Prop} (h:zjA x f=true) (g:∀ k v g s p,f k v g s p=true→P (.DictComp k v g s p)):P x:=if e:x.ctorIdx=10 then Expr.DictComp.elim (motive_1:=fun x=>zjA x f=true→P x) x e g h else dn e h
noncomputable def xDict (x:Expr) (f:List (Option Expr)→List Expr→Pos→Bool):Bool:=if h:x.ctorIdx=6 then Expr.Dict.elim (motive_1:=fun _=>Bool) x h f else false
theorem xDict_el {x:Expr} {f:List (Option Expr)→List Expr→Pos→Bool} {P:Expr→Prop} (h:xDict x f=true) (g:∀ k v p,f k v p=true→P (.Dict k v p)):P x:=if e:x.ctorIdx=6 then Expr.Dict.elim (motive_1:=fun x=>xDict x f=true→P x) x e g h else dn e h
noncomputable def zwG (x:Expr) (f:Arguments→Expr→Scope→Pos→Bool):Bool:=if h:x.ctorIdx=4 then Expr.Lambda.elim (motive_1:=fun _=>Bool) x h f else false
theorem xLambda_el {x:Expr} {f:Arguments→Expr→Scope→Pos→Bool} {P:Expr→Prop} (h:zwG x f=true) (g:∀ a b s p,f a b s p=true→P (.Lambda a b s p)):P x:=if e:x.ctorIdx=4 then Expr.Lambda.elim (motive_1:=fun x=>zwG x f=true→P x) x e g h else dn e h
noncomputable def zjB (x:Expr) (f:Const→Nat→Pos→Bool):Bool:=if h:x.ctorIdx=19 then Expr.Constant.elim (motive_1:=fun _=>Bool) x h f else false
theorem xConstant_el {x:Expr} {f:Const→Nat→Pos→Bool} {P:Expr→Prop} (h:zjB x f=true) (g:∀ c k p,f c k p=true→P (.Constant c k p)):P x:=if e:x.ctorIdx=19 then Expr.Constant.elim (motive_1:=fun x=>zjB x f=true→P x) x e g h else dn e h
noncomputable def zfC (x:Stmt) (f:List Expr→Expr→Pos→Bool):Bool:=if h:x.ctorIdx=5 then Stmt.Assign.elim (motive_2:=fun _=>Bool) x h f else false
theorem zaG {x:Stmt} {f:List Expr→Expr→Pos→Bool} {P:Stmt→Prop} (h:zfC x f=true) (g:∀ t v p,f t v p=true→P (.Assign t v p)):P x:=if e:x.ctorIdx=5 then Stmt.Assign.elim (motive_2:=fun x=>zfC x f=true→P x) x e g h else dn e h
noncomputable def zpC (x:Stmt) (f:Option Expr→Pos→Bool):Bool:=if h:x.ctorIdx=3 then Stmt.Return.elim (motive_2:=fun _=>Bool) x h f else false
theorem zmF {x:Stmt} {f:Option Expr→Pos→Bool} {P:Stmt→Prop} (h:zpC x f=true) (g:∀ v p,f v p=true→P (.Return v p)):P x:=if e:x.ctorIdx=3 then Stmt.Return.elim (motive_2:=fun x=>zpC x f=true→P x) x e g h else dn e h
noncomputable def tExpr (x:Stmt) (f:Expr→Pos→Bool):Bool:=if h:x.ctorIdx=24 then Stmt.Expr.elim (motive_2:=fun _=>Bool) x h f else false
theorem tExpr_el {x:Stmt} {f:Expr→Pos→Bool} {P:Stmt→Prop} (h:tExpr x f=true) (g:∀ v p,f v p=true→P (.Expr v p)):P x:=if e:x.ctorIdx=24 then Stmt.Expr.elim (motive_2:=fun x=>tExpr x f=true→P x) x e g h else dn e h
noncomputable def zjF (x:Stmt) (f:Pos→Bool):Bool:=if h:x.ctorIdx=27 then Stmt.Continue.elim (motive_2:=fun _=>Bool) x h f else false
theorem tContinue_el {x:Stmt} {f:Pos→Bool} {P:Stmt→Prop} (h:zjF x f=true) (g:∀ p,f p=true→P (.Continue p)):P x:=if e:x.ctorIdx=27 then Stmt.Continue.elim (motive_2:=fun x=>zjF x f=true→P x) x e g h else dn e h
noncomputable def tIf (x:Stmt) (f:Expr→List Stmt→List Stmt→Pos→Bool):Bool:=if h:x.ctorIdx=12 then Stmt.If.elim (motive_2:=fun _=>Bool) x h f else false
theorem tIf_el {x:Stmt} {f:Expr→List Stmt→List Stmt→Pos→Bool} {P:Stmt→Prop} (h:tIf x f=true) (g:∀ t a b p,f t a b p=true→P (.If t a b p)):P x:=if e:x.ctorIdx=12 then Stmt.If.elim (motive_2:=fun x=>tIf x f=true→P x) x e g h else dn e h
noncomputable def ygG (x:Stmt) (f:Expr→List Stmt→List Stmt→Pos→Bool):Bool:=if h:x.ctorIdx=11 then Stmt.While.elim (motive_2:=fun _=>Bool) x h f else false
theorem tWhile_el {x:Stmt} {f:Expr→List Stmt→List Stmt→Pos→Bool} {P:Stmt→Prop} (h:ygG x f=true) (g:∀ t a b p,f t a b p=true→P (.While t a b p)):P x:=if e:x.ctorIdx=11 then Stmt.While.elim (motive_2:=fun x=>ygG x f=true→P x) x e g h else dn e h
noncomputable def tFor (x:Stmt) (f:Expr→Expr→List Stmt→List Stmt→Pos→Bool):Bool:=if h:x.ctorIdx=9 then Stmt.For.elim (motive_2:=fun _=>Bool) x h f else false
theorem tFor_el {x:Stmt} {f:Expr→Expr→List Stmt→List Stmt→Pos→Bool} {P:Stmt→Prop} (h:tFor x f=true) (g:∀ x i a b p,f x i a b p=true→P (.For x i a b p)):P x:=if e:x.ctorIdx=9 then Stmt.For.elim (motive_2:=fun x=>tFor x f=true→P x) x e g h else dn e h
noncomputable def ygH (x:Stmt) (f:Option Expr→Option Expr→Pos→Bool):Bool:=if h:x.ctorIdx=16 then Stmt.Raise.elim (motive_2:=fun _=>Bool) x h f else false
theorem tRaise_el {x:Stmt} {f:Option Expr→Option Expr→Pos→Bool} {P:Stmt→Prop} (h:ygH x f=true) (g:∀ x y p,f x y p=true→P (.Raise x y p)):P x:=if e:x.ctorIdx=16 then Stmt.Raise.elim (motive_2:=fun x=>ygH x f=true→P x) x e g h else dn e h
noncomputable def cnone (x:Const):Bool:=decide (x.ctorIdx=0)
theorem cnone_el {x:Const} {P:Const→Prop} (h:cnone x=true) (k:P .none):P x:=Const.none.elim (motive:=P) x (of_decide_eq_true h) k
noncomputable def cbool (x:Const) (f:Bool→Bool):Bool:=if h:x.ctorIdx=1 then Const.bool.elim (motive:=fun _=>Bool) x h f else false
theorem cbool_el {x:Const} {f:Bool→Bool} {P:Const→Prop} (h:cbool x f=true) (g:∀ b,f b=true→P (.bool b)):P x:=if e:x.ctorIdx=1 then Const.bool.elim (motive:=fun x=>cbool x f=true→P x) x e g h else dn e h
noncomputable def cint (x:Const) (f:Int→Bool):Bool:=if h:x.ctorIdx=2 then Const.int.elim (motive:=fun _=>Bool) x h f else false
theorem cint_el {x:Const} {f:Int→Bool} {P:Const→Prop} (h:cint x f=true) (g:∀ i,f i=true→P (.int i)):P x:=if e:x.ctorIdx=2 then Const.int.elim (motive:=fun x=>cint x f=true→P x) x e g h else dn e h
noncomputable def cstr (x:Const) (f:Str→Bool):Bool:=if h:x.ctorIdx=5 then Const.str.elim (motive:=fun _=>Bool) x h f else false
theorem cstr_el {x:Const} {f:Str→Bool} {P:Const→Prop} (h:cstr x f=true) (g:∀ y,f y=true→P (.str y)):P x:=if e:x.ctorIdx=5 then Const.str.elim (motive:=fun x=>cstr x f=true→P x) x e g h else dn e h
noncomputable def ylC (x:Const) (f:List UInt8→Bool):Bool:=if h:x.ctorIdx=6 then Const.bytes.elim (motive:=fun _=>Bool) x h f else false
theorem cbytes_el {x:Const} {f:List UInt8→Bool} {P:Const→Prop} (h:ylC x f=true) (g:∀ y,f y=true→P (.bytes y)):P x:=if e:x.ctorIdx=6 then Const.bytes.elim (motive:=fun x=>ylC x f=true→P x) x e g h else dn e h
noncomputable def on0 {α:Type} (l:List α):Bool:=match l with|[]=>true|_::_=>false
theorem w7 {α:Type} {l:List α} {P:List α→Prop} (h:on0 l=true) (k:P []):P l:=match l,h with|[],_=>k
noncomputable def onC {α:Type} (l:List α) (f:α→List α→Bool):Bool:=match l with|[]=>false|a::r=>f a r
theorem znH {α:Type} {l:List α} {f:α→List α→Bool} {P:List α→Prop} (h:onC l f=true) (k:∀ a r,f a r=true→P (a::r)):P l:=match l,h with|a::r,h=>k a r h
noncomputable def on1 {α:Type} (l:List α) (f:α→Bool):Bool:=onC l fun a r=>on0 r&&f a
theorem xF {α:Type} {l:List α} {f:α→Bool} {P:List α→Prop} (h:on1 l f=true) (k:∀ a,f a=true→P [a]):P l:=znH h fun a _ h=>w7 (P:=fun r=>P (a::r)) (a1 h) (k a (a2 h))
noncomputable def on2 {α:Type} (l:List α) (f:α→α→Bool):Bool:=onC l fun a r=>on1 r (f a)
theorem ybD {α:Type} {l:List α} {f:α→α→Bool} {P:List α→Prop} (h:on2 l f=true) (k:∀ a b,f a b=true→P [a,b]):P l:=znH h fun a _ h=>xF (P:=fun r=>P (a::r)) h (k a)
noncomputable def onS {α:Type} (l:Option α) (f:α→Bool):Bool:=match l with|some a=>f a|none=>false
theorem yoH {α:Type} {l:Option α} {f:α→Bool} {P:Option α→Prop} (h:onS l f=true) (k:∀ a,f a=true→P (some a)):P l:=match l,h with|some a,h=>k a h
noncomputable def onN {α:Type} (l:Option α):Bool:=match l with|some _=>false|none=>true
theorem yiA {α:Type} {l:Option α} {P:Option α→Prop} (h:onN l=true) (k:P none):P l:=match l,h with|none,_=>k
structure MX where
 xs:List Str
 sc:Scope
 comp:Bool
 tr:Bool
structure NT where
 fn:List (Str×Nat)
 cls:List (Str×Nat)
 glo:List (Str×Nat)
noncomputable def isLoc (X:MX) (y:Str):Bool:=X.sc.names.lookup y==some .local||X.sc.names.lookup y==some .cell||X.sc.names.lookup y==some .free
noncomputable def zmC (X:MX) (y:Str):Bool:=(X.sc.names.lookup y==some .globalImplicit)&& !(y==("__debug__" : Str))
noncomputable def cstB (v:PV) (c:Const):Bool:=match v with
 | .none=>cnone c
 | .bool b=>cbool c fun b'=>b==b'
 | .int i=>cint c fun j=>i==j
 | .str l=>cstr c fun y=>(y.cps.toList==l)&&decide (y.cps.size≤SZ)
 | .bytes l=>ylC c fun y=>(y.map UInt8.toNat==l)&&decide (y.length≤SZ)
 |_=>false
noncomputable def ybF (e:Expr):Bool:= !(e.ctorIdx==7)
noncomputable def inter:List (Option Expr)→List Expr→List Expr
 |some k::ks,v::vs=>k::v::inter ks vs
 |_,_=>[]
noncomputable def ybG (p:Arguments):Bool:=p.posonlyargs.isEmpty&&p.args.isEmpty&&p.vararg.isNone&&p.kwonlyargs.isEmpty&&p.kw_defaults.isEmpty&&p.kwarg.isNone&&p.defaults.isEmpty
noncomputable def calB (X:MX) (s:Str) (x:Expr) (f:List Expr→Bool):Bool:=yfJ x fun n a k _=>on0 k&&(zhF n (fun y _=>(y==s)&&zmC X y)&&f a)
theorem zrD {X:MX} {s:Str} {x:Expr} {f:List Expr→Bool} {P:Expr→Prop} (h:calB X s x f=true) (k:∀ q a p,zmC X s=true→f a=true→P (.Call (.Name s q) a [] p)):P x :=
 zoI h fun n a w p h=>w7 (P:=fun w=>P (.Call n a w p)) (a1 h) (yX (P:=fun n=>P (.Call n a [] p)) (a1 (a2 h)) fun y q g=>by cases eq_of_beq (a1 g); exact k q a p (a2 g) (a2 (a2 h)))
noncomputable def yfC (X:MX) (s:Str) (x:Expr) (f:Expr→Bool):Bool:=calB X s x fun a=>on1 a fun e=>zG e&&f e
theorem zeJ {X:MX} {s:Str} {x:Expr} {f:Expr→Bool} {P:Expr→Prop} (h:yfC X s x f=true) (k:∀ q e p,zmC X s=true→zG e=true→f e=true→P (.Call (.Name s q) [e] [] p)):P x :=
 zrD h fun q a p g h=>xF (P:=fun a=>P (.Call (.Name s q) a [] p)) h fun e h=>k q e p g (a1 h) (a2 h)
noncomputable def calB2 (X:MX) (s:Str) (x:Expr) (f:Expr→Expr→Bool):Bool:=calB X s x fun a=>on2 a fun e e'=>zG e&&(zG e'&&f e e')
theorem yeB {X:MX} {s:Str} {x:Expr} {f:Expr→Expr→Bool} {P:Expr→Prop} (h:calB2 X s x f=true) (k:∀ q e e' p,zmC X s=true→zG e=true→zG e'=true→f e e'=true→P (.Call (.Name s q) [e,e'] [] p)):P x :=
 zrD h fun q a p g h=>ybD (P:=fun a=>P (.Call (.Name s q) a [] p)) h fun e e' h=>k q e e' p g (a1 h) (a1 (a2 h)) (a2 (a2 h))
noncomputable def calG (X:MX) (x:Expr) (f:Str→List Expr→Bool):Bool:=yfJ x fun n a k _=>on0 k&&(a.all zG&&zhF n fun y _=>zmC X y&&f y a)
theorem zrC {X:MX} {x:Expr} {f:Str→List Expr→Bool} {P:Expr→Prop} (h:calG X x f=true) (k:∀ y q a p,zmC X y=true→a.all zG=true→f y a=true→P (.Call (.Name y q) a [] p)):P x :=
 zoI h fun n a w p h=>w7 (P:=fun w=>P (.Call n a w p)) (a1 h) (yX (P:=fun n=>P (.Call n a [] p)) (a2 (a2 h)) fun y q g=>k y q a p (a1 g) (a1 (a2 h)) (a2 g))
noncomputable def meth (s:Str) (x:Expr) (f:Expr→List Expr→Bool):Bool:=yfJ x fun n a k p=>on0 k&&xL n fun o m ap=>(m==s)&&(z3 o&&((ap.endLine==p.line)&&f o a))
theorem zkE {s:Str} {x:Expr} {f:Expr→List Expr→Bool} {P:Expr→Prop} (h:meth s x f=true) (k:∀ o ap a p,z3 o=true→(ap.endLine==p.line)=true→f o a=true→P (.Call (.Attribute o s ap) a [] p)):P x :=
 zoI h fun n a w p h=>w7 (P:=fun w=>P (.Call n a w p)) (a1 h) (wA (P:=fun n=>P (.Call n a [] p)) (a2 h) fun o m ap h=>by cases eq_of_beq (a1 h); exact k o ap a p (a1 (a2 h)) (a1 (a2 (a2 h))) (a2 (a2 (a2 h))))
noncomputable def zxI (s:Str) (x:Expr) (f:Expr→Expr→Bool):Bool:=meth s x fun o a=>on1 a fun e=>zG e&&f o e
theorem zaJ {s:Str} {x:Expr} {f:Expr→Expr→Bool} {P:Expr→Prop} (h:zxI s x f=true) (k:∀ o ap e p,z3 o=true→(ap.endLine==p.line)=true→zG e=true→f o e=true→P (.Call (.Attribute o s ap) [e] [] p)):P x :=
 zkE h fun o ap a p h1 h2 h=>xF (P:=fun a=>P (.Call (.Attribute o s ap) a [] p)) h fun e h=>k o ap e p h1 h2 (a1 h) (a2 h)
noncomputable def tyS (t:Nat):Str:=(["bool","int","list","dict"]:List Str).getD t "bool"
noncomputable def isCN (b:E):Bool:=match b with
 | .cst v=>match v with
  | .none=>true
  |_=>false
 |_=>false
theorem isCN_cs {M:E→Bool→Prop} (h0:∀ b,M b false) (h1:M (.cst .none) true) (b:E):M b (isCN b):=by
 cases b with
 |cst v=>cases v with
  |none=>exact h1
  |_=>exact h0 _
 |_=>exact h0 _
theorem isCN_el {b:E} (h:isCN b=true):b= .cst .none:=isCN_cs (M:=fun b r=>r=true→b= .cst .none) (fun _ h=>Bool.noConfusion h) (fun _=>rfl) b h
noncomputable def optE (l:Option Expr) (b:E) (f:Expr→Bool):Bool:=match l with|some l=>f l|none=>isCN b
mutual
noncomputable def mE (N:NT):MX→E→Expr→Bool
 |X,.cst v,x=>zjB x fun c _ _=>cstB v c
 |X,.var i,x=>zhF x fun y _=>(X.xs[i]? ==some y)&&(isLoc X y&&(!(y==("__debug__" : Str))&& !(y==("__classdict__" : Str))))
 |X,.glo g,x=>zhF x fun y _=>zmC X y&&(N.glo.lookup y==some g)
 |X,.clsE C,x=>zhF x fun y _=>zmC X y&&(N.cls.lookup y==some C)
 |X,.ty t,x=>zhF x fun y _=>zmC X y&&(decide (t<4)&&(y==tyS t))
 |X,.attr e k,x=>xL x fun o a _=>(a==nm k)&&(z3 o&&mE N X e o)
 |X,.idx a b,x=>xK x fun v s _=>zpJ s&&(mE N X a v&&mE N X b s)
 |X,.slc a b d,x=>xK x fun v s _=>yfH s fun l u t _=>onN t&&(mE N X a v&&(optE l b (mE N X b)&&optE u d (mE N X d)))
 |X,.neg a,x=>zhI x fun o e _=>decide (o= .USub)&&mE N X a e
 |X,.not a,x=>zhI x fun o e _=>decide (o= .Not)&&mE N X a e
 |X,.bin op a b,x=>ygA x fun l o r _=>decide (o=opOf op)&&(mE N X a l&&mE N X b r)
 |X,.cmp op a b,x=>zdC x fun l o r _=>decide (o=[yA op])&&on1 r fun r=> !(behindInMarks (yA op) r)&&(mE N X a l&&mE N X b r)
 |X,.chain o1 o2 a b c,x=>zdC x fun l o r _=>decide (o=[yA o1,yA o2])&&on2 r fun r t=> !(lastMarks [yA o1,yA o2] [r,t])&&(mE N X a l&&(mE N X b r&&mE N X c t))
 |X,.and es,x=>zoJ x fun o vs _=>decide (o= .And)&&(!vs.isEmpty&&mEs N X es vs)
 |X,.or es,x=>zoJ x fun o vs _=>decide (o= .Or)&&(!vs.isEmpty&&mEs N X es vs)
 |X,.ife t a b,x=>yfI x fun c l r _=>mE N X t c&&(mE N X a l&&mE N X b r)
 |X,.tup es,x=>zzA x fun vs _ _=>vs.all zG&&mEs N X es vs
 |X,.lst es,x=>xList x fun vs _=>vs.all zG&&mEs N X es vs
 |X,.isin a b,x=>calB2 X "isinstance" x fun e e2=>mE N X a e&&mE N X b e2
 |X,.callC f es,x=>calG X x fun y args=>(N.fn.lookup y==some f)&&mEs N X es args
 |X,.callO f es,x=>calG X x fun y args=>(N.fn.lookup y==some f)&&mEs N X es args
 |X,.new C es,x=>calG X x fun y args=>(N.cls.lookup y==some C)&&mEs N X es args
 |X,.methC k a es,x=>meth (metN k) x fun o args=>decide (args.length<30)&&(args.all zG&&(mE N X a o&&mEs N X es args))
 |X,.methO k a es,x=>meth (metN k) x fun o args=>decide (args.length<30)&&(args.all zG&&(mE N X a o&&mEs N X es args))
 |X,.bi b a,x=>decide (b<6)&&yfC X (biN b) x (mE N X a)
 |X,.dic _ a,x=>yfC X "dict" x (mE N X a)
 |X,.min2 a b,x=>calB2 X "min" x fun e e2=>mE N X a e&&mE N X b e2
 |X,.rng1 a,x=>yfC X "range" x (mE N X a)
 |X,.rng3 a b c,x=>calB X "range" x fun l=>onC l fun e r=>on2 r fun e2 e3=>zG e&&(zG e2&&(zG e3&&(mE N X a e&&(mE N X b e2&&mE N X c e3))))
 |X,.append a b,x=>zxI "append" x fun o e=>mE N X a o&&mE N X b e
 |X,.extend a b,x=>zxI "extend" x fun o e=>mE N X a o&&mE N X b e
 |X,.pop a,x=>meth "pop" x fun o l=>on0 l&&mE N X a o
 |X,.dget a b,x=>zxI "get" x fun o e=>mE N X a o&&mE N X b e
 |X,.dget2 a b c,x=>meth "get" x fun o l=>on2 l fun e e2=>zG e&&(zG e2&&(mE N X a o&&(mE N X b e&&mE N X c e2)))
 |X,.dpop a b,x=>zxI "pop" x fun o e=>mE N X a o&&mE N X b e
 |X,.join a b,x=>zxI "join" x fun o e=>mE N X a o&&mE N X b e
 |X,.enc a b,x=>zxI "encode" x fun o e=>mE N X a o&&mE N X b e
 |X,.lcomp i it isIf cond elt,x=>ziJ x fun el gs scope _=>on1 gs fun g=>zhF g.target fun y _=>decide (g.is_async=0)&&(!X.comp&&((X.xs[i]? ==some y)&&(yR X.sc X.xs scope y&&(ybF g.iter&&(mE N X it g.iter&&(mE N ⟨X.xs,xA scope X.sc,true,false⟩ elt el &&
    if isIf then on1 g.ifs (mE N ⟨X.xs,xA scope X.sc,true,false⟩ cond) else on0 g.ifs))))))
 |X,.dcomp i it cond key val,x=>zjA x fun kx vx gs scope _=>on1 gs fun g=>zhF g.target fun y _=>decide (g.is_async=0)&&(!X.comp&&((X.xs[i]? ==some y)&&(yR X.sc X.xs scope y&&(ybF g.iter&&(mE N X it g.iter&&(on1 g.ifs (mE N ⟨X.xs,xA scope X.sc,true,false⟩ cond) &&
    (mE N ⟨X.xs,xA scope X.sc,true,false⟩ key kx&&mE N ⟨X.xs,xA scope X.sc,true,false⟩ val vx)))))))
 |X,.reprEq a b,x=>zdC x fun l o r _=>decide (o=[.Eq])&&on1 r fun r=> !(behindInMarks .Eq r)&&(yfC X "repr" l (mE N X a)&&yfC X "repr" r (mE N X b))
 |X,.dct _ es,x=>xDict x fun keys values _=>decide (keys.length≤15)&&(decide (keys.length=values.length)&&(keys.all (·.isSome)&&mEs N X es (inter keys values)))
 |X,.tried a,x=>X.tr&&(!X.comp&&calB X "_law_tried" x fun l=>on1 l fun e=>zwG e fun ps body scope _=>ymH X.sc X.xs scope&&(ybG ps&&mE N ⟨X.xs,scope,false,false⟩ a body))
 |X,.frz e,x=>mE N X e x
noncomputable def mEs (N:NT):MX→Es→List Expr→Bool
 |X,.nil,xs=>on0 xs
 |X,.cons e es,xs=>onC xs fun x r=>mE N X e x&&mEs N X es r
end
noncomputable def zfG (e:Expr):Bool:= !(Nat.ble 8 e.ctorIdx&&Nat.ble e.ctorIdx 10)
noncomputable def zbD (X:MX) (y:Str):Bool:=X.sc.names.lookup y==some .local||X.sc.names.lookup y==some .cell
noncomputable def yiF (t:Expr):Option (Str×Pos):=if h:t.ctorIdx=23 then Expr.Name.elim (motive_1:=fun _=>Option (Str×Pos)) t h fun y p=>some (y,p) else none
noncomputable def zqC:List Expr→Option (List (Str×Pos))
 |[]=>some []
 |t::r=>(yiF t).bind fun q=>(zqC r).map (q:: ·)
noncomputable def zzF (X:MX):List Nat→List (Str×Pos)→Bool
 |[],ps=>on0 ps
 |i::is,ps=>onC ps fun p ps=>(X.xs[i]? ==some p.1)&&(zbD X p.1&&zzF X is ps)
noncomputable def swC (b1 b2 b3 b4 b5:Bool) (n:List Str):Option (Option (List Str)):=if b1 then some none else if b2 then some none else if b3 then some none else if b4 then some none else if b5 then none else some (some n)
noncomputable def yeG (X:MX) (ts:List Expr) (v:Expr):Option (Option (List Str)):=if h:v.ctorIdx=25 then Expr.Tuple.elim (motive_1:=fun _=>Option (Option (List Str))) v h fun vs _ _ =>
 let line:=(ts.head?.map (·.pos.line)).getD 0
 let names:=ts.filterMap fun
  | .Name id pos=>if X.sc.names.lookup id==some .local&&pos.line==line then some id else none
  |_=>none
 swC (!(ts.length==2||ts.length==3)||vs.length != ts.length) (vs.any fun | .Starred .. =>true|_=>false) (names.length != ts.length||names.eraseDups.length != names.length) (vs.all (foldedForSure 8)) (vs.all (constantsAlone 8)) names
 else some none
noncomputable def ons (X:MX) (i:Nat) (y:Str):Bool:=(X.xs[i]? ==some y)&&zbD X y
mutual
noncomputable def mS (N:NT):MX→S→Stmt→Bool
 |X,.asg i e,st=>zfC st fun l v _=>on1 l fun t=>zhF t fun y _=>ons X i y&&(zfG v&&mE N X e v)
 |X,.asgA a k e,st=>zfC st fun l v _=>on1 l fun t=>xL t fun o m _=>(m==nm k)&&(zfG v&&(mE N X e v&&mE N X a o))
 |X,.asgI a b e,st=>zfC st fun l v _=>on1 l fun t=>xK t fun o s _=>zfG v&&(mE N X e v&&(mE N X a o&&mE N X b s))
 |X,.expr e,st=>tExpr st fun v _=>zfG v&&mE N X e v
 |X,.ret e,st=>zpC st fun v _=>onS v (mE N X e)
 |X,.retN,st=>zpC st fun v _=>onN v
 |X,.cont,st=>zjF st fun _=>true
 |X,.if_ c a b,st=>tIf st fun t l r _=>mE N X c t&&(mSs N X a l&&mSs N X b r)
 |X,.while_ c a,st=>ygG st fun t l r _=>on0 r&&(mE N X c t&&mSs N X a l)
 |X,.for_ i e a,st=>tFor st fun t it l r _=>on0 r&&zhF t fun y _=>ons X i y&&(ybF it&&(mE N X e it&&mSs N X a l))
 |X,.raise C es,st=>ygH st fun e z _=>onN z&&onS e fun e=>calG X e fun y args=>(N.cls.lookup y==some C)&&((decide (C=1)||decide (C=2))&&((decide (args.length=1)||decide (args.length=2))&&mEs N X es args))
 |X,.asgT is e,st=>zfC st fun l v _=>on1 l fun t=>zzA t fun elts _ _=>zfG v&&(mE N X e v&&onS (zqC elts) fun ps=>zzF X is ps&&(yeG X elts v==some none||(decide is.Nodup&&yeG X elts v==some (some (ps.map (·.1))))))
 |X,.frz _,_=>false
 |X,.bad,_=>true
noncomputable def mSs (N:NT):MX→Ss→List Stmt→Bool
 |X,.nil,l=>on0 l
 |X,.cons s ss,l=>match s with
  | .frz i=>onS X.xs[i]? (zbD X)&&mSs N X ss l
  |s=>onC l fun st r=>mS N X s st&&mSs N X ss r
end
structure z7 (G:Gl) (T:Tab) (N:NT) (c:Call) (kc:Nat) (fT:Addr):Prop where
 O:GOk G
 KO:KOk G T
 IO:IOk G
 NO:NOk G
 FK:ynC G
 SC:zbF G c kc
 TO:ynA G fT
 fnN:∀ y f,N.fn.lookup y=some f→nsIn G.K mainGlobals y=some (some (.ref (G.fa f)))
 clsN:∀ y C,N.cls.lookup y=some C→nsIn G.K mainGlobals y=some (some (.ref (G.ca C)))∧keepIn G.K (.ref (G.ca C))=true
 gloN:∀ y g v,N.glo.lookup y=some g→T.glo g=some v→∃ x,nsIn G.K mainGlobals y=some (some x)∧∀ fz μ,VR G fz μ v x
structure Fit (G:Gl) (X:MX) (φ:Fx) (kc:Nat):Prop where
 xs:φ.xs=X.xs
 sc:φ.env.scope=X.sc
 comp:X.comp=false→φ.comp=none
 D:Good G φ (kc+1)
 D3:X.tr=true→Good G φ (kc+3)
 code:X.tr=true→∃ c P,φ.env.code= .ref c∧(c,P,φ.env.qual++ "<lambda>")∈G.tabs
section
variable {G:Gl} {T:Tab} {N:NT} {c:Call} {kc:Nat} {fT:Addr} {X:MX} {φ:Fx}
theorem Fit.at (F:Fit G X φ kc) {i:Nat} {y:Str} (h:(X.xs[i]? ==some y)=true):φ.xs[i]? =some y:=F.xs▸eq_of_beq h
theorem Fit.look (F:Fit G X φ kc) (h:X.sc.names.lookup y=k):φ.env.kindOf y=k:=by
 cases X; cases F.sc; exact h
theorem cst_ok (h:cstB v cc=true):EJ G φ (evE T c (.cst v)) (eval (.Constant cc k p) φ.env):=by
 cases v with
 |none=>refine cnone_el (P:=fun cc=>EJ G φ (evE T c _) (eval (.Constant cc k p) φ.env)) h ?_; exact ej_none
 |bool _=>refine cbool_el (P:=fun cc=>EJ G φ (evE T c _) (eval (.Constant cc k p) φ.env)) h fun _ h=> ?_; cases eq_of_beq h; exact ej_bool
 |int _=>refine cint_el (P:=fun cc=>EJ G φ (evE T c _) (eval (.Constant cc k p) φ.env)) h fun _ h=> ?_; cases eq_of_beq h; exact ej_int
 |str _=>refine cstr_el (P:=fun cc=>EJ G φ (evE T c _) (eval (.Constant cc k p) φ.env)) h fun _ h=> ?_; exact ej_str (eq_of_beq (a1 h)) (of_decide_eq_true (a2 h))
 |bytes _=>refine cbytes_el (P:=fun cc=>EJ G φ (evE T c _) (eval (.Constant cc k p) φ.env)) h fun _ h=> ?_; exact ej_bytes (eq_of_beq (a1 h)) (of_decide_eq_true (a2 h))
 |_=>cases h
theorem zW (F:Fit G X φ kc) (h:zmC X y=true):φ.env.kindOf y=some .globalImplicit∧(y==("__debug__" : Str))=false:=⟨F.look (eq_of_beq (a1 h)),nt (a2 h)⟩
theorem isLoc_of (F:Fit G X φ kc) (h:isLoc X y=true):φ.env.kindOf y=some .local∨φ.env.kindOf y=some .cell∨φ.env.kindOf y=some .free :=
 match Bool.or_eq_true_iff.mp h with
 | .inr h=>.inr (.inr (F.look (eq_of_beq h)))
 | .inl h=>match Bool.or_eq_true_iff.mp h with
  | .inl h=>.inl (F.look (eq_of_beq h))
  | .inr h=>.inr (.inl (F.look (eq_of_beq h)))
theorem boot_ty:∀ t,t<4→bootBuiltins (tyS t)=some (.type (tyN t)):=by decide +kernel
theorem zzE:∀ t,t<4→tyS t∈yeC∧tyS t≠ "__name__" :=by decide
end
section
variable {G:Gl} {T:Tab} {N:NT} {c:Call} {kc:Nat} {fT:Addr}
noncomputable def BJ (G:Gl) (φ:Fx) (f:Loc→Hp→Rs PV) (x:Expr):Prop:=EJ G φ f (eval x φ.env)∧TJ G φ f (isTrue x φ.env (eval x φ.env))
theorem BJ.of (he:∀ w,isTrue x φ.env w=(do let v ← w; standAt x.pos; holding [v] (truthy v))) (h:EJ G φ f (eval x φ.env)):BJ G φ f x:=⟨h,tj_of he h⟩
theorem BJ.o (he:∀ w,isTrue x φ.env w=(do let v ← w; standAt x.pos; holding [v] (truthy v))) (h:EJ G φ f (eval x φ.env)) (e:g=f):BJ G φ g x:=e▸BJ.of he h
theorem BJ.congr (h:BJ G φ f x) (e:∀ loc H,g loc H=f loc H):BJ G φ g x :=
 ⟨h.1.congr e,h.2.congr fun loc H=>by unfold tst; rw [e]⟩
theorem frO_nb:On (frO i H o) fun p=>zM p.1=none:=yqC (i:=i) (H:=H) (M:=fun _ r=>On r fun p=>zM p.1=none) (fun _=>trivial) (fun _=>rfl) (fun _ _=>rfl) (fun _ _=>rfl) o
theorem frz_bool (v:PV):On (frzV v H) fun p=>zM p.1=none∨p=(v,H) :=
 ykB (H:=H) (M:=fun v o=>On o fun p=>zM p.1=none∨p=(v,H)) (fun _=>.inr rfl)
  (fun i=>yqA (i:=i) (H:=H) (M:=fun _ r=>On r fun p=>zM p.1=none∨p=(.ref i,H)) (fun _=>On.of fun p hp=>.inl (frO_nb.get hp)) (fun _ _ _=>On.map (On.of fun _ _=>.inl rfl)) _) v
theorem BJ.frz (h:BJ G φ f x):BJ G φ (fun loc H=>(f loc H).bind fun v H=>fzZ (frzV v H)) x:=by
 refine ⟨ej_frz h.1,SJ.fine h.2 fun loc H hb=> ?_⟩
 replace hb:((f loc H).bind fun v H=>fzZ (frzV v H)).bind (fun v H=>zC (zM v) H)≠ .bad:=hb
 show ((f loc H).bind fun v H=>fzZ (frzV v H)).bind (fun v H=>zC (zM v) H)=(f loc H).bind fun v H=>zC (zM v) H;cases e:f loc H with
 |ok v H1 =>
  rw [e] at hb
  replace hb:(fzZ (frzV v H1)).bind (fun v H=>zC (zM v) H)≠ .bad:=hb
  show (fzZ (frzV v H1)).bind (fun v H=>zC (zM v) H)=zC (zM v) H1;cases q:frzV v H1 with
  |none=>rw [q] at hb; exact absurd rfl hb
  |some p =>
   rw [q] at hb
   rcases (frz_bool v).get q with h1|h1
   ·refine absurd ?_ hb
    show zC (zM p.1) p.2= .bad;rw [h1]; rfl
   ·rw [h1]; rfl
 |exc C H1=>rfl
 |bad=>rfl
end
section
variable {G:Gl} {T:Tab} {N:NT} {c:Call} {kc:Nat} {fT:Addr}
noncomputable def MI (G:Gl) (T:Tab) (N:NT) (c:Call) (kc:Nat) (e:E):Prop:=∀ X φ x,Fit G X φ kc→mE N X e x=true→BJ G φ (evE T c e) x
noncomputable def BJs (G:Gl) (φ:Fx) (T:Tab) (c:Call):Es→List Expr→Prop
 | .nil,[]=>True
 | .cons e es,x::xs=>BJ G φ (evE T c e) x∧BJs G φ T c es xs
 |_,_=>False
noncomputable def MIs (G:Gl) (T:Tab) (N:NT) (c:Call) (kc:Nat) (es:Es):Prop:=∀ X φ xs,Fit G X φ kc→mEs N X es xs=true→BJs G φ T c es xs
theorem BJs.aj:∀ {es:Es} {xs:List Expr},BJs G φ T c es xs→xs.all zG=true→AJ G φ (evEs T c es) (backTo pos (starEach xs φ.env)):=by
 intro es
 induction es using Es.rec (motive_1:=fun _=>True) with
 |nil =>
  intro xs h hs;cases xs with
  |nil =>
   have e:evEs T c .nil=fun _ H=>.ok [] H:=rfl;rw [e]; exact zwC
  |cons x r=>exact h.elim
 |cons e es _ ih =>
  intro xs h hs;cases xs with
  |nil=>exact h.elim
  |cons x r =>
   simp only [List.all_cons,Bool.and_eq_true] at hs;rw [yI hs.1];have e:evEs T c (.cons e es)=fun loc H=>(evE T c e loc H).bind fun v H=>(evEs T c es loc H).bind fun vs H=>.ok (v::vs) H:=rfl;rw [e];exact zdB h.1.1 (ih h.2 hs.2)
 |_=>trivial
noncomputable def nilE (es:Es):Bool:=match es with
 | .nil=>true
 | .cons _ _=>false
theorem BJs.len:∀ {es:Es} {xs:List Expr},BJs G φ T c es xs→(es= .nil↔xs=[]):=by
 intro es xs h;cases es with
 |nil=>cases xs with
  |nil=>exact ⟨fun _=>rfl,fun _=>rfl⟩
  |cons=>exact h.elim
 |cons=>cases xs with
  |nil=>exact h.elim
  |cons=>exact ⟨fun e=>Bool.noConfusion (congrArg nilE e:false=true),fun e=>nomatch e⟩
theorem BJs.and:∀ {es:Es} {xs:List Expr},BJs G φ T c es xs→xs≠[]→EJ G φ (zlE T c es) (boolOp pos .And (evalEach xs φ.env))∧TJ G φ (zlE T c es) (allTrue .And xs φ.env):=by
 intro es
 induction es using Es.rec (motive_1:=fun _=>True) with
 |nil =>
  intro xs h hs;cases xs with
  |nil=>exact absurd rfl hs
  |cons x r=>exact h.elim
 |cons e es _ ih =>
  intro xs h hs;cases xs with
  |nil=>exact h.elim
  |cons x r =>
   cases es with
   |nil =>
    have hr:r=[]:=(BJs.len h.2).mp rfl;subst hr;have e:zlE T c (.cons e .nil)=evE T c e:=rfl;rw [e];exact ⟨yrF h.1.1,ynH h.1.2⟩
   |cons e2 es =>
    cases r with
    |nil=>exact h.2.elim
    |cons y r =>
     have e:zlE T c (.cons e (.cons e2 es))=fun loc H=>(evE T c e loc H).bind fun v H=>(zC (zM v) H).bind fun b H=>if b then zlE T c (.cons e2 es) loc H else .ok (.bool false) H:=rfl;rw [e];obtain ⟨i1,i2⟩:=ih h.2 (by simp);exact ⟨ba_cons h.1.1 i1,ta_cons h.1.2 i2⟩
 |_=>trivial
theorem BJs.or:∀ {es:Es} {xs:List Expr},BJs G φ T c es xs→xs≠[]→EJ G φ (evOr T c es) (boolOp pos .Or (evalEach xs φ.env))∧TJ G φ (evOr T c es) (allTrue .Or xs φ.env):=by
 intro es
 induction es using Es.rec (motive_1:=fun _=>True) with
 |nil =>
  intro xs h hs;cases xs with
  |nil=>exact absurd rfl hs
  |cons x r=>exact h.elim
 |cons e es _ ih =>
  intro xs h hs;cases xs with
  |nil=>exact h.elim
  |cons x r =>
   cases es with
   |nil =>
    have hr:r=[]:=(BJs.len h.2).mp rfl;subst hr;have e:evOr T c (.cons e .nil)=evE T c e:=rfl;rw [e];exact ⟨yrF h.1.1,ynH h.1.2⟩
   |cons e2 es =>
    cases r with
    |nil=>exact h.2.elim
    |cons y r =>
     have e:evOr T c (.cons e (.cons e2 es))=fun loc H=>(evE T c e loc H).bind fun v H=>(zC (zM v) H).bind fun b H=>if b then .ok (.bool true) H else evOr T c (.cons e2 es) loc H:=rfl;rw [e];obtain ⟨i1,i2⟩:=ih h.2 (by simp);exact ⟨bo_cons h.1.1 i1,to_cons h.1.2 i2⟩
 |_=>trivial
noncomputable def ztI (env:Env) (pos:Pos):List (Option Expr)→List Expr→List (Sem Value×Sem Value)
 |some k::ks,v::vs=>(eval k env,do let x ← eval v env; standAt pos; pure x)::ztI env pos ks vs
 |_,_=>[]
theorem pairsE_eq:∀ {ks:List (Option Expr)} {vs:List Expr},ks.length=vs.length→ks.all (·.isSome)=true →
  (evalEachOpt ks env).zip ((evalEach vs env).map fun v=>do let x ← v; standAt pos; pure x)=(ztI env pos ks vs).map fun p=>(some p.1,p.2):=by
 intro ks
 induction ks with
 |nil=>intro vs _ _; cases vs <;> rfl
 |cons k ks ih =>
  intro vs hl hs;cases vs with
  |nil=>simp at hl
  |cons v vs =>
   simp only [List.all_cons,Bool.and_eq_true] at hs;cases k with
   |none=>simp at hs
   |some k =>
    have:=ih (vs:=vs) (by simpa using hl) hs.2;show (some (eval k env),_)::(evalEachOpt ks env).zip ((evalEach vs env).map fun v=>do let x ← v; standAt pos; pure x)=(some _,_)::_;rw [this]
theorem znF:∀ {ks:List (Option Expr)} {vs:List Expr},(ztI env pos ks vs).length≤ks.length
 |[],_=>Nat.le_refl 0
 |none::_,_=>Nat.zero_le _
 |some _::_,[]=>Nat.zero_le _
 |some _::_,_::_=>Nat.succ_le_succ znF
theorem stand_ej (h:EJ G φ f t):EJ G φ f (do let x ← t; standAt pos; pure x):=by
 refine SJ.congr (SJ.bind h fun v x=>SJ.standAt (SJ.lf (op:=fun _=>some v) fun R fz μ loc H s q S g e=>by cases e; exact wpAny_pure (LQ.here S g.2))) fun loc H=> ?_;cases f loc H <;> rfl
theorem BJs.pairs:∀ {ks:List (Option Expr)} {vs:List Expr} {es:Es},ks.length=vs.length→ks.all (·.isSome)=true→BJs G φ T c es (inter ks vs)→SJ G φ MP.top (wPs G) (evEs T c es) (evalPairs (ztI φ.env pos ks vs)):=by
 intro ks
 induction ks with
 |nil =>
  intro vs es hl hs h;have e0:es= .nil:=(BJs.len h).mpr (by cases vs <;> rfl)
  subst e0;have e:evEs T c .nil=fun _ H=>.ok [] H:=rfl;have e1:ztI φ.env pos [] vs=[]:=by cases vs <;> rfl
  rw [e,e1]; exact pj_nil
 |cons k ks ih =>
  intro vs es hl hs h;simp only [List.all_cons,Bool.and_eq_true] at hs;cases vs with
  |nil=>simp at hl
  |cons v vs =>
   cases k with
   |none=>simp at hs
   |some k =>
    cases es with
    |nil=>exact h.elim
    |cons e1 es =>
     cases es with
     |nil=>exact h.2.elim
     |cons e2 es =>
      have e:evEs T c (.cons e1 (.cons e2 es))=fun loc H=>(evE T c e1 loc H).bind fun v H=>((evE T c e2 loc H).bind fun w H=>(evEs T c es loc H).bind fun vs H=>.ok (w::vs) H).bind fun vs H=>.ok (v::vs) H:=rfl;rw [e];exact pj_cons h.1.1 (stand_ej h.2.1.1) (ih (by simpa using hl) hs.2 h.2.2)
end
section
variable {G:Gl} {T:Tab} {N:NT} {c:Call} {kc:Nat} {fT:Addr} {a b d:E} {es:Es} {k i op:Nat}
theorem zqJ (h:ybF e=true) (env:Env) (x:Value):foldedSetIterable e env x=pure x:=by
 cases e <;> first|rfl|cases h
theorem m_attr (K:z7 G T N c kc fT) (iha:MI G T N c kc a):MI G T N c kc (.attr a k):=fun X φ x F h=>by
 refine wA h fun o m p h=> ?_;cases eq_of_beq (a1 h);exact BJ.o (fun _=>rfl) (ej_attr K.KO F.D K.O (a1 (a2 h)) (iha X φ _ F (a2 (a2 h))).1) rfl
theorem m_idx (K:z7 G T N c kc fT) (iha:MI G T N c kc a) (ihb:MI G T N c kc b):MI G T N c kc (.idx a b):=fun X φ x F h=>by
 refine xZ h fun o s p h=> ?_;exact BJ.o (fun _=>rfl) (ej_idx F.D (a1 h) (iha X φ _ F (a1 (a2 h))).1 (ihb X φ _ F (a2 (a2 h))).1) rfl
theorem m_neg (iha:MI G T N c kc a):MI G T N c kc (.neg a):=fun X φ x F h=>by
 refine ziI h fun o e p h=> ?_;cases of_decide_eq_true (a1 h);exact BJ.o (fun _=>rfl) (ej_neg (iha X φ _ F (a2 h)).1) rfl
theorem m_bin (K:z7 G T N c kc fT) (iha:MI G T N c kc a) (ihb:MI G T N c kc b):MI G T N c kc (.bin op a b):=fun X φ x F h=>by
 refine xBinOp_el h fun l o r p h=> ?_;cases of_decide_eq_true (a1 h);exact BJ.o (fun _=>rfl) (ej_bin F.D K.O (iha X φ _ F (a1 (a2 h))).1 (ihb X φ _ F (a2 (a2 h))).1) rfl
theorem m_bi (K:z7 G T N c kc fT) (iha:MI G T N c kc a):MI G T N c kc (.bi i a):=fun X φ x F h=>by
 refine zeJ (a2 h) fun q e p g h4 h5=> ?_;exact BJ.o (fun _=>rfl) (ej_bi F.D K.O K.NO (of_decide_eq_true (a1 h)) (zW F g).1 h4 (iha X φ _ F h5).1) rfl
theorem m_dic (K:z7 G T N c kc fT) {i:Bool} (iha:MI G T N c kc a):MI G T N c kc (.dic i a):=fun X φ x F h=>by
 refine zeJ h fun q e p g h4 h5=> ?_;exact BJ.o (fun _=>rfl) (ej_dic F.D K.O K.NO (zW F g).1 h4 (iha X φ _ F h5).1) rfl
theorem m_rng1 (K:z7 G T N c kc fT) (iha:MI G T N c kc a):MI G T N c kc (.rng1 a):=fun X φ x F h=>by
 refine zeJ h fun q e p g h4 h5=> ?_;exact BJ.o (fun _=>rfl) (ej_rng1 F.D K.O K.NO (zW F g).1 h4 (iha X φ _ F h5).1) rfl
theorem m_min2 (K:z7 G T N c kc fT) (iha:MI G T N c kc a) (ihb:MI G T N c kc b):MI G T N c kc (.min2 a b):=fun X φ x F h=>by
 refine yeB h fun q e e' p g h4 h5 h=> ?_;exact BJ.o (fun _=>rfl) (ej_min2 F.D K.O K.NO (zW F g).1 h4 h5 (iha X φ _ F (a1 h)).1 (ihb X φ _ F (a2 h)).1) rfl
theorem m_isin (K:z7 G T N c kc fT) (iha:MI G T N c kc a) (ihb:MI G T N c kc b):MI G T N c kc (.isin a b):=fun X φ x F h=>by
 refine yeB h fun q e e' p g h4 h5 h=> ?_;exact BJ.o (fun _=>rfl) (ej_isin K.IO F.D K.O K.NO (zW F g).1 h4 h5 (iha X φ _ F (a1 h)).1 (ihb X φ _ F (a2 h)).1) rfl
theorem m_rng3 (K:z7 G T N c kc fT) (iha:MI G T N c kc a) (ihb:MI G T N c kc b) (ihd:MI G T N c kc d):MI G T N c kc (.rng3 a b d):=fun X φ x F h=>by
 refine zrD h fun q l p g h=> ?_;refine znH (P:=fun l=>BJ G φ _ (.Call _ l _ _)) h fun e r h=> ?_;refine ybD (P:=fun l=>BJ G φ _ (.Call _ (_::l) _ _)) h fun e2 e3 h=> ?_;have h':=a2 (a2 (a2 h));exact BJ.o (fun _=>rfl) (ej_rng3 F.D K.O K.NO (zW F g).1 (a1 h) (a1 (a2 h)) (a1 (a2 (a2 h))) (iha X φ _ F (a1 h')).1 (ihb X φ _ F (a1 (a2 h'))).1 (ihd X φ _ F (a2 (a2 h'))).1) rfl
theorem m_append (iha:MI G T N c kc a) (ihb:MI G T N c kc b):MI G T N c kc (.append a b):=fun X φ x F h=>by
 refine zaJ h fun o ap e p h2 h3 h4 h=> ?_;exact BJ.o (fun _=>rfl) (ej_append F.D h2 h3 h4 (iha X φ _ F (a1 h)).1 (ihb X φ _ F (a2 h)).1) rfl
theorem m_extend (iha:MI G T N c kc a) (ihb:MI G T N c kc b):MI G T N c kc (.extend a b):=fun X φ x F h=>by
 refine zaJ h fun o ap e p h2 h3 h4 h=> ?_;exact BJ.o (fun _=>rfl) (ej_extend F.D h2 h3 h4 (iha X φ _ F (a1 h)).1 (ihb X φ _ F (a2 h)).1) rfl
theorem m_dget (iha:MI G T N c kc a) (ihb:MI G T N c kc b):MI G T N c kc (.dget a b):=fun X φ x F h=>by
 refine zaJ h fun o ap e p h2 h3 h4 h=> ?_;exact BJ.o (fun _=>rfl) (ej_dget F.D h2 h3 h4 (iha X φ _ F (a1 h)).1 (ihb X φ _ F (a2 h)).1) rfl
theorem m_dpop (K:z7 G T N c kc fT) (iha:MI G T N c kc a) (ihb:MI G T N c kc b):MI G T N c kc (.dpop a b):=fun X φ x F h=>by
 refine zaJ h fun o ap e p h2 h3 h4 h=> ?_;exact BJ.o (fun _=>rfl) (ej_dpop F.D K.O h2 h3 h4 (iha X φ _ F (a1 h)).1 (ihb X φ _ F (a2 h)).1) rfl
theorem m_join (iha:MI G T N c kc a) (ihb:MI G T N c kc b):MI G T N c kc (.join a b):=fun X φ x F h=>by
 refine zaJ h fun o ap e p h2 h3 h4 h=> ?_;exact BJ.o (fun _=>rfl) (ej_join F.D h2 h3 h4 (iha X φ _ F (a1 h)).1 (ihb X φ _ F (a2 h)).1) rfl
theorem m_enc (iha:MI G T N c kc a) (ihb:MI G T N c kc b):MI G T N c kc (.enc a b):=fun X φ x F h=>by
 refine zaJ h fun o ap e p h2 h3 h4 h=> ?_;exact BJ.o (fun _=>rfl) (ej_enc h2 h3 h4 (iha X φ _ F (a1 h)).1 (ihb X φ _ F (a2 h)).1) rfl
theorem m_pop (K:z7 G T N c kc fT) (iha:MI G T N c kc a):MI G T N c kc (.pop a):=fun X φ x F h=>by
 refine zkE h fun o ap l p h2 h3 h=> ?_;refine w7 (P:=fun l=>BJ G φ _ (.Call _ l _ _)) (a1 h) ?_;exact BJ.o (fun _=>rfl) (ej_pop F.D K.O h2 h3 (iha X φ _ F (a2 h)).1) rfl
theorem m_dget2 (iha:MI G T N c kc a) (ihb:MI G T N c kc b) (ihd:MI G T N c kc d):MI G T N c kc (.dget2 a b d):=fun X φ x F h=>by
 refine zkE h fun o ap l p h2 h3 h=> ?_;refine ybD (P:=fun l=>BJ G φ _ (.Call _ l _ _)) h fun e e2 h=> ?_;have h':=a2 (a2 h);exact BJ.o (fun _=>rfl) (ej_dget2 F.D h2 h3 (a1 h) (a1 (a2 h)) (iha X φ _ F (a1 h')).1 (ihb X φ _ F (a1 (a2 h'))).1 (ihd X φ _ F (a2 (a2 h'))).1) rfl
theorem m_tup (ihs:MIs G T N c kc es):MI G T N c kc (.tup es):=fun X φ x F h=>by
 refine zrH h fun vs k p h=> ?_;exact BJ.o (fun _=>rfl) (ej_tup ((ihs X φ _ F (a2 h)).aj (a1 h))) rfl
theorem m_lst (ihs:MIs G T N c kc es):MI G T N c kc (.lst es):=fun X φ x F h=>by
 refine xList_el h fun vs p h=> ?_;exact BJ.o (fun _=>rfl) (ej_lst ((ihs X φ _ F (a2 h)).aj (a1 h))) rfl
theorem m_callC (K:z7 G T N c kc fT) (ihs:MIs G T N c kc es):MI G T N c kc (.callC k es):=fun X φ x F h=>by
 refine zrC h fun y q l p g h3 h=> ?_;exact BJ.o (fun _=>rfl) (ej_callC K.SC F.D K.O (zW F g).1 (K.fnN _ _ (eq_of_beq (a1 h))) (zW F g).2 (K.FK k) ((ihs X φ _ F (a2 h)).aj h3)) rfl
theorem m_callO (K:z7 G T N c kc fT) (ihs:MIs G T N c kc es):MI G T N c kc (.callO k es):=fun X φ x F h=>by
 refine zrC h fun y q l p g h3 h=> ?_;exact BJ.o (fun _=>rfl) (ej_callO K.SC F.D K.O (zW F g).1 (K.fnN _ _ (eq_of_beq (a1 h))) (zW F g).2 (K.FK k) ((ihs X φ _ F (a2 h)).aj h3)) rfl
theorem m_new (K:z7 G T N c kc fT) (ihs:MIs G T N c kc es):MI G T N c kc (.new k es):=fun X φ x F h=>by
 refine zrC h fun y q l p g h3 h=> ?_;have C:=K.clsN _ _ (eq_of_beq (a1 h));exact BJ.o (fun _=>rfl) (ej_new K.KO K.SC F.D K.O (zW F g).1 C.1 (zW F g).2 C.2 ((ihs X φ _ F (a2 h)).aj h3)) rfl
theorem m_methC (K:z7 G T N c kc fT) (iha:MI G T N c kc a) (ihs:MIs G T N c kc es):MI G T N c kc (.methC k a es):=fun X φ x F h=>by
 refine zkE h fun o ap l p h2 h3 h=> ?_;have h':=a2 (a2 h);exact BJ.o (fun _=>rfl) (ej_methC K.KO K.FK K.SC F.D K.O h2 h3 (of_decide_eq_true (a1 h)) (iha X φ _ F (a1 h')).1 ((ihs X φ _ F (a2 h')).aj (a1 (a2 h)))) rfl
theorem m_methO (K:z7 G T N c kc fT) (iha:MI G T N c kc a) (ihs:MIs G T N c kc es):MI G T N c kc (.methO k a es):=fun X φ x F h=>by
 refine zkE h fun o ap l p h2 h3 h=> ?_;have h':=a2 (a2 h);exact BJ.o (fun _=>rfl) (ej_methO K.KO K.FK K.SC F.D K.O h2 h3 (of_decide_eq_true (a1 h)) (iha X φ _ F (a1 h')).1 ((ihs X φ _ F (a2 h')).aj (a1 (a2 h)))) rfl
theorem BJ.e (h:EJ G φ f (eval x φ.env)) (t:TJ G φ f (isTrue x φ.env (eval x φ.env))) (e:g=f):BJ G φ g x:=e▸⟨h,t⟩
theorem m_not (iha:MI G T N c kc a):MI G T N c kc (.not a):=fun X φ x F h=>by
 refine ziI h fun o e p h=> ?_;cases of_decide_eq_true (a1 h);have h':=iha X φ _ F (a2 h);exact BJ.e (ej_not h'.1) (tj_not h'.2) rfl
theorem m_ife (iht:MI G T N c kc t) (iha:MI G T N c kc a) (ihb:MI G T N c kc b):MI G T N c kc (.ife t a b):=fun X φ x F h=>by
 refine xIfExp_el h fun u l r p h=> ?_;have h1:=iht X φ _ F (a1 h);have h2:=iha X φ _ F (a1 (a2 h));have h3:=ihb X φ _ F (a2 (a2 h));exact BJ.e (ej_ife h1.2 h2.1 h3.1) (tj_ife h1.2 h2.2 h3.2) rfl
theorem m_cmp (iha:MI G T N c kc a) (ihb:MI G T N c kc b):MI G T N c kc (.cmp op a b):=fun X φ x F h=>by
 refine zcB h fun l o r p h=> ?_;cases of_decide_eq_true (a1 h);refine xF (P:=fun r=>BJ G φ _ (.Compare _ _ r _)) (a2 h) fun r h=> ?_;have h1:=(iha X φ _ F (a1 (a2 h))).1;have h2:=(ihb X φ _ F (a2 (a2 h))).1;exact BJ.e (yqE F.D (nt (a1 h)) h1 h2) (ynG F.D (nt (a1 h)) h1 h2) rfl
theorem m_chain (iha:MI G T N c kc a) (ihb:MI G T N c kc b) (ihd:MI G T N c kc d):MI G T N c kc (.chain o1 o2 a b d):=fun X φ x F h=>by
 refine zcB h fun l o r p h=> ?_;cases of_decide_eq_true (a1 h);refine ybD (P:=fun r=>BJ G φ _ (.Compare _ _ r _)) (a2 h) fun r t h=> ?_;have h1:=(iha X φ _ F (a1 (a2 h))).1;have h2:=(ihb X φ _ F (a1 (a2 (a2 h)))).1;have h3:=(ihd X φ _ F (a2 (a2 (a2 h)))).1;exact BJ.e (ej_chain F.D (nt (a1 h)) h1 h2 h3) (tj_chain F.D (nt (a1 h)) h1 h2 h3) rfl
theorem ypB (h:(!vs.isEmpty)=true):vs≠[]:=fun q=>by subst q; cases h
theorem m_and (ihs:MIs G T N c kc es):MI G T N c kc (.and es):=fun X φ x F h=>by
 refine zmD h fun o vs pos h=> ?_;cases of_decide_eq_true (a1 h);have J:=(ihs X φ _ F (a2 (a2 h))).and (pos:=pos) (ypB (a1 (a2 h)));exact BJ.e ((arm_eval_BoolOp ..)▸J.1) J.2 rfl
theorem m_or (ihs:MIs G T N c kc es):MI G T N c kc (.or es):=fun X φ x F h=>by
 refine zmD h fun o vs pos h=> ?_;cases of_decide_eq_true (a1 h);have J:=(ihs X φ _ F (a2 (a2 h))).or (pos:=pos) (ypB (a1 (a2 h)));exact BJ.e ((arm_eval_BoolOp ..)▸J.1) J.2 rfl
theorem m_frz (iha:MI G T N c kc a):MI G T N c kc (.frz a):=fun X φ x F h=>(BJ.frz (iha X φ x F h)).congr fun _ _=>rfl
theorem m_reprEq (K:z7 G T N c kc fT) (iha:MI G T N c kc a) (ihb:MI G T N c kc b):MI G T N c kc (.reprEq a b):=fun X φ x F h=>by
 refine zcB h fun l o r p h=> ?_;cases of_decide_eq_true (a1 h);refine xF (P:=fun r=>BJ G φ _ (.Compare _ _ r _)) (a2 h) fun r h=> ?_;refine zeJ (P:=fun l=>BJ G φ _ (.Compare l _ _ _)) (a1 (a2 h)) fun q e p g h1 h2=> ?_
 revert h
 refine fun h=>zeJ (P:=fun r=>(!(behindInMarks .Eq r))=true→BJ G φ _ (.Compare _ _ [r] _)) (a2 (a2 h)) (fun q e p g h3 h4 h5=> ?_) (a1 h);have J1:=(iha X φ _ F h2).1;have J2:=(ihb X φ _ F h4).1;have g:=(zW F g).1;have g2:=K.NO.built "repr" (by decide);exact BJ.e (ej_reprEq F.D K.O g g2 h1 h3 (nt h5) J1 J2) (tj_reprEq F.D K.O g g2 h1 h3 (nt h5) J1 J2) rfl
theorem yhJ (ihb:MI G T N c kc b) (F:Fit G X φ kc) (h:optE l b (mE N X b)=true):optJ G φ (evE T c b) l:=match l,h with
 |some l,h=>(ihb X φ _ F h).1
 |none,h=>by cases isCN_el h; exact fun _ _=>rfl
theorem m_slc (K:z7 G T N c kc fT) (iha:MI G T N c kc a) (ihb:MI G T N c kc b) (ihd:MI G T N c kc d):MI G T N c kc (.slc a b d):=fun X φ x F h=>by
 refine xZ h fun o s p h=> ?_;refine xSlice_el (P:=fun s=>BJ G φ _ (.Subscript _ s _)) h fun l u t q h=> ?_;refine yiA (P:=fun t=>BJ G φ _ (.Subscript _ (.Slice _ _ t _) _)) (a1 h) ?_;exact BJ.o (fun _=>rfl) (ej_slc F.D K.O (iha X φ _ F (a1 (a2 h))).1 (yhJ ihb F (a1 (a2 (a2 h)))) (yhJ ihd F (a2 (a2 (a2 h))))) rfl
theorem m_dct (K:z7 G T N c kc fT) {i:Bool} (ihs:MIs G T N c kc es):MI G T N c kc (.dct i es):=fun X φ x F h=>by
 refine xDict_el h fun keys values pos h=> ?_;have h1:=of_decide_eq_true (a1 h);have h2:=of_decide_eq_true (a1 (a2 h));have h3:=a1 (a2 (a2 h));have J:=ihs X φ _ F (a2 (a2 (a2 h)));cases keys with
 |nil =>
  cases values with
  |nil =>
   cases (BJs.len J).mpr rfl;exact BJ.o (fun _=>rfl) (ej_dct0 F.D K.O) rfl
  |cons v vs=>cases h2
 |cons k ks =>
  cases values with
  |nil=>cases h2
  |cons v vs =>
   cases k with
   |none=>cases h3
   |some k=>exact BJ.o (fun _=>rfl) (ej_dct F.D K.O (pairsE_eq h2 h3) (fun e=>nomatch e) (Nat.le_trans znF h1) (J.pairs h2 h3)) rfl
theorem yP.fit (F:Fit G X φ kc) (I:yP G φ φ' (kc+1) scope):Fit G ⟨X.xs,xA scope X.sc,true,false⟩ φ' kc :=
 ⟨I.xs.trans F.xs,by rw [I.sc,F.sc],fun h=>(by cases h),I.D,fun h=>(by cases h),fun h=>(by cases h)⟩
theorem Fit.cok (F:Fit G X φ kc) (h:yR X.sc X.xs scope y=true):yR φ.env.scope φ.xs scope y=true:=by rw [F.sc,F.xs]; exact h
theorem m_lcomp (K:z7 G T N c kc fT) {it:E} {isIf:Bool} {cond elt:E} (ihi:MI G T N c kc it) (ihc:MI G T N c kc cond) (ihe:MI G T N c kc elt):MI G T N c kc (.lcomp i it isIf cond elt):=fun X φ x F h=>by
 refine xListComp_el h fun el gs scope pos h=> ?_;refine xF (P:=fun l=>BJ G φ _ (.ListComp _ l _ _)) h fun ⟨t,iter,ifs,asy⟩ h=> ?_;refine yX (P:=fun t=>BJ G φ _ (.ListComp _ [⟨t,_,_,_⟩] _ _)) h fun y q h=> ?_;cases of_decide_eq_true (a1 h);have h3:=a2 (a2 h);have h5:=a2 (a2 h3);have h7:=a2 (a2 h5);refine (BJ.of (fun _=>rfl) (ej_lcomp F.D (F.comp (nt (a1 (a2 h)))) (F.at (a1 h3)) (F.cok (a1 (a2 h3))) (fcond:=evE T c cond) (felt:=evE T c elt) (isIf:=isIf) ?_ (fun φ' I=>(ihe _ φ' _ (yP.fit F I) (a1 h7)).1) (zqJ (a1 h5) _) (ihi X φ _ F (a1 (a2 h5))).1)).congr fun loc H=> ?_
 ·cases isIf with
  |false=>exact w7 (P:=fun ifs=>IfJ G φ _ _ _ _ ifs) (a2 h7) .no
  |true=>exact xF (P:=fun ifs=>IfJ G φ _ _ _ _ ifs) (a2 h7) fun cc h=>.yes fun φ' I=>(ihc _ φ' _ (yP.fit F I) h).2
 ·cases isIf with
  |false=>rfl
  |true =>
   refine congrArg (Rs.bind (evE T c it loc H)) (funext fun v=>funext fun H=>congrArg (Rs.bind (zC (yS v) H)) (funext fun items=>funext fun H=>congrArg (fun l=>Rs.bind (zfH (compLoop l items H)) _) (funext fun x=>funext fun H=> ?_)));exact (zR ..).symm
theorem m_dcomp (K:z7 G T N c kc fT) {it cond key val:E} (ihi:MI G T N c kc it) (ihc:MI G T N c kc cond) (ihk:MI G T N c kc key) (ihv:MI G T N c kc val):MI G T N c kc (.dcomp i it cond key val):=fun X φ x F h=>by
 refine xDictComp_el h fun kx vx gs scope pos h=> ?_;refine xF (P:=fun l=>BJ G φ _ (.DictComp _ _ l _ _)) h fun ⟨t,iter,ifs,asy⟩ h=> ?_;refine yX (P:=fun t=>BJ G φ _ (.DictComp _ _ [⟨t,_,_,_⟩] _ _)) h fun y q h=> ?_;cases of_decide_eq_true (a1 h);have h3:=a2 (a2 h);have h5:=a2 (a2 h3);have h7:=a2 (a2 h5);refine xF (P:=fun ifs=>BJ G φ _ (.DictComp _ _ [⟨_,_,ifs,_⟩] _ _)) (a1 h7) fun cx h8=> ?_;refine (BJ.of (fun _=>rfl) (ej_dcomp F.D (F.comp (nt (a1 (a2 h)))) (F.at (a1 h3)) (F.cok (a1 (a2 h3))) (fcond:=evE T c cond) (fkey:=evE T c key) (fval:=evE T c val) (.yes fun φ' I=>(ihc _ φ' _ (yP.fit F I) h8).2)
  (fun φ' I=>(ihk _ φ' _ (yP.fit F I) (a1 (a2 h7))).1) (fun φ' I=>(ihv _ φ' _ (yP.fit F I) (a2 (a2 h7))).1) K.O (zqJ (a1 h5) _) (ihi X φ _ F (a1 (a2 h5))).1)).congr fun loc H=> ?_
 refine congrArg (Rs.bind (evE T c it loc H)) (funext fun v=>funext fun H=>congrArg (Rs.bind (zC (yS v) H)) (funext fun items=>funext fun H=>congrArg (fun l=>Rs.bind (zfH (compLoop l items H)) _) (funext fun x=>funext fun H=> ?_)));refine Eq.trans ?_ (zR ..).symm;refine congrArg (Rs.bind (evE T c cond _ H)) (funext fun v=>funext fun H=>congrArg (Rs.bind (zC (zM v) H)) (funext fun b=>funext fun H=> ?_));cases b
 ·rfl
 ·exact ((zR (evE T c key _ H) (fun k H=>(evE T c val _ H).bind fun v H=>.ok (k,v) H) fun v H=>.ok (some v) H).trans (congrArg (Rs.bind (evE T c key _ H)) (funext fun k=>funext fun H=>zR (evE T c val _ H) (fun v H=>.ok (k,v) H) fun v H=>.ok (some v) H))).symm
theorem noParams_is (h:ybG p=true):p=⟨[],[],none,[],[],none,[]⟩:=by
 obtain ⟨q1,q2,q3,q4,q5,q6,q7⟩:=p;have e:=fun {α:Type} {l:List α} (h:l.isEmpty=true)=>List.isEmpty_iff.mp h;have o:=fun {α:Type} {l:Option α} (h:l.isNone=true)=>Option.isNone_iff_eq_none.mp h;cases e (a2 h); cases o (a2 (a1 h)); cases e (a2 (a1 (a1 h))); cases e (a2 (a1 (a1 (a1 h)))); cases o (a2 (a1 (a1 (a1 (a1 h))))); cases e (a2 (a1 (a1 (a1 (a1 (a1 h)))))); cases e (a1 (a1 (a1 (a1 (a1 (a1 h))))))
 rfl
theorem m_tried (K:z7 G T N c kc fT) (iha:MI G T N c kc a):MI G T N c kc (.tried a):=fun X φ x F h=>by
 refine zrD (a2 (a2 h)) fun q l p g h'=> ?_;refine xF (P:=fun l=>BJ G φ _ (.Call _ l _ _)) h' fun e h'=> ?_;refine xLambda_el (P:=fun e=>BJ G φ _ (.Call _ [e] _ _)) h' fun ps body scope lp h'=> ?_;cases noParams_is (a1 (a2 h'));refine oEEA (F.code (a1 h)) fun cc P k1 k2=> ?_;exact BJ.o (fun _=>rfl) (ej_tried (k:=kc+1) (F.D3 (a1 h)) K.O K.TO (zW F g).1 k1 k2 rfl (fun _ _ _ _ _ _ _=>rfl) (by rw [F.sc,F.xs]; exact a1 h') (fa:=evE T c a) fun φ₂ D2 h8 h9 h10 => (iha ⟨X.xs,scope,false,false⟩ φ₂ _ ⟨h9.trans F.xs,h8,fun _=>h10,D2,fun h=>(by cases h),fun h=>(by cases h)⟩ (a2 (a2 h'))).1) rfl
theorem m_cst:MI G T N c kc (.cst v):=fun X φ x F h=>by
 refine xConstant_el h fun cc k p h=> ?_;exact BJ.of (fun _=>rfl) (cst_ok h)
theorem m_var:MI G T N c kc (.var i):=fun X φ x F h=>by
 refine yX h fun y p h=> ?_;have h':=a2 (a2 h);exact BJ.of (fun _=>rfl) (ej_var F.D (F.at (a1 h)) (isLoc_of F (a1 (a2 h))) (nt (a1 h')) (nt (a2 h')))
theorem m_glo (K:z7 G T N c kc fT):MI G T N c kc (.glo i):=fun X φ x F h=>by
 refine yX h fun y p h=> ?_;refine BJ.of (fun _=>rfl) ?_;have g:=zW F (a1 h);cases hv:T.glo i with
 |none=>exact fun R fz μ loc H s S hΓ hF=>((congrArg (fun o=>Fine φ (zC o H)) hv).mp hF).elim
 |some v =>
  refine oEA (K.gloN _ _ _ (eq_of_beq (a2 h)) hv) fun x k1 k2=> ?_;exact SJ.congr (ydD F.D K.O g.1 k1 g.2 k2) fun loc H=>congrArg (fun o=>zC o H) hv
theorem m_cls (K:z7 G T N c kc fT):MI G T N c kc (.clsE i):=fun X φ x F h=>by
 refine yX h fun y p h=> ?_;have g:=zW F (a1 h);exact BJ.o (fun _=>rfl) (ydD (v:=.cls i) F.D K.O g.1 (K.clsN _ _ (eq_of_beq (a2 h))).1 g.2 fun _ _=>.cls i) rfl
theorem m_ty (K:z7 G T N c kc fT):MI G T N c kc (.ty i):=fun X φ x F h=>by
 refine yX h fun y p h=> ?_;have g:=zW F (a1 h);have ht:=of_decide_eq_true (a1 (a2 h));cases eq_of_beq (a2 (a2 h));exact BJ.o (fun _=>rfl) (ej_builtV (v:=.typ i) F.D K.O g.1 (K.NO.built _ (zzE i ht).1) (boot_ty i ht) (zzE i ht).2 g.2 fun _ _=>.typ i) rfl
mutual
theorem zJ (K:z7 G T N c kc fT):∀ e:E,MI G T N c kc e
 | .cst v=>m_cst
 | .var i=>m_var
 | .glo g=>m_glo K
 | .clsE C=>m_cls K
 | .ty t=>m_ty K
 | .attr e k=>m_attr K (zJ K e)
 | .idx a b=>m_idx K (zJ K a) (zJ K b)
 | .slc a b d=>m_slc K (zJ K a) (zJ K b) (zJ K d)
 | .neg a=>m_neg (zJ K a)
 | .bin op a b=>m_bin K (zJ K a) (zJ K b)
 | .cmp op a b=>m_cmp (zJ K a) (zJ K b)
 | .chain o1 o2 a b d=>m_chain (zJ K a) (zJ K b) (zJ K d)
 | .and es=>m_and (wK K es)
 | .or es=>m_or (wK K es)
 | .not a=>m_not (zJ K a)
 | .ife t a b=>m_ife (zJ K t) (zJ K a) (zJ K b)
 | .tup es=>m_tup (wK K es)
 | .lst es=>m_lst (wK K es)
 | .dct i es=>m_dct K (wK K es)
 | .lcomp i it isIf cond elt=>m_lcomp K (zJ K it) (zJ K cond) (zJ K elt)
 | .dcomp i it cond key val=>m_dcomp K (zJ K it) (zJ K cond) (zJ K key) (zJ K val)
 | .isin a b=>m_isin K (zJ K a) (zJ K b)
 | .callC f es=>m_callC K (wK K es)
 | .callO f es=>m_callO K (wK K es)
 | .new C es=>m_new K (wK K es)
 | .methC k a es=>m_methC K (zJ K a) (wK K es)
 | .methO k a es=>m_methO K (zJ K a) (wK K es)
 | .bi b a=>m_bi K (zJ K a)
 | .dic i a=>m_dic K (zJ K a)
 | .min2 a b=>m_min2 K (zJ K a) (zJ K b)
 | .rng1 a=>m_rng1 K (zJ K a)
 | .rng3 a b d=>m_rng3 K (zJ K a) (zJ K b) (zJ K d)
 | .append a b=>m_append (zJ K a) (zJ K b)
 | .extend a b=>m_extend (zJ K a) (zJ K b)
 | .pop a=>m_pop K (zJ K a)
 | .dget a b=>m_dget (zJ K a) (zJ K b)
 | .dget2 a b d=>m_dget2 (zJ K a) (zJ K b) (zJ K d)
 | .dpop a b=>m_dpop K (zJ K a) (zJ K b)
 | .join a b=>m_join (zJ K a) (zJ K b)
 | .enc a b=>m_enc (zJ K a) (zJ K b)
 | .reprEq a b=>m_reprEq K (zJ K a) (zJ K b)
 | .tried a=>m_tried K (zJ K a)
 | .frz a=>m_frz (zJ K a)
theorem wK (K:z7 G T N c kc fT):∀ es:Es,MIs G T N c kc es
 | .nil=>fun X φ xs F h=>w7 (P:=BJs G φ T c .nil) h trivial
 | .cons e es=>fun X φ xs F h=>znH (P:=BJs G φ T c (.cons e es)) h fun x r h=>⟨zJ K e X φ x F (a1 h),wK K es X φ r F (a2 h)⟩
end
end
noncomputable def zrF (G:Gl):Prop:=∃ fI,zwE G fI∧∀ C,C=1∨C=2→∃ P,ykE G.K (G.ca C) P fI=true
section
variable {G:Gl} {T:Tab} {N:NT} {c:Call} {kc:Nat} {fT:Addr}
noncomputable def SX (G:Gl) (φ:Fx) (f:Loc→Hp→Rs Fl) (st:Stmt):Prop:=SS G φ f (exec st φ.env)
theorem SX.o {φ:Fx} {f g:Loc→Hp→Rs Fl} {st:Stmt} (h:SS G φ f (exec st φ.env)) (e:g=f):SX G φ g st:=e▸h
noncomputable def SI (G:Gl) (T:Tab) (N:NT) (c:Call) (kc:Nat) (s:S):Prop:=∀ X φ st,Fit G X φ kc→X.comp=false→mS N X s st=true→SX G φ (evS T c s) st
noncomputable def SXs (G:Gl) (φ:Fx) (f:Loc→Hp→Rs Fl) (l:List Stmt):Prop:=SS G φ f (execs l φ.env)
theorem SXs.o (h:SS G φ f (execs l φ.env)) (e:g=f):SXs G φ g l:=e▸h
noncomputable def SIs (G:Gl) (T:Tab) (N:NT) (c:Call) (kc:Nat) (ss:Ss):Prop:=∀ X φ l,Fit G X φ kc→X.comp=false→mSs N X ss l=true→SXs G φ (evSs T c ss) l
theorem wW (h:zfG v=true) (t:Option Expr) (n:Nat) (env:Env):swapsWith v t n env=pure false:=by
 cases v <;> first|rfl|cases h
theorem wJ (F:Fit G X φ kc) (h:zbD X y=true):φ.env.kindOf y=some .local∨φ.env.kindOf y=some .cell :=
 (Bool.or_eq_true_iff.mp h).imp (fun h=>F.look (eq_of_beq h)) fun h=>F.look (eq_of_beq h)
theorem nameOf_is (h:yiF t=some q):t= .Name q.1 q.2 :=
 if e:t.ctorIdx=23 then Expr.Name.elim (motive_1:=fun t=>yiF t=some q→t= .Name q.1 q.2) t e (fun y p h=>by cases h; rfl) h else nomatch (dif_neg e).symm.trans h
theorem namesOf_tgts:∀ {ts:List Expr} {ps:List (Str×Pos)},zqC ts=some ps→ts=tgts ps:=by
 intro l0
 induction l0 with
 |nil =>
  intro ps h;cases h; rfl
 |cons t r ih =>
  intro ps h;refine oEA (Option.bind_eq_some_iff.mp h) fun q h1 h2=> ?_;refine oEA (Option.map_eq_some_iff.mp h2) fun p h3 h4=> ?_;cases h4;cases nameOf_is h1;cases ih h3
  rfl
theorem tgts_all (F:Fit G X φ kc):∀ {is:List Nat} {ps:List (Str×Pos)},zzF X is ps=true→All2 (Tgt φ) is (ps.map (·.1)):=by
 intro l0
 induction l0 with
 |nil =>
  intro ps h;exact w7 (P:=fun ps=>All2 (Tgt φ) [] (ps.map (·.1))) h trivial
 |cons i is ih =>
  intro ps h;exact znH (P:=fun ps=>All2 (Tgt φ) (i::is) (ps.map (·.1))) h fun p ps h=>⟨⟨F.at (a1 h),wJ F (a1 (a2 h))⟩,ih (a2 (a2 h))⟩
theorem sw (hb:bk=false) (h:swC b1 b2 b3 b4 b5 n=some o) :
  (do
   if b1||bk then return none
   if b2 then return none
   if b3 then return none
   if b4 then return none
   if b5 then unsupported "assign.tuple-of-constant-expressions:order-of-the-stores"
   return some n:Sem (Option (List Str)))=pure o:=by
 cases hb;cases b1
 ·cases b2
  ·cases b3
   ·cases b4
    ·cases b5 <;> cases h
     rfl
    ·cases h; rfl
   ·cases h; rfl
  ·cases h; rfl
 ·cases h; rfl
theorem zzI (F:Fit G X φ kc) (h:yeG X ts v=some o):swappedStores [.Tuple ts kk tpos] v φ.env=pure o:=by
 have hb:(φ.env.blockKind != .function)=false:=by
  unfold Env.blockKind;rw [F.D.hk]; rfl
 have fs:=F.sc;cases X;cases fs;refine if e:v.ctorIdx=25 then Expr.Tuple.elim (motive_1:=fun v=>yeG _ ts v=some o→swappedStores [.Tuple ts kk tpos] v φ.env=pure o) v e (fun vs _ _ h=> ?_) h else ?_
 ·exact sw hb h
 ·cases (dif_neg e).symm.trans h
  cases v <;> first|rfl|exact absurd rfl e
theorem evEs_len:∀ {es:Es} {xs:List Expr},BJs G φ T c es xs→∀ loc H vs H',evEs T c es loc H= .ok vs H'→vs.length=xs.length:=by
 intro es
 induction es using Es.rec (motive_1:=fun _=>True) with
 |nil =>
  intro xs h loc H vs H' e;cases xs with
  |nil=>cases e; rfl
  |cons x r=>exact h.elim
 |cons e es _ ih =>
  intro xs h loc H vs H' e0;cases xs with
  |nil=>exact h.elim
  |cons x r =>
   replace e0:(evE T c e loc H).bind (kC (evEs T c es loc))= .ok vs H':=e0
   cases e1:evE T c e loc H with
   |ok v H1 =>
    rw [e1] at e0
    replace e0:((evEs T c es loc H1).bind fun vs H=>Rs.ok (v::vs) H)= .ok vs H':=e0
    cases e2:evEs T c es loc H1 with
    |ok vs2 H2 =>
     rw [e2] at e0;cases e0
     simp [ih h.2 _ _ _ _ e2]
    |exc C H2=>rw [e2] at e0; cases e0
    |bad=>rw [e2] at e0; cases e0
   |exc C H1=>rw [e1] at e0; cases e0
   |bad=>rw [e1] at e0; cases e0
 |_=>trivial
theorem s_asg (K:z7 G T N c kc fT):SI G T N c kc (.asg i e):=fun X φ st F hc h=>by
 refine zaG h fun l v p h=> ?_;refine xF (P:=fun l=>SX G φ _ (.Assign l _ _)) h fun t h=> ?_;refine yX (P:=fun t=>SX G φ _ (.Assign [t] _ _)) h fun y q h=> ?_;exact SX.o (ss_asg F.D (F.comp hc) (F.at (a1 (a1 h))) (wJ F (a2 (a1 h))) (wW (a1 (a2 h)) _ _ _) (zJ K e X φ _ F (a2 (a2 h))).1) rfl
theorem s_asgA (K:z7 G T N c kc fT):SI G T N c kc (.asgA a k e):=fun X φ st F hc h=>by
 refine zaG h fun l v p h=> ?_;refine xF (P:=fun l=>SX G φ _ (.Assign l _ _)) h fun t h=> ?_;refine wA (P:=fun t=>SX G φ _ (.Assign [t] _ _)) h fun o m q h=> ?_;cases eq_of_beq (a1 h);have h':=a2 (a2 h);exact SX.o (ss_asgA K.KO F.D K.O (wW (a1 (a2 h)) _ _ _) (zJ K e X φ _ F (a1 h')).1 (zJ K a X φ _ F (a2 h')).1) rfl
theorem s_asgI (K:z7 G T N c kc fT):SI G T N c kc (.asgI a b e):=fun X φ st F hc h=>by
 refine zaG h fun l v p h=> ?_;refine xF (P:=fun l=>SX G φ _ (.Assign l _ _)) h fun t h=> ?_;refine xZ (P:=fun t=>SX G φ _ (.Assign [t] _ _)) h fun o s q h=> ?_;have h':=a2 (a2 h);exact SX.o (ss_asgI F.D (wW (a1 h) _ _ _) (zJ K e X φ _ F (a1 (a2 h))).1 (zJ K a X φ _ F (a1 h')).1 (zJ K b X φ _ F (a2 h')).1) rfl
theorem s_expr (K:z7 G T N c kc fT):SI G T N c kc (.expr e):=fun X φ st F hc h=>by
 refine tExpr_el h fun v p h=> ?_;exact SX.o (ss_expr (by unfold interactive; rw [F.D.hk]; rfl) (wW (a1 h) _ _ _) (zJ K e X φ _ F (a2 h)).1) rfl
theorem s_ret (K:z7 G T N c kc fT):SI G T N c kc (.ret e):=fun X φ st F hc h=>by
 refine zmF h fun v p h=> ?_;refine yoH (P:=fun v=>SX G φ _ (.Return v _)) h fun v h=> ?_;exact SX.o (ss_ret (zJ K e X φ _ F h).1) rfl
theorem s_retN:SI G T N c kc .retN:=fun X φ st F hc h=>by
 refine zmF h fun v p h=> ?_;refine yiA (P:=fun v=>SX G φ _ (.Return v _)) h ?_;exact SX.o ss_retN rfl
theorem s_cont:SI G T N c kc .cont:=fun X φ st F hc h=>by
 refine tContinue_el h fun p h=> ?_;exact SX.o ss_cont rfl
theorem s_if (K:z7 G T N c kc fT) (iha:SIs G T N c kc a) (ihb:SIs G T N c kc b):SI G T N c kc (.if_ t a b):=fun X φ st F hc h=>by
 refine tIf_el h fun u l r p h=> ?_;exact SX.o (ss_if (zJ K t X φ _ F (a1 h)).2 (iha X φ _ F hc (a1 (a2 h))) (ihb X φ _ F hc (a2 (a2 h)))) rfl
theorem s_while (K:z7 G T N c kc fT) (iha:SIs G T N c kc a):SI G T N c kc (.while_ t a):=fun X φ st F hc h=>by
 refine tWhile_el h fun u l r p h=> ?_;refine w7 (P:=fun r=>SX G φ _ (.While _ _ r _)) (a1 h) ?_;exact SX.o (ss_while F.D (zJ K t X φ _ F (a1 (a2 h))).2 (iha X φ _ F hc (a2 (a2 h)))) rfl
theorem s_for (K:z7 G T N c kc fT) (iha:SIs G T N c kc a):SI G T N c kc (.for_ i e a):=fun X φ st F hc h=>by
 refine tFor_el h fun u it l r p h=> ?_;refine w7 (P:=fun r=>SX G φ _ (.For _ _ _ r _)) (a1 h) ?_;refine yX (P:=fun u=>SX G φ _ (.For u _ _ _ _)) (a2 h) fun y q h=> ?_;have h':=a2 h;exact SX.o (ss_for F.D (F.comp hc) (F.at (a1 (a1 h))) (wJ F (a2 (a1 h))) (zqJ (a1 h') _) (zJ K e X φ _ F (a1 (a2 h'))).1 (iha X φ _ F hc (a2 (a2 h')))) rfl
theorem or_of {p q:Prop} [Decidable p] [Decidable q] (h:(decide p||decide q)=true):p∨q:=(Bool.or_eq_true_iff.mp h).imp of_decide_eq_true of_decide_eq_true
theorem s_raise (K:z7 G T N c kc fT) (RO:zrF G):SI G T N c kc (.raise C es):=fun X φ st F hc h=>by
 refine tRaise_el h fun e z p h=> ?_;refine yiA (P:=fun z=>SX G φ _ (.Raise _ z _)) (a1 h) ?_;refine yoH (P:=fun e=>SX G φ _ (.Raise e _ _)) (a2 h) fun e h=> ?_;refine zrC (P:=fun e=>SX G φ _ (.Raise (some e) _ _)) h fun y q l p g h5 h=> ?_;refine oEA RO fun fI k1 k2=> ?_; (try clear RO);have h':=a2 (a2 h);obtain ⟨P,k3⟩:=k2 C (or_of (a1 (a2 h)));have g:=zW F g;have J:=wK K es X φ _ F (a2 h');have n:=K.clsN _ _ (eq_of_beq (a1 h));exact SX.o (ss_raise F.D K.O (F.comp hc) k1 k3 n.2 n.1 g.1 g.2 (or_of (a1 h')) (J.aj h5) (evEs_len J)) rfl
theorem s_asgT (K:z7 G T N c kc fT):SI G T N c kc (.asgT is e):=fun X φ st F hc h=>by
 refine zaG h fun l v p h=> ?_;refine xF (P:=fun l=>SX G φ _ (.Assign l _ _)) h fun t h=> ?_;refine zrH (P:=fun t=>SX G φ _ (.Assign [t] _ _)) h fun elts _ q h=> ?_;have h':=a2 (a2 h);have J:=(zJ K e X φ _ F (a1 (a2 h))).1;have n:=wW (a1 h);cases hps:zqC elts with
 |none=>exact absurd ((congrArg (fun o=>onS o _=true) hps).mp h') Bool.false_ne_true
 |some ps =>
  have h':=(congrArg (fun o=>onS o (fun ps=>zzF X is ps&&(yeG X elts v==some none||(decide is.Nodup&&yeG X elts v==some (some (ps.map (·.1))))))=true) hps).mp h'
  cases namesOf_tgts hps;refine SX.o (ss_asgT F.D (F.comp hc) (tgts_all F (a1 h')) (n _ _ _) ?_ J) rfl;exact (Bool.or_eq_true_iff.mp (a2 h')).imp (fun q=>zzI F (eq_of_beq q)) fun q=>⟨of_decide_eq_true (a1 q),zzI F (eq_of_beq (a2 q))⟩
theorem s_cons (hs:SI G T N c kc s) (ih:SIs G T N c kc ss) (hn:s.ctorIdx≠12):SIs G T N c kc (.cons s ss):=fun X φ l F hc h=>by
 refine znH (f:=fun st r=>mS N X s st&&mSs N X ss r) (P:=SXs G φ _) (by cases s <;> first|exact h|exact absurd rfl hn) fun st r h=> ?_
 exact SXs.o (ss_cons (hs X φ _ F hc (a1 h)) (ih X φ _ F hc (a2 h))) rfl
theorem s_frz (ih:SIs G T N c kc ss):SIs G T N c kc (.cons (.frz i) ss):=fun X φ l F hc h=>by
 cases hy:X.xs[i]? with
 |none=>exact absurd ((congrArg (fun o=>onS o (zbD X)=true) hy).mp (a1 h)) Bool.false_ne_true
 |some y=>exact SXs.o (ss_frz (F.xs▸hy) (wJ F ((congrArg (fun o=>onS o (zbD X)=true) hy).mp (a1 h))) (ih X φ l F hc (a2 h))) rfl
theorem s_nil:SIs G T N c kc .nil:=fun X φ l F hc h=>w7 (P:=SXs G φ _) h (SXs.o ss_nil rfl)
mutual
theorem mS_ok (K:z7 G T N c kc fT) (RO:zrF G):∀ s:S,SI G T N c kc s
 | .asg i e=>s_asg K
 | .asgT is e=>s_asgT K
 | .asgA a k e=>s_asgA K
 | .asgI a b e=>s_asgI K
 | .expr e=>s_expr K
 | .ret e=>s_ret K
 | .retN=>s_retN
 | .if_ t a b=>s_if K (zhC K RO a) (zhC K RO b)
 | .while_ t a=>s_while K (zhC K RO a)
 | .for_ i e a=>s_for K (zhC K RO a)
 | .raise C es=>s_raise K RO
 | .cont=>s_cont
 | .frz i=>fun X φ st F hc h=>nomatch h
 | .bad=>fun X φ st F hc h R fz μ loc H s S hF=>hF.elim
theorem zhC (K:z7 G T N c kc fT) (RO:zrF G):∀ ss:Ss,SIs G T N c kc ss
 | .nil=>s_nil
 | .cons s ss=>if e:s.ctorIdx=12 then S.frz.elim (motive_1:=fun s=>SIs G T N c kc (.cons s ss)) s e (fun i=>s_frz (zhC K RO ss)) else s_cons (mS_ok K RO s) (zhC K RO ss) e
end
end
theorem zip_none {β:Type}:∀ {names:List Str} {B:List β},x∉names→(names.zip B).lookup x=none:=by
 intro l0
 induction l0 with
 |nil =>
  intro _ _;exact rfl
 |cons y r ih =>
  intro l1;cases l1 with
  |nil =>
   intro _;exact rfl
  |cons b B =>
   intro h;have h1:(x==y)=false:=beq_eq_false_iff_ne.mpr fun e=>h (by rw [e]; exact mQ);show (match x==y with|true=>some b|false=>(r.zip B).lookup x)=none
   rw [h1];exact ih fun q=>h (mC _ q)
theorem yfG {β:Type}:∀ {names:List Str} {B:List β} {i:Nat} {x:Str} {b:β},names.Nodup→names[i]? =some x→B[i]? =some b→(names.zip B).lookup x=some b:=by
 intro l0
 induction l0 with
 |nil =>
  intro _ _ _ _ _ h _
  simp at h
 |cons y r ih =>
  intro l1;cases l1 with
  |nil =>
   intro _ _ _ _ _ h
   simp at h
  |cons c B =>
   intro l2;cases l2 with
   |zero =>
    intro x b hn h1 h2;have h1':y=x:=by simpa using h1
    have h2':c=b:=by simpa using h2
    subst h1' h2';show (match y==y with|true=>some c|false=>(r.zip B).lookup y)=some c
    rw [beq_self_eq_true]
   |succ i =>
    intro x b hn h1 h2;have h1':r[i]? =some x:=by simpa using h1
    have h2':B[i]? =some b:=by simpa using h2
    have hxy:(x==y)=false:=beq_eq_false_iff_ne.mpr fun e=>(List.nodup_cons.mp hn).1 (by rw [← e]; exact List.mem_of_getElem? h1');show (match x==y with|true=>some c|false=>(r.zip B).lookup x)=some b
    rw [hxy];exact ih (List.nodup_cons.mp hn).2 h1' h2'
theorem zip_filter {β:Type}:∀ {names:List Str} {B:List β} {L:List (Str×β)},names.length=B.length→(∀ (i:Nat) (x:Str) (b:β),names[i]? =some x→B[i]? =some b→L.lookup x=some b)→names.filterMap (fun n=>(L.lookup n).map (n,·))=names.zip B:=by
 intro l0
 induction l0 with
 |nil =>
  intro l1;cases l1 with
  |nil =>
   intro _ _ _;exact rfl
  |cons _ _ =>
   intro _ h _
   simp at h
 |cons y r ih =>
  intro l1;cases l1 with
  |nil =>
   intro _ h _
   simp at h
  |cons c B =>
   intro L h hL;have h0:L.lookup y=some c:=hL 0 y c rfl rfl;rw [List.filterMap_cons,h0];show (y,c)::_=(y,c)::_;rw [ih (by simpa using h) fun i x b h1 h2=>hL (i+1) x b (by simpa using h1) (by simpa using h2)]; rfl
theorem zip_snoc {α β:Type} {x:α} {b:β}:∀ {l:List α} {B:List β} {n:Nat},B[n]? =some b→l.length=n→l.zip B++[(x,b)]=(l++[x]).zip B:=by
 intro l0
 induction l0 with
 |nil =>
  intro l1;cases l1 with
  |nil =>
   intro n h _
   simp at h
  |cons c B =>
   intro n h hn;subst hn;have:c=b:=by simpa using h
   subst this; rfl
 |cons y l ih =>
  intro l1;cases l1 with
  |nil =>
   intro n h _
   simp at h
  |cons c B =>
   intro n h hn;subst hn;show (y,c)::(l.zip B++[(x,b)])=(y,c)::(l++[x]).zip B;rw [ih (n:=l.length) (by simpa using h) rfl]
theorem zip_take {α β:Type}:∀ {l:List α} {B C:List β},l.zip B=(l.take B.length).zip (B++C):=by
 intro l0
 induction l0 with
 |nil =>
  intro _ _
  simp
 |cons y l ih =>
  intro l1;cases l1 with
  |nil =>
   intro _
   simp
  |cons c B =>
   intro C;show (y,c)::l.zip B=(y,c)::(l.take B.length).zip (B++C);rw [ih]
noncomputable def zvJ (names:List Str) (vals:List Value) (D:List Value):List (Str×Value):=names.zip (vals++D.drop (vals.length+D.length-names.length))
theorem wR {M:Model} {A:Around} {α:Type} {a b:Sem α} {Q:α→Shared→Prop} {E:Value→Shared→Prop} {s:Shared} {c:Prop} [i:Decidable c] (h:¬ c) (k:wpAny M A b Q E s):wpAny M A (if c then a else b) Q E s:=by rw [if_neg h]; exact k
theorem zvE {α:Type} {l:List α} {x:α} (h:l[j]? =some x):l.drop j=x::l.drop (j+1):=by
 obtain ⟨h1,h2⟩:=List.getElem?_eq_some_iff.mp h;rw [List.drop_eq_getElem_cons h1,h2]
theorem not_take {names:List Str} {j:Nat} {x:Str} (hn:names.Nodup) (h:names[j]? =some x):x∉names.take j:=fun hm=>by
 obtain ⟨i,hi⟩:=List.mem_iff_getElem?.mp hm;have hlt:i<j:=by
  have:=(List.getElem?_eq_some_iff.mp hi).1;rw [List.length_take] at this;exact Nat.lt_of_lt_of_le this (Nat.min_le_left _ _)
 rw [List.getElem?_take_of_lt hlt] at hi;exact Nat.ne_of_lt hlt ((List.getElem?_inj (List.getElem?_eq_some_iff.mp hi).1 hn).mp (hi.trans h.symm))
theorem bind_loop {M:Model} {A:Around} {E:Value→Shared→Prop} {Q:List (Str×Value)→Shared→Prop} {s:Shared} {names:List Str} {vals D B:List Value} {f:Str×Value→List (Str×Value)→Sem (ForInStep (List (Str×Value)))} {d:Nat} (hn:names.Nodup)
  (f1:∀ p slots,(slots.lookup p.1).isNone=true→f p slots=pure (.yield (slots++[p]))) (f2:∀ p slots,(slots.lookup p.1).isNone=false→f p slots=pure (.yield slots)) (hB:B.length=names.length)
  (hD:∀ j,vals.length≤j→d≤j→B[j]? =D[j-d]?) (hl:names.length=d+D.length) (hQ:Q (names.zip B) s):∀ (k j:Nat),j+k=names.length→d≤j→wpAny M A (forIn ((names.drop j).zip (D.drop (j-d))) ((names.take (max j vals.length)).zip B) f) Q E s:=by
 intro l0
 induction l0 with
 |zero =>
  intro j hj hd;have hj:j=names.length:=hj;rw [hj,List.drop_length,List.zip_nil_left,List.forIn_nil,List.take_of_length_le (Nat.le_max_left _ _)];exact wpAny_pure hQ
 |succ k ih =>
  intro j hj hd;have ih:=ih (j+1) (by lia) (Nat.le_succ_of_le hd);have hx:=List.getElem?_eq_getElem (l:=names) (i:=j) (by lia);have hy:=List.getElem?_eq_getElem (l:=D) (i:=j-d) (by lia);rw [zvE hx,zvE hy,List.zip_cons_cons,List.forIn_cons];rw [Nat.sub_add_comm hd] at ih
  by_cases q:vals.length≤j
  ·rw [Nat.max_eq_left q,f1 _ _ (by rw [zip_none (not_take hn hx)]; rfl)]
   rw [Nat.max_eq_left (Nat.le_succ_of_le q),List.take_add_one,hx] at ih;refine wpAny_bind (wpAny_pure ?_);have e:(names.take j).zip B++[(names[j],D[j-d])]=(names.take j++[names[j]]).zip B:=zip_snoc ((hD j q hd).trans hy) (by rw [List.length_take]; lia);rw [e];exact ih
  ·have q:=Nat.lt_of_not_le q
   rw [Nat.max_eq_right (Nat.le_of_lt q),f2 _ _ (by rw [yfG (i:=j) (b:=B[j]'(by lia)) (hn.sublist (List.take_sublist _ _)) ((List.getElem?_take_of_lt q).trans hx) (List.getElem?_eq_getElem _)]; rfl)];rw [Nat.max_eq_right q] at ih;exact wpAny_bind (wpAny_pure ih)
theorem nat_a {a d n:Nat} (h1:a≤n) (h2:n≤a+d) (h3:d≤n):a+(d-(a+d-n))=n:=by
 obtain ⟨m,rfl⟩:=Nat.exists_eq_add_of_le h1;rw [Nat.add_sub_add_left,Nat.sub_sub_self (Nat.add_le_add_iff_left.mp h2)]
theorem nat_b {a d n j:Nat} (q:a≤j) (h2:n≤a+d) (h3:d≤n):a+d-n+(j-a)=j-(n-d):=by
 obtain ⟨m,rfl⟩:=Nat.exists_eq_add_of_le h3;obtain ⟨t,rfl⟩:=Nat.exists_eq_add_of_le q;rw [Nat.add_comm a d] at h2 ⊢;rw [Nat.add_sub_add_left,Nat.add_sub_cancel_left,Nat.add_sub_cancel_left];exact (Nat.sub_add_comm (Nat.add_le_add_iff_left.mp h2)).symm
theorem bind_start {M:Model} {A:Around} {E:Value→Shared→Prop} {Q:List (Str×Value)→Shared→Prop} {s:Shared} {names:List Str} {vals D:List Value} {f:Str×Value→List (Str×Value)→Sem (ForInStep (List (Str×Value)))} {L sl:List (Str×Value)} (hn:names.Nodup) (h1:vals.length≤names.length) (h2:names.length≤vals.length+D.length) (hD:D.length≤names.length)
  (f1:∀ p slots,(slots.lookup p.1).isNone=true→f p slots=pure (.yield (slots++[p]))) (f2:∀ p slots,(slots.lookup p.1).isNone=false→f p slots=pure (.yield slots))
  (hL:L=(names.drop (names.length-D.length)).zip D) (hsl:sl=names.zip vals) (hQ:Q (names.zip (vals++D.drop (vals.length+D.length-names.length))) s):wpAny M A (forIn L sl f) Q E s:=by
 have hd:names.length-D.length≤vals.length:=by lia
 have e:names.length=(names.length-D.length)+D.length:=by lia
 rw [hL,hsl];have h:=bind_loop (M:=M) (A:=A) (E:=E) (s:=s) (d:=names.length-D.length) (B:=vals++D.drop (vals.length+D.length-names.length)) (D:=D) (vals:=vals) (Q:=Q) hn f1 f2 (by rw [List.length_append,List.length_drop]; exact nat_a h1 h2 hD)
  (fun j q q2=>by rw [List.getElem?_append_right q,List.getElem?_drop]; exact congrArg (D[·]?) (nat_b q h2 hD)) e hQ D.length (names.length-D.length) e.symm (Nat.le_refl _)
 rw [Nat.sub_self,List.drop_zero,show (names.take (max (names.length-D.length) vals.length)).zip (vals++D.drop (vals.length+D.length-names.length))=names.zip vals by rw [Nat.max_eq_right hd]; exact zip_take.symm] at h;exact h
theorem filter_none {names:List Str} {vals:List Value} {k:Nat} (hn:names.Nodup) (hk:k≤vals.length):(names.take k).filter (fun n=>((names.zip vals).lookup n).isNone)=[]:=by
 rw [List.filter_eq_nil_iff];intro x hx;obtain ⟨i,hi⟩:=List.mem_iff_getElem?.mp hx;have hlt:i<k:=Nat.lt_of_lt_of_le (List.length_take▸(List.getElem?_eq_some_iff.mp hi).1) (Nat.min_le_left _ _);rw [List.getElem?_take_of_lt hlt] at hi;rw [yfG hn hi (List.getElem?_eq_getElem (Nat.lt_of_lt_of_le hlt hk))];exact Bool.false_ne_true
theorem not_miss {α:Type} {l:List α} (h:l=[]):¬ ((!l.isEmpty)=true):=by rw [h]; exact Bool.false_ne_true
theorem ziH {M:Model} {A:Around} {E:Value→Shared→Prop} {Q:List (Str×Value)→Shared→Prop} {s:Shared} {fd:FuncData} {ps:List Arg} {ds:List Expr} {vals D:List Value} {o:Option (Array Value)}
  (hp:fd.params=⟨[],ps,none,[],[],none,ds⟩) (hn:(ps.map (·.arg)).Nodup) (h1:vals.length≤ps.length) (h2:ps.length≤vals.length+D.length) (ho:(o.getD #[]).toList=D) (hD:D.length≤ps.length)
  (hs:∀ Q':Option (Array Value)→Shared→Prop,Q' o s→wpAny M A (seqItems? fd.defaults) Q' E s) (h:Q (zvJ (ps.map (·.arg)) vals D) s):wpAny M A (bindArgs fd ⟨vals,[]⟩) Q E s:=by
 unfold bindArgs;rw [hp];generalize hnm:ps.map (·.arg)=names at hn h;have hl:names.length=ps.length:=hnm▸List.length_map _;rw [← hl] at h1 h2 hD;have hz:((o.getD #[]).toList.drop ((o.getD #[]).toList.length-names.length))=D:=by rw [ho,Nat.sub_eq_zero_of_le hD]; rfl
 dsimp only [List.map_nil,List.nil_append,List.append_nil];rw [hnm];refine wpAny_bind (wpAny_pure ?_);refine wpAny_bind (hs _ ?_);refine wR (fun q=>absurd (of_decide_eq_true (Bool.and_eq_true_iff.mp q).1) (Nat.not_lt_of_ge h1)) ?_;refine wR (not_miss (filter_none hn (by show names.length-((o.getD #[]).toList.drop ((o.getD #[]).toList.length-names.length)).length≤_; rw [hz]; lia))) ?_;refine wpAny_bind (bind_start (D:=D) (vals:=vals) hn h1 h2 hD (fun p slots q=>if_pos q) (fun p slots q=>if_neg (by rw [q]; exact Bool.false_ne_true)) (by show ((names.drop (names.length-((o.getD #[]).toList.drop ((o.getD #[]).toList.length-names.length)).length)).zip ((o.getD #[]).toList.drop ((o.getD #[]).toList.length-names.length)))=_; rw [hz]) rfl ?_);refine wpAny_bind (wpAny_pure ?_);refine wR Bool.false_ne_true ?_;refine wpAny_pure ?_;show Q ((names++[]).filterMap _) s;rw [List.append_nil,zip_filter (B:=vals++D.drop (vals.length+D.length-names.length)) (by rw [List.length_append,List.length_drop]; exact (nat_a h1 h2 hD).symm) fun i x b q1 q2=>yfG hn q1 q2];exact h
structure zoH (G:Gl) (T:Tab) (N:NT) (fT:Addr):Prop where
 O:GOk G
 KO:KOk G T
 IO:IOk G
 NO:NOk G
 FK:ynC G
 TO:ynA G fT
 fnN:∀ y f,N.fn.lookup y=some f→nsIn G.K mainGlobals y=some (some (.ref (G.fa f)))
 clsN:∀ y C,N.cls.lookup y=some C→nsIn G.K mainGlobals y=some (some (.ref (G.ca C)))∧keepIn G.K (.ref (G.ca C))=true
 gloN:∀ y g v,N.glo.lookup y=some g→T.glo g=some v→∃ x,nsIn G.K mainGlobals y=some (some x)∧∀ fz μ,VR G fz μ v x
 RO:zrF G
theorem zoH.all (h:zoH G T N fT) (SC:zbF G c kc):z7 G T N c kc fT :=
 ⟨h.O,h.KO,h.IO,h.NO,h.FK,SC,h.TO,h.fnN,h.clsN,h.gloN⟩
inductive DfOk (G:Gl) (defs:List PV):Value→List Value→Prop
 |no:defs=[]→DfOk G defs .none []
 |yes {t:Addr} {oc:Value} {od:Option Addr} {osl:Array (Option Value)} {n:Nat} {D:List Value}:G.K.lookup t=some ⟨oc,od,.seq D.toArray n,osl⟩→(∀ fz μ,VRs G fz μ defs D)→DfOk G defs (.ref t) D
inductive FnOk (G:Gl) (N:NT) (f:Addr) (fr:FnR):Prop
 |mk (oc:Value) (od:Option Addr) (osl:Array (Option Value)) (name qual:Str) (ps:List Arg) (ds:List Expr) (body:List Stmt) (scope:Scope) (dV kV doc pm:Value) (an:Option Addr) (cdv ct:Value) (D:List Value) (xs:List Str) (tr:Bool)
  (q0:G.K.lookup f=some ⟨oc,od,.func (fnX name qual ⟨[],ps,none,[],[],none,ds⟩ body scope [] dV kV doc pm an cdv ct),osl⟩) (q1:codeIn G.K cdv qual=true) (q2:DfOk G fr.defs dV D) (q3:D.length≤ps.length) (q4:ps.length=fr.np) (q5:ps.map (·.arg)=xs.take fr.np) (q6:xs.length=fr.nl) (q7:fr.np≤fr.nl) (q8:xs.Nodup) (q9:(ps.all fun p=>scope.names.lookup p.arg==some .local||scope.names.lookup p.arg==some .cell)=true) (q10:((cellsFrom 0 scope.names []).map (·.1)).Nodup) (q11:(∀ x∈xs,scope.names.lookup x≠some .free)) (q12:scope.isCoroutine=false) (q13:scope.isGenerator=false) (q14:scope.kind= .function) (q15:mSs N ⟨xs,scope,false,tr⟩ fr.body body=true) (q16:(tr=true→∃ c P,cdv= .ref c∧(c,P,qual++ ".<locals>." ++ "<lambda>")∈G.tabs))
section
variable {G:Gl} {φ:Fx} {k j:Nat} {m:Str→Option Value} {R fz:zB} {μ:Mu} {H:Hp} {s:Shared} {h:Heap}
theorem Good.mono (D:Good G φ k) (hj:j≤k):Good G φ j :=
 {D with
  hde:=by have:=D.hde; unfold xE at this ⊢; lia
  hun:=by have:=D.hun; unfold zbE at this ⊢; lia}
theorem Base.inK (B:Base G φ m R fz μ H h) (D:Good G φ k) (O:GOk G):G.K.In h:=by
 obtain ⟨g,mu,tb,T,F,N,Sh⟩:=B;have gt:=zaC D T;exact O.X.keeps fun b o e=>F.keep _ _ (gt.1.stays _ _ e)
theorem yaI {M:Model} {A:Around} {E:Value→Shared→Prop} {Q:Option (Array Value)→Shared→Prop} (h:Q none s):wpAny M A (seqItems? .none) Q E s:=by
 have e:seqItems? .none=pure none:=rfl;rw [e]; exact wpAny_pure h
theorem yhB {M:Model} {A:Around} {E:Value→Shared→Prop} {Q:Option (Array Value)→Shared→Prop} {t:Addr} {o:Obj} {xs:Array Value} {n:Nat} (ho:s.heap.get? t=some o) (hd:o.data= .seq xs n) (h:Q (some xs) s):wpAny M A (seqItems? (.ref t)) Q E s:=by
 unfold seqItems?;refine wpAny_bind (wpAny_load ho ?_);rw [hd];exact wpAny_pure h
theorem enterL_some (h:wN fr vs=some loc):fr.np≤vs.length+fr.defs.length∧vs.length≤fr.np∧loc=(vs++fr.defs.drop (vs.length+fr.defs.length-fr.np)).map some++List.replicate (fr.nl-fr.np) none:=by
 unfold wN at h
 split at h
 ·rename_i q; cases h; exact ⟨q.1,q.2,rfl⟩
 ·cases h
theorem yfF {α β:Type}:∀ {l:List α} {B:List β},(l.zip B).map (·.1)=l.take B.length:=by
 intro l0
 induction l0 with
 |nil =>
  intro _
  simp
 |cons x l ih =>
  intro l1;cases l1 with
  |nil =>simp
  |cons b B =>
   show x::(l.zip B).map (·.1)=x::l.take B.length;rw [ih]
theorem zip_mem {α β:Type} {x:α} {b:β}:∀ {l:List α} {B:List β} {i:Nat},l[i]? =some x→B[i]? =some b→(x,b)∈l.zip B:=by
 intro l0
 induction l0 with
 |nil =>
  intro _ _ h _
  simp at h
 |cons y l ih =>
  intro l1;cases l1 with
  |nil =>
   intro _ _ h
   simp at h
  |cons c B =>
   intro l2;cases l2 with
   |zero =>
    intro h h2;have h:y=x:=by simpa using h
    have h2:c=b:=by simpa using h2
    subst h h2;exact mQ
   |succ i =>
    intro h h2;exact mC _ (ih (B:=B) (i:=i) (by simpa using h) (by simpa using h2))
theorem scall_zero:zbF G (callN T 0) 0:=by
 intro φ A R m vm ce fz μ loc H s f vs xs D NA sm B L q hF;rw [callN_0] at hF;exact hF.elim
theorem yrA (h:DfOk G defs dV Dv):defs.length=Dv.length:=by
 cases h with
 |no h=>rw [h]; rfl
 |yes _ h=>exact zE (h [] [])
theorem df_vr (h:DfOk G defs dV Dv):VRs G fz μ defs Dv:=by
 cases h with
 |no h=>rw [h]; trivial
 |yes _ h=>exact h _ _
theorem df_bind {s:Shared} (X:G.K.In s.heap) {defs:List PV} {dV:Value} {Dv xs:List Value} (h:DfOk G defs dV Dv) {name qual:Str} {ps:List Arg} {ds:List Expr} {body:List Stmt} {scope:Scope} {kV doc pm:Value} {an:Option Addr} {cdv ct:Value} (hn:(ps.map (·.arg)).Nodup)
  (h1:xs.length≤ps.length) (h2:ps.length≤xs.length+Dv.length) (h4:Dv.length≤ps.length):BindsTo s (fnX name qual ⟨[],ps,none,[],[],none,ds⟩ body scope [] dV kV doc pm an cdv ct) ⟨xs,[]⟩ (zvJ (ps.map (·.arg)) xs Dv):=by
 intro M A E Q hQ;cases h with
 |no h=>exact ziH (D:=[]) (o:=none) rfl hn h1 h2 rfl h4 (fun Q' h=>yaI h) hQ
 |yes ht h=>exact ziH (D:=Dv) (o:=some Dv.toArray) rfl hn h1 h2 rfl h4 (fun Q' h=>yhB (X _ _ ht) rfl h) hQ
theorem nat_c {a d n:Nat} (h1:n≤a+d) (h2:a≤n):a+(d-(a+d-n))=n:=by
 obtain ⟨m,rfl⟩:=Nat.exists_eq_add_of_le h2;rw [Nat.add_sub_add_left,Nat.sub_sub_self (Nat.add_le_add_iff_left.mp h1)]
theorem loc_at {vs defs:List PV} {np nl i:Nat} {v:PV} (e1:np≤vs.length+defs.length) (e2:vs.length≤np) (hv:((vs++defs.drop (vs.length+defs.length-np)).map some++List.replicate (nl-np) none)[i]? =some (some v)):i<np∧(vs++defs.drop (vs.length+defs.length-np))[i]? =some v:=by
 have hlen:((vs++defs.drop (vs.length+defs.length-np)).map some).length=np:=by rw [List.length_map,List.length_append,List.length_drop]; exact nat_c e1 e2
 rcases Nat.lt_or_ge i np with z|z
 ·rw [List.getElem?_append_left (by rw [hlen]; exact z),List.getElem?_map] at hv
  refine oEA (Option.map_eq_some_iff.mp hv) fun w w1 w2=> ?_;exact ⟨z,w1.trans (congrArg some (Option.some.inj w2))⟩
 ·rw [List.getElem?_append_right (by rw [hlen]; exact z)] at hv
  exact nomatch (List.mem_replicate.mp (List.mem_of_getElem? hv)).2
theorem param_at {vs defs:List PV} {xs Dv:List Value} {np nl i:Nat} {ps:List Arg} {xn:List Str} {x:Str} {v:PV} (e1:np≤vs.length+defs.length) (e2:vs.length≤np) (q:VRs G fz μ vs xs) (hd:DfOk G defs dV Dv) (h5:ps.length=np) (h6:ps.map (·.arg)=xn.take np)
  (hx:xn[i]? =some x) (hv:((vs++defs.drop (vs.length+defs.length-np)).map some++List.replicate (nl-np) none)[i]? =some (some v)):∃ val,(x,val)∈zvJ (ps.map (·.arg)) xs Dv∧VR G fz μ v val:=by
 have hi:=loc_at e1 e2 hv;have ha:All2 (VR G fz μ) (vs++defs.drop (vs.length+defs.length-np)) (xs++Dv.drop (xs.length+Dv.length-(ps.map (·.arg)).length)):=by
  rw [List.length_map,h5,← zE q,← yrA hd];exact yM q (zwB _ (df_vr hd))
 refine oEA (zfA ha i v hi.2) fun val w1 w2=> ?_;refine ⟨val,zip_mem (i:=i) ?_ w1,w2⟩;rw [h6,List.getElem?_take,if_pos hi.1];exact hx
theorem params_all {ps:List Arg} {scope:Scope} {xs Dv:List Value} (h:(ps.all fun p=>scope.names.lookup p.arg==some .local||scope.names.lookup p.arg==some .cell)=true):((zvJ (ps.map (·.arg)) xs Dv).all fun p=>scope.names.lookup p.1==some .local||scope.names.lookup p.1==some .cell)=true:=by
 rw [List.all_eq_true];intro y hy;have hm:y.1∈(zvJ (ps.map (·.arg)) xs Dv).map (·.1):=List.mem_map_of_mem hy;unfold zvJ at hm;rw [yfF] at hm;refine oEA (List.mem_map.mp (List.mem_of_mem_take hm)) fun p hp hpe=> ?_;have:=(List.all_eq_true.mp h) p hp;rw [hpe] at this;exact this
theorem scall_step {T:Tab} {N:NT} {fT:Addr} (HO:zoH G T N fT) (FO:∀ f fr,T.fns f=some fr→FnOk G N (G.fa f) fr) {n kc:Nat} (SC:zbF G (callN T n) kc):zbF G (callN T (n+1)) (kc+3):=by
 intro φ A R m vm ce fz μ loc H s f vs xs D NA sm B L q hF;rw [ylD] at hF ⊢;cases hfn:T.fns f with
 |none=>rw [hfn] at hF; exact hF.elim
 |some fr =>
  rw [hfn] at hF;dsimp only at hF ⊢;cases hen:wN fr vs with
  |none=>rw [hen] at hF; exact hF.elim
  |some loc' =>
   rw [hen] at hF;dsimp only at hF ⊢;refine oAA (enterL_some hen) fun e1 e2 o1_=> ?_; obtain rfl:=o1_;obtain ⟨oc,od,osl,name,qual,ps,ds,body,scope,dV,kV,doc,pm,an,cdv,ct,Dv,xn,tr,h1,h2,h3,h4,h5,h6,h7,h8,h9,h10,h11,h12,h13,h14,h15,h16,h17⟩:=FO f fr hfn;have hnames:(ps.map (·.arg)).Nodup:=by rw [h6]; exact h9.sublist (List.take_sublist _ _)
   refine yqD (loc':=((vs++fr.defs.drop (vs.length+fr.defs.length-fr.np)).map some++List.replicate (fr.nl-fr.np) none)) (fb:=evSs T (callN T n) fr.body) (xs:=xn) D HO.O NA sm B L h1 h2
    (df_bind (B.inK D HO.O) h3 hnames (by rw [h5,← zE q]; exact e2) (by rw [h5,← zE q,← yrA h3]; exact e1) h4) (params_all h10) h11 ?_ h9 h12 (fun i x v hx hv=>param_at e1 e2 q h3 h5 h6 hx hv) h13 h14 h15 hF fun φ' R' s₁ D' he hxs hc hef hR hns S hoc hF'=> ?_
   ·unfold zvJ
    rw [yfF];exact hnames.sublist (List.take_sublist _ _)
   ·exact zhC (HO.all SC) HO.RO fr.body ⟨xn,scope,false,tr⟩ φ' body ⟨hxs,by rw [he]; rfl,fun _=>hc,D'.mono (Nat.le_add_right _ 2),fun _=>D',fun ht=>by
     refine oEEA (h17 ht) fun c P k1 k2=> ?_;refine ⟨c,P,by rw [he]; exact k1,?_⟩;rw [he]; exact k2⟩ rfl h16 R' fz μ _ H s₁ S hF'
theorem scall_all (HO:zoH G T N fT) (FO:∀ f fr,T.fns f=some fr→FnOk G N (G.fa f) fr):∀ n,zbF G (callN T n) (3*n):=by
 intro l0
 induction l0 with
 |zero =>exact scall_zero
 |succ n ih =>exact scall_step HO FO (ih)
end
noncomputable def dfB:PV→Value→Bool
 | .none,.none=>true
 | .bool b,.bool b'=>b==b'
 | .int i,.int j _=>i==j
 |_,_=>false
noncomputable def dfBs:List PV→List Value→Bool
 |[],[]=>true
 |v::vs,x::xs=>dfB v x&&dfBs vs xs
 |_,_=>false
noncomputable def dfO (n:Nat) (defs:List PV) (o:Option Obj):Bool:=match o with
 |some ⟨_,_,.seq xs _,_⟩=>decide (xs.toList.length≤n)&&dfBs defs xs.toList
 |_=>false
noncomputable def defB (K:Frag) (defs:List PV) (dV:Value) (n:Nat):Bool:=match dV with
 | .none=>defs.isEmpty
 | .ref t=>dfO n defs (K.lookup t)
 |_=>false
noncomputable def trB (tabs:List (Addr×Addr×Str)) (cd:Value) (q:Str):Bool:=tabs.any fun t=>(cd== .ref t.1)&&(t.2.2==q++ ".<locals>." ++ "<lambda>")
noncomputable def fdB (N:NT) (tabs:List (Addr×Addr×Str)) (K:Frag) (fd:FuncData) (body:List Stmt) (fr:FnR) (xs:List Str):Bool :=
 decide (fd.globals=mainGlobals)&&fd.closure.isEmpty&&decide (fd.builtins=builtinsNs)&&fd.params.posonlyargs.isEmpty&&fd.params.vararg.isNone&&fd.params.kwonlyargs.isEmpty&&fd.params.kw_defaults.isEmpty&&fd.params.kwarg.isNone &&
  codeIn K fd.code fd.qualname&&defB K fr.defs fd.defaults fd.params.args.length&&decide (fd.params.args.length=fr.np)&&(fd.params.args.map (·.arg)==xs.take fr.np)&&decide (xs.length=fr.nl)&&decide (fr.np≤fr.nl)&&decide xs.Nodup &&
  (fd.params.args.all fun p=>fd.scope.names.lookup p.arg==some .local||fd.scope.names.lookup p.arg==some .cell)&&decide ((cellsFrom 0 fd.scope.names []).map (·.1)).Nodup&&xs.all (fun x=> !(fd.scope.names.lookup x==some .free)) &&
  !fd.scope.isCoroutine&& !fd.scope.isGenerator&&(fd.scope.kind== .function)&&mSs N ⟨xs,fd.scope,false,trB tabs fd.code fd.qualname⟩ fr.body body
noncomputable def bdB (N:NT) (tabs:List (Addr×Addr×Str)) (K:Frag) (fd:FuncData) (fr:FnR) (xs:List Str):Bool:=match fd.body with
 | .stmts body=>fdB N tabs K fd body fr xs
 |_=>false
noncomputable def foB (N:NT) (tabs:List (Addr×Addr×Str)) (K:Frag) (fr:FnR) (xs:List Str) (o:Option Obj):Bool:=match o with
 |some ⟨_,_,.func fd,_⟩=>bdB N tabs K fd fr xs
 |_=>false
noncomputable def fnB (N:NT) (tabs:List (Addr×Addr×Str)) (K:Frag) (f:Addr) (fr:FnR) (xs:List Str):Bool:=foB N tabs K fr xs (K.lookup f)
theorem dfB_el {M:PV→Value→Bool→Prop} (h0:∀ v x,M v x false) (hn:M .none .none true) (hb:∀ b b',M (.bool b) (.bool b') (b==b')) (hi:∀ i j t,M (.int i) (.int j t) (i==j)) (v:PV) (x:Value):M v x (dfB v x):=by
 cases v <;> first|exact h0 _ _|(cases x <;> first|exact h0 _ _|exact hn|exact hb _ _|exact hi _ _ _)
theorem dfB_ok {G:Gl} {fz:zB} {μ:Mu} {v:PV} {x:Value} (h:dfB v x=true):VR G fz μ v x :=
 dfB_el (M:=fun v x r=>r=true→VR G fz μ v x) (fun _ _ h=>Bool.noConfusion h) (fun _=>.none) (fun _ _ h=>beq_iff_eq.mp h▸ .bool _) (fun _ _ _ h=>beq_iff_eq.mp h▸ .int _ _) v x h
theorem dfBs_ok:∀ {xs:List Value},dfBs vs xs=true→VRs G fz μ vs xs:=by
 induction vs with
 |nil=>intro xs h; cases xs with
  |nil=>trivial
  |cons=>exact Bool.noConfusion h
 |cons v vs ih=>intro xs h; cases xs with
  |nil=>exact Bool.noConfusion h
  |cons x xs=>exact ⟨dfB_ok (a1 h),ih (a2 h)⟩
theorem seqO_el {n:Nat} {defs:List PV} {M:Option Obj→Bool→Prop} (h0:∀ o,M o false) (h1:∀ c d xs k l,M (some ⟨c,d,.seq xs k,l⟩) (decide (xs.toList.length≤n)&&dfBs defs xs.toList)) (o:Option Obj):M o (dfO n defs o):=by
 cases o with
 |none=>exact h0 _
 |some o =>
  obtain ⟨c,d,dt,l⟩:=o;cases dt <;> first|exact h0 _|exact h1 _ _ _ _ _
theorem defV_el {K:Frag} {n:Nat} {defs:List PV} {M:Value→Bool→Prop} (h0:∀ o,M o false) (h1:M .none defs.isEmpty) (h2:∀ t,M (.ref t) (dfO n defs (K.lookup t))) (o:Value):M o (defB K defs o n):=by
 cases o <;> first|exact h0 _|exact h1|exact h2 _
theorem ylA {G:Gl} {defs:List PV} {dV:Value} {n:Nat} (h:defB G.K defs dV n=true):∃ D,DfOk G defs dV D∧D.length≤n :=
 defV_el (K:=G.K) (n:=n) (defs:=defs) (M:=fun dV r=>r=true→∃ D,DfOk G defs dV D∧D.length≤n) (fun _ h=>Bool.noConfusion h) (fun h=>⟨[],.no (List.isEmpty_iff.mp h),Nat.zero_le _⟩)
  (fun t=>seqO_el (n:=n) (defs:=defs) (M:=fun o r=>G.K.lookup t=o→r=true→∃ D,DfOk G defs (.ref t) D∧D.length≤n) (fun _ _ h=>Bool.noConfusion h) (fun c d xs k l hl h=>⟨xs.toList,.yes (D:=xs.toList) hl (fun _ _=>dfBs_ok (a2 h)),of_decide_eq_true (a1 h)⟩) _ rfl) dV h
theorem trB_ok (h:trB tabs cd q=true):∃ c P,cd= .ref c∧(c,P,q++ ".<locals>." ++ "<lambda>")∈tabs:=by
 unfold trB at h;refine oEA (List.any_eq_true.mp h) fun t h1 h2=> ?_;simp only [Bool.and_eq_true,beq_iff_eq] at h2;refine ⟨t.1,t.2.1,h2.1,?_⟩;rw [← h2.2];exact h1
theorem foB_el {N:NT} {tabs:List (Addr×Addr×Str)} {K:Frag} {fr:FnR} {xs:List Str} {M:Option Obj→Bool→Prop} (h0:∀ o,M o false) (h1:∀ c d fd l,M (some ⟨c,d,.func fd,l⟩) (bdB N tabs K fd fr xs)) (o:Option Obj):M o (foB N tabs K fr xs o):=by
 cases o with
 |none=>exact h0 _
 |some o =>
  obtain ⟨c,d,dt,l⟩:=o;cases dt <;> first|exact h0 _|exact h1 _ _ _ _
theorem bdB_ex {K:Frag} (h:bdB N tabs K fd fr xs=true):∃ body,fd.body= .stmts body∧fdB N tabs K fd body fr xs=true:=by
 unfold bdB at h;cases e:fd.body with
 |stmts body=>rw [e] at h; exact ⟨body,rfl,h⟩
 |_=>rw [e] at h; exact Bool.noConfusion h
theorem fd_eq (hb:fd.body= .stmts body) (h1:fd.globals=mainGlobals) (h2:fd.closure=[]) (h3:fd.builtins=builtinsNs) (h4:fd.params.posonlyargs=[]) (h5:fd.params.vararg=none) (h6:fd.params.kwonlyargs=[]) (h7:fd.params.kw_defaults=[]) (h8:fd.params.kwarg=none) :
  fd=fnX fd.name fd.qualname ⟨[],fd.params.args,none,[],[],none,fd.params.defaults⟩ body fd.scope [] fd.defaults fd.kwdefaults fd.doc fd.pyModule fd.annotations fd.code fd.closureTuple:=by
 obtain ⟨name,qual,⟨pos,args,va,kwo,kwd,kwa,ds⟩,bd,scope,gl,cl,dV,kV,doc,pm,an,cdv,ct,bu⟩:=fd;cases hb; cases h1; cases h2; cases h3; cases h4; cases h5; cases h6; cases h7; cases h8
 rfl
theorem fnB_ok {G:Gl} {N:NT} {f:Addr} {fr:FnR} {xs:List Str} (h:fnB N G.tabs G.K f fr xs=true):FnOk G N f fr :=
 foB_el (N:=N) (tabs:=G.tabs) (K:=G.K) (fr:=fr) (xs:=xs) (M:=fun o r=>G.K.lookup f=o→r=true→FnOk G N f fr) (fun _ _ h=>Bool.noConfusion h) (fun oc od fd osl hl h=>by
  refine oEA (bdB_ex h) fun body hb h=> ?_;have hs:=fun h8=>a1 (a1 (a1 (a1 (a1 (a1 (a1 (a1 (a1 (a1 (a1 (a1 (a1 (a1 (h8:fdB N G.tabs G.K fd body fr xs=true))))))))))))));have g:=hs h;have e:=fd_eq hb (of_decide_eq_true (a1 (a1 (a1 (a1 (a1 (a1 (a1 g)))))))) (List.isEmpty_iff.mp (a2 (a1 (a1 (a1 (a1 (a1 (a1 g)))))))) (of_decide_eq_true (a2 (a1 (a1 (a1 (a1 (a1 g))))))) (List.isEmpty_iff.mp (a2 (a1 (a1 (a1 (a1 g)))))) (Option.isNone_iff_eq_none.mp (a2 (a1 (a1 (a1 g))))) (List.isEmpty_iff.mp (a2 (a1 (a1 g)))) (List.isEmpty_iff.mp (a2 (a1 g))) (Option.isNone_iff_eq_none.mp (a2 g));refine oEA (ylA (a2 (a1 (a1 (a1 (a1 (a1 (a1 (a1 (a1 (a1 (a1 (a1 (a1 h)))))))))))))) fun D k1 k2=> ?_;exact ⟨oc,od,osl,fd.name,fd.qualname,fd.params.args,fd.params.defaults,body,fd.scope,fd.defaults,fd.kwdefaults,fd.doc,fd.pyModule,fd.annotations,fd.code,fd.closureTuple,D,xs,_,e▸hl,(a2 (a1 (a1 (a1 (a1 (a1 (a1 (a1 (a1 (a1 (a1 (a1 (a1 (a1 h)))))))))))))),k1,k2,
   of_decide_eq_true (a2 (a1 (a1 (a1 (a1 (a1 (a1 (a1 (a1 (a1 (a1 (a1 h)))))))))))),beq_iff_eq.mp (a2 (a1 (a1 (a1 (a1 (a1 (a1 (a1 (a1 (a1 (a1 h))))))))))),of_decide_eq_true (a2 (a1 (a1 (a1 (a1 (a1 (a1 (a1 (a1 (a1 h)))))))))),of_decide_eq_true (a2 (a1 (a1 (a1 (a1 (a1 (a1 (a1 (a1 h))))))))),of_decide_eq_true (a2 (a1 (a1 (a1 (a1 (a1 (a1 (a1 h)))))))),
   a2 (a1 (a1 (a1 (a1 (a1 (a1 h)))))),of_decide_eq_true (a2 (a1 (a1 (a1 (a1 (a1 h)))))),fun x hx=>beq_eq_false_iff_ne.mp (Bool.not_eq_true' _ |>.mp ((List.all_eq_true.mp (a2 (a1 (a1 (a1 (a1 h)))))) x hx)),(Bool.not_eq_true' _).mp (a2 (a1 (a1 (a1 h)))),(Bool.not_eq_true' _).mp (a2 (a1 (a1 h))),beq_iff_eq.mp (a2 (a1 h)),a2 h,trB_ok⟩) _ rfl h
noncomputable def cvT (f:List Value→Bool) (o:Option Obj):Bool:=match o with
 |some ⟨.type t,od,.seq xs _,osl⟩=>(t== "tuple")&&od.isNone&&decide (osl.size=0)&&decide (xs.size≤SZ)&&f xs.toList
 |_=>false
mutual
noncomputable def cvB (K:Frag):PV→Value→Bool
 | .none,.none=>true
 | .bool b,.bool b'=>b==b'
 | .int i,.int j _=>i==j
 | .str l,.str y _=>(y.cps.toList==l)&&decide (y.cps.size≤SZ)
 | .bytes l,.bytes y _=>(y.toList.map UInt8.toNat==l)&&decide (y.size≤SZ)
 | .tup vs,.ref a=>cvT (cvBs K vs) (K.lookup a)
 |_,_=>false
noncomputable def cvBs (K:Frag):List PV→List Value→Bool
 |[],[]=>true
 |v::vs,x::xs=>cvB K v x&&cvBs K vs xs
 |_,_=>false
end
theorem cvT_el {f:List Value→Bool} {M:Option Obj→Bool→Prop} (h0:∀ o,M o false) (h1:∀ t d xs k l,M (some ⟨.type t,d,.seq xs k,l⟩) ((t== "tuple")&&d.isNone&&decide (l.size=0)&&decide (xs.size≤SZ)&&f xs.toList)) (o:Option Obj):M o (cvT f o):=by
 cases o with
 |none=>exact h0 _
 |some o =>
  obtain ⟨c,d,dt,l⟩:=o;cases c <;> first|exact h0 _|(cases dt <;> first|exact h0 _|exact h1 _ _ _ _ _)
theorem cvB_el {K:Frag} {M:PV→Value→Bool→Prop} (h0:∀ v x,M v x false) (hn:M .none .none true) (hb:∀ b b',M (.bool b) (.bool b') (b==b')) (hi:∀ i j t,M (.int i) (.int j t) (i==j)) (hs:∀ l y t,M (.str l) (.str y t) ((y.cps.toList==l)&&decide (y.cps.size≤SZ)))
  (hy:∀ l y t,M (.bytes l) (.bytes y t) ((y.toList.map UInt8.toNat==l)&&decide (y.size≤SZ))) (ht:∀ vs a,M (.tup vs) (.ref a) (cvT (cvBs K vs) (K.lookup a))) (v:PV) (x:Value):M v x (cvB K v x):=by
 cases v <;> first|exact h0 _ _|(cases x <;> first|exact h0 _ _|exact hn|exact hb _ _|exact hi _ _ _|exact hs _ _ _|exact hy _ _ _|exact ht _ _)
theorem cvB_ok {G:Gl} {fz:zB} {μ:Mu} (X:G.K.In G.base) (v:PV):∀ x:Value,cvB G.K v x=true→VR G fz μ v x :=
 zdE (M:=fun v=>∀ x:Value,cvB G.K v x=true→VR G fz μ v x) (N:=fun vs=>∀ xs,cvBs G.K vs xs=true→VRs G fz μ vs xs)
  (fun v ih x h=>cvB_el (K:=G.K) (M:=fun v x r=>ihT (fun vs=>∀ xs,cvBs G.K vs xs=true→VRs G fz μ vs xs) v→r=true→VR G fz μ v x) (fun _ _ _ h=>Bool.noConfusion h) (fun _ _=>.none) (fun _ _ _ h=>beq_iff_eq.mp h▸ .bool _) (fun _ _ _ _ h=>beq_iff_eq.mp h▸ .int _ _)
   (fun _ _ _ _ h=>zwJ (beq_iff_eq.mp (a1 h)) (of_decide_eq_true (a2 h))) (fun _ _ _ _ h=>zcC (beq_iff_eq.mp (a1 h)) (of_decide_eq_true (a2 h)))
   (fun vs a ih=>cvT_el (f:=cvBs G.K vs) (M:=fun o r=>G.K.lookup a=o→r=true→VR G fz μ (.tup vs) (.ref a)) (fun _ _ h=>Bool.noConfusion h) (fun t d xs k l hl h=>by
    rw [beq_iff_eq.mp (a1 (a1 (a1 (a1 h)))),Option.isNone_iff_eq_none.mp (a2 (a1 (a1 (a1 h)))),Array.size_eq_zero_iff.mp (of_decide_eq_true (a2 (a1 (a1 h))))] at hl;exact zwI (vals:=xs.toList) (n:=k) (.inl (X _ _ hl)) (of_decide_eq_true (a2 (a1 h))) (ih xs.toList (a2 h))) _ rfl) v x ih h)
  (fun xs h=>by
   cases xs with
   |nil=>trivial
   |cons=>exact Bool.noConfusion h)
  (fun v vs hv hs xs h=>by
   cases xs with
   |nil=>exact Bool.noConfusion h
   |cons x xs=>exact ⟨hv x (a1 h),hs xs (a2 h)⟩) v
noncomputable def nmF (K:Frag) (N:NT) (fa:Nat→Addr):Bool:=N.fn.all fun p=>nsIn K mainGlobals p.1==some (some (.ref (fa p.2)))
noncomputable def nmC (K:Frag) (N:NT) (ca:Nat→Addr):Bool:=N.cls.all fun p=>(nsIn K mainGlobals p.1==some (some (.ref (ca p.2))))&&keepIn K (.ref (ca p.2))
noncomputable def ngO (K:Frag) (v:Option PV) (x:Option (Option Value)):Bool:=match v with
 |none=>true
 |some v=>match x with
  |some (some x)=>cvB K v x
  |_=>false
noncomputable def nmG (K:Frag) (N:NT) (glo:Nat→Option PV):Bool:=N.glo.all fun p=>ngO K (glo p.2) (nsIn K mainGlobals p.1)
theorem ngO_ex {K:Frag} (h:ngO K (some v) x=true):∃ y,x=some (some y)∧cvB K v y=true:=by
 cases x with
 |none=>exact Bool.noConfusion h
 |some x=>cases x with
  |none=>exact Bool.noConfusion h
  |some y=>exact ⟨y,rfl,h⟩
noncomputable def nmB (K:Frag):Bool:=yeC.all fun x=>nsIn K mainGlobals x==some none
noncomputable def yiE (K:Frag) (N:NT) (glo:Nat→Option PV) (fa ca:Nat→Addr):Bool:=nmF K N fa&&nmC K N ca&&nmG K N glo&&nmB K
theorem zcF {β:Type} {b:β}:∀ {l:List (Str×β)},l.lookup y=some b→(y,b)∈l:=by
 intro l0
 induction l0 with
 |nil =>
  intro h;exact nomatch h
 |cons p_ r ih =>
  obtain ⟨z,c⟩:=p_;intro h;cases e:y==z with
  |true =>
   have h:some c=some b:=by rw [← h,List.lookup_cons,e]
   rw [beq_iff_eq.mp e,Option.some.inj h]; exact mQ
  |false =>
   have h:r.lookup y=some b:=by rw [← h,List.lookup_cons,e]
   exact mC _ (ih h)
theorem namesB_ok {G:Gl} {N:NT} {T:Tab} (X:G.K.In G.base) (h:yiE G.K N T.glo G.fa G.ca=true):(∀ y f,N.fn.lookup y=some f→nsIn G.K mainGlobals y=some (some (.ref (G.fa f)))) ∧
  (∀ y C,N.cls.lookup y=some C→nsIn G.K mainGlobals y=some (some (.ref (G.ca C)))∧keepIn G.K (.ref (G.ca C))=true) ∧
  (∀ y g v,N.glo.lookup y=some g→T.glo g=some v→∃ x,nsIn G.K mainGlobals y=some (some x)∧∀ fz μ,VR G fz μ v x)∧NOk G:=by
 refine ⟨fun y f e=>beq_iff_eq.mp ((List.all_eq_true.mp (a1 (a1 (a1 h)))) _ (zcF e)),fun y C e=> ?_,fun y g v e e2=> ?_,⟨fun x hx=>beq_iff_eq.mp ((List.all_eq_true.mp (a2 h)) _ hx)⟩⟩
 ·have:=(List.all_eq_true.mp (a2 (a1 (a1 h)))) _ (zcF e)
  exact ⟨beq_iff_eq.mp (a1 this),a2 this⟩
 ·have:ngO G.K (T.glo g) (nsIn G.K mainGlobals y)=true:=(List.all_eq_true.mp (a2 (a1 h))) _ (zcF e)
  rw [e2] at this;refine oEA (ngO_ex this) fun x k q=> ?_;exact ⟨x,k,fun fz μ=>cvB_ok X _ _ q⟩
noncomputable def ypF (K:Frag) (ca:Nat→Addr):Bool :=
 ygD.all (fun t=>(List.range 14).all fun D=>kitOne K (.type t) (.ref (ca D))==some false)&&ygD.all (fun t=>(List.range 4).all fun c=>kitOne K (.type t) (.type (tyN c))==some (subT t c)) &&
  (List.range 14).all (fun C=>decide (C<3)||((List.range 14).all (fun D=>kitOne K (.ref (ca C)) (.ref (ca D))==some (sub C D))&&(List.range 4).all (fun c=>kitOne K (.ref (ca C)) (.type (tyN c))==some false)&&clsOk K (ca C)))
theorem or3 (h:(a||b)=true) (n:a=false):b=true:=by rw [n] at h; exact h
theorem kindsB_ok (h:ypF G.K G.ca=true):IOk G:=by
 have hc:∀ C<14,3≤C→_:=fun C hC h3C=>or3 ((List.all_eq_true.mp (a2 h)) C (List.mem_range.mpr hC)) (decide_eq_false (Nat.not_lt_of_ge h3C));exact ⟨fun t ht D hD=>beq_iff_eq.mp ((List.all_eq_true.mp ((List.all_eq_true.mp (a1 (a1 h))) t ht)) D (List.mem_range.mpr hD)),
  fun t ht c hc=>beq_iff_eq.mp ((List.all_eq_true.mp ((List.all_eq_true.mp (a2 (a1 h))) t ht)) c (List.mem_range.mpr hc)),
  fun C hC D hD h3C=>beq_iff_eq.mp ((List.all_eq_true.mp (a1 (a1 (hc C hC h3C)))) D (List.mem_range.mpr hD)),fun C hC c hc' h3C=>beq_iff_eq.mp ((List.all_eq_true.mp (a2 (a1 (hc C hC h3C)))) c (List.mem_range.mpr hc')),fun C hC h3C=>a2 (hc C hC h3C)⟩
set_option tactic.hygienic true
noncomputable def x_0:List Str:=["self","top","places"]
noncomputable def x_1:List Str:=["octets","begun","top","numerals","places","code"]
noncomputable def x_2:List Str:=["self","text"]
noncomputable def x_3:List Str:=["self","octets","is_hex"]
noncomputable def x_4:List Str:=["self","number","generation"]
noncomputable def x_5:List Str:=["value"]
noncomputable def x_6:List Str:=["kind","value"]
noncomputable def x_7:List Str:=["value","kind","part","key"]
noncomputable def x_8:List Str:=["self","table","trailer"]
noncomputable def x_9:List Str:=["self","value","here","hop","generation","found"]
noncomputable def x_10:List Str:=["self","head","key"]
noncomputable def x_11:List Str:=["self","number","generation","value"]
noncomputable def x_12:List Str:=["self","number"]
noncomputable def x_13:List Str:=["self"]
noncomputable def x_14:List Str:=["self","found"]
noncomputable def x_15:List Str:=["self","rows","number"]
noncomputable def x_16:List Str:=["code"]
noncomputable def x_17:List Str:=["code"]
noncomputable def x_18:List Str:=["self","data","at","end"]
noncomputable def x_19:List Str:=["self"]
noncomputable def x_20:List Str:=["self","ahead","spot"]
noncomputable def x_21:List Str:=["self","code"]
noncomputable def x_22:List Str:=["self","word"]
noncomputable def x_23:List Str:=["self","word"]
noncomputable def x_24:List Str:=["self","code"]
noncomputable def x_25:List Str:=["self","first"]
noncomputable def x_26:List Str:=["self"]
noncomputable def x_27:List Str:=["code"]
noncomputable def x_28:List Str:=["code"]
noncomputable def x_29:List Str:=["octets","at","signs","place","code","high","low"]
noncomputable def x_30:List Str:=["cursor","first","code","taken"]
noncomputable def x_31:List Str:=["cursor","code"]
noncomputable def x_32:List Str:=["cursor","opening","codes","depth","code"]
noncomputable def x_33:List Str:=["cursor","opening","halves","code","worth","place"]
noncomputable def x_34:List Str:=["cursor","at","run","number"]
noncomputable def x_35:List Str:=["cursor","code","at"]
noncomputable def x_36:List Str:=["cursor","at","code"]
noncomputable def x_37:List Str:=["token","sign"]
noncomputable def x_38:List Str:=["self","mark"]
noncomputable def x_39:List Str:=["self"]
noncomputable def x_40:List Str:=["value"]
noncomputable def x_41:List Str:=["cursor","number","probe","generation"]
noncomputable def x_42:List Str:=["worth","at"]
noncomputable def x_43:List Str:=["cursor","token","lets_references","kind","worth","at"]
noncomputable def x_44:List Str:=["items","found","spot","key"]
noncomputable def x_45:List Str:=["frames","worth","at","opening","frame"]
noncomputable def x_46:List Str:=["cursor","token","lets_references","frames","kind","worth","at","is_opening","value"]
noncomputable def x_47:List Str:=["cursor"]
noncomputable def x_48:List Str:=["data","cursor","found"]
noncomputable def x_49:List Str:=["self","data","base","shelf"]
noncomputable def x_50:List Str:=["bench","shelf"]
noncomputable def x_51:List Str:=["bench","number"]
noncomputable def x_52:List Str:=["bench","number","generation","value","shelf"]
noncomputable def x_53:List Str:=["bench","number","shelf"]
noncomputable def x_54:List Str:=["bench","number","octets","parts","head","fresh","key"]
noncomputable def x_55:List Str:=["self"]
noncomputable def x_56:List Str:=["self","thing"]
noncomputable def x_57:List Str:=["self"]
noncomputable def x_58:List Str:=["self"]
noncomputable def x_59:List Str:=["model","rows","number","generation","worth","key"]
noncomputable def x_60:List Str:=["bench","model"]
noncomputable def x_62:List Str:=["model","number","one"]
noncomputable def x_63:List Str:=["model","number","key","worth","fresh","later","one"]
noncomputable def x_64:List Str:=["bench","model","number","rest","octets","key","spot","fresh","fault","due","number_told","worth"]
noncomputable def x_65:List Str:=["bench","model","number","rest","octets","is_syntax","fresh","fault","due"]
noncomputable def x_66:List Str:=["bench","model","way","rest","number","left","seen","fault","fresh","due"]
noncomputable def x_67:List Str:=["trail","way"]
noncomputable def x_68:List Str:=["script","model","table","trail","rows","spot","cell","due","way","rest","goal","is_right","fresh"]
noncomputable def fnN:List (Str×Nat):=[(("read_decimal" : Str),1),(("kind_of" : Str),5),(("told_plain" : Str),6),(("told" : Str),7),(("is_white" : Str),16),(("is_regular" : Str),17),(("hex_worth" : Str),27),(("plain_escape" : Str),28),(("name_text" : Str),29),(("octal" : Str),30),(("escaped_codes" : Str),31),(("literal" : Str),32),(("hex_string" : Str),33),(("run_token" : Str),34),(("delimited_token" : Str),35),(("next_token" : Str),36),(("is_sign" : Str),37),(("is_whole" : Str),40),(("take_reference" : Str),41),(("word_value" : Str),42),(("plain_value" : Str),43),(("dict_of" : Str),44),(("close_frame" : Str),45),(("object_from" : Str),46),(("read_object" : Str),47),(("read_values" : Str),48),(("bench_turned" : Str),50),(("object_of" : Str),51),(("bench_laid" : Str),52),(("bench_without" : Str),53),(("bench_set" : Str),54),(("_law_rows" : Str),59),(("_law_alike" : Str),60),(("_law_without" : Str),62),(("_law_with" : Str),63),(("_law_set" : Str),64),(("_law_odd_set" : Str),65),(("_law_deed" : Str),66),(("_law_stepped" : Str),67),(("law" : Str),68),(("told_objects" : Str),7)]
noncomputable def clsN:List (Str×Nat):=[(("PaperError" : Str),0),(("SyntaxFault" : Str),1),(("DeskFault" : Str),2),(("Decimal" : Str),3),(("Name" : Str),4),(("String" : Str),5),(("Stream" : Str),6),(("Reference" : Str),7),(("Lookup" : Str),8),(("Shelf" : Str),9),(("Cursor" : Str),10),(("Frame" : Str),11),(("Bench" : Str),12),(("Trail" : Str),13)]
noncomputable def gloN:List (Str×Nat):=[(("MOST_FIGURES_decimals" : Str),0),(("PLUS" : Str),1),(("MINUS" : Str),2),(("POINT" : Str),3),(("ZERO" : Str),4),(("MOST_HOPS" : Str),5),(("WHITE" : Str),6),(("DELIMITERS" : Str),7),(("LINE_FEED" : Str),8),(("RETURN" : Str),9),(("COMMENT" : Str),10),(("MOST_FIGURES_cursor" : Str),11),(("PAREN" : Str),12),(("CLOSE_PAREN" : Str),13),(("LESS" : Str),14),(("GREATER" : Str),15),(("SLASH" : Str),16),(("BACKSLASH" : Str),17),(("HASH" : Str),18),(("SIGNS" : Str),19),(("MOST_DEPTH" : Str),20),(("_law_worths" : Str),21),(("_law_keys" : Str),22),(("_law_odd" : Str),23)]
noncomputable def NN:NT:=⟨fnN,clsN,gloN⟩
set_option tactic.hygienic false
noncomputable def faL:List Nat:=[87,185,199,221,263,284,291,296,311,318,325,346,360,367,374,379,393,400,422,429,437,444,451,458,465,472,479,522,529,537,544,551,558,563,570,577,584,591,605,612,626,633,640,647,652,659,667,674,681,695,709,716,723,730,735,749,756,763,770,818,825,832,837,842,849,856,863,870,877]
noncomputable def faT (i:Nat):Addr:=faL.getD i 87
noncomputable def caL:List Nat:=[46,59,71,167,202,224,245,273,328,382,510,615,698,773]
noncomputable def caT (i:Nat):Addr:=caL.getD i 46
noncomputable def zhG:List (Addr×Addr×Str):=[(869,865,"_law_stepped.<locals>.<lambda>"),(855,851,"_law_odd_set.<locals>.<lambda>"),(848,844,"_law_set.<locals>.<lambda>"),(862,858,"_law_deed.<locals>.<lambda>")]
noncomputable def chk0:List ((Nat×Addr)×FnR×List Str):=[((0,87),f_0,x_0),((1,185),f_1,x_1),((2,199),f_2,x_2),((3,221),f_3,x_3),((4,263),f_4,x_4),((5,284),f_5,x_5),((6,291),f_6,x_6),((7,296),f_7,x_7),((8,311),f_8,x_8)]
noncomputable def chk1:List ((Nat×Addr)×FnR×List Str):=[((9,318),f_9,x_9),((10,325),f_10,x_10),((11,346),f_11,x_11),((12,360),f_12,x_12),((13,367),f_13,x_13),((14,374),f_14,x_14),((15,379),f_15,x_15),((16,393),f_16,x_16),((17,400),f_17,x_17)]
noncomputable def chk2:List ((Nat×Addr)×FnR×List Str):=[((18,422),f_18,x_18),((19,429),f_19,x_19),((20,437),f_20,x_20),((21,444),f_21,x_21),((22,451),f_22,x_22),((23,458),f_23,x_23),((24,465),f_24,x_24),((25,472),f_25,x_25),((26,479),f_26,x_26)]
noncomputable def chk3:List ((Nat×Addr)×FnR×List Str):=[((27,522),f_27,x_27),((28,529),f_28,x_28),((29,537),f_29,x_29),((30,544),f_30,x_30),((31,551),f_31,x_31),((32,558),f_32,x_32),((33,563),f_33,x_33),((34,570),f_34,x_34),((35,577),f_35,x_35)]
noncomputable def chk4:List ((Nat×Addr)×FnR×List Str):=[((36,584),f_36,x_36),((37,591),f_37,x_37),((38,605),f_38,x_38),((39,612),f_39,x_39),((40,626),f_40,x_40),((41,633),f_41,x_41),((42,640),f_42,x_42),((43,647),f_43,x_43),((44,652),f_44,x_44)]
noncomputable def chk5:List ((Nat×Addr)×FnR×List Str):=[((45,659),f_45,x_45),((46,667),f_46,x_46),((47,674),f_47,x_47),((48,681),f_48,x_48),((49,695),f_49,x_49),((50,709),f_50,x_50),((51,716),f_51,x_51),((52,723),f_52,x_52),((53,730),f_53,x_53)]
noncomputable def chk6:List ((Nat×Addr)×FnR×List Str):=[((54,735),f_54,x_54),((55,749),f_55,x_55),((56,756),f_56,x_56),((57,763),f_57,x_57),((58,770),f_58,x_58),((59,818),f_59,x_59),((60,825),f_60,x_60),((62,837),f_62,x_62),((63,842),f_63,x_63)]
noncomputable def chk7:List ((Nat×Addr)×FnR×List Str):=[((64,849),f_64,x_64),((65,856),f_65,x_65),((66,863),f_66,x_66),((67,870),f_67,x_67),((68,877),f_68,x_68)]
noncomputable def chkB (K:Frag) (l:List ((Nat×Addr)×FnR×List Str)):Bool:=l.all fun q=>fnB NN zhG K q.1.2 q.2.1 q.2.2
noncomputable def aF (K:Frag) (q:Nat×Nat):Bool:=ymJ K (caT q.1) (nm q.2)
noncomputable def mF (K:Frag) (q:(Nat×Nat)×Nat):Bool:=metOk K (caT q.1.1) (metN q.1.2) (faT q.2)
noncomputable def iF (K:Frag) (q:Nat×Nat):Bool:=iniOk K (caT q.1) (faT q.2)
noncomputable def obP (K:Frag) (f:Addr):Obj:=match K.lookup f with
 |some o=>o
 |none=>{cls:=.none}
noncomputable def fdP (K:Frag) (f:Addr):FuncData:=match (obP K f).data with
 | .func fd=>fd
 |_=>default
noncomputable def pTry:Arguments:=⟨[],[⟨"deed",none,⟨593,15,593,19⟩⟩],none,[],[],none,[]⟩
noncomputable def bTry:List Stmt:=zdD ⟨595,16,595,20⟩ ⟨595,16,595,22⟩ ⟨595,24,595,28⟩ ⟨595,15,595,29⟩ ⟨595,8,595,29⟩ ⟨596,11,596,21⟩ ⟨597,16,597,20⟩ ⟨597,22,597,27⟩ ⟨597,15,597,28⟩ ⟨597,8,597,28⟩ ⟨596,4,597,28⟩ ⟨594,4,597,28⟩ 0 0 0 0
noncomputable def scB (sc:Scope) (l:List (Str×NameKind)):Bool:= !sc.isCoroutine&& !sc.isGenerator&&(sc.kind== .function)&&sc.names.all (fun q=> !(q.2== .cell))&&l.all fun q=>sc.names.lookup q.1==some q.2
noncomputable def pInit (K:Frag):Arguments:=⟨[],[⟨"self",none,⟨7,17,7,21⟩⟩,⟨"what",none,⟨7,23,7,27⟩⟩,⟨"at",none,⟨7,29,7,31⟩⟩],none,[],[],none,(fdP K 36).params.defaults⟩
noncomputable def ydJ:List ((Nat×Addr)×FnR×List Str):=chk0++(chk1++(chk2++(chk3++(chk4++(chk5++(chk6++chk7))))))
structure Chk (K:Frag):Prop where
 c0:chkB K chk0=true
 c1:chkB K chk1=true
 c2:chkB K chk2=true
 c3:chkB K chk3=true
 c4:chkB K chk4=true
 c5:chkB K chk5=true
 c6:chkB K chk6=true
 c7:chkB K chk7=true
 kg_nf:nmF K NN faT=true
 kg_nc:nmC K NN caT=true
 kg_ng:nmG K NN gloT=true
 kg_nb:nmB K=true
 kg_kinds:ypF K caT=true
 kg_att:okL.all (aF K)=true
 kg_met:methL.all (mF K)=true
 kg_ini:initL.all (iF K)=true
 kg_keep:faL.all (fun f=>keepIn K (.ref f))=true
 kg_exc:(ykE K (caT 1) 46 36&&ykE K (caT 2) 46 36)=true
 kg_try:K.lookup 832=some ⟨(obP K 832).cls,(obP K 832).dict,.func (fnX (fdP K 832).name (fdP K 832).qualname pTry bTry (fdP K 832).scope []
  .none (fdP K 832).kwdefaults (fdP K 832).doc (fdP K 832).pyModule (fdP K 832).annotations (fdP K 832).code (fdP K 832).closureTuple),(obP K 832).slots⟩
 kg_tryS:(scB (fdP K 832).scope [("deed",.local),("fault",.local),("PaperError",.globalImplicit)]&&codeIn K (fdP K 832).code (fdP K 832).qualname)=true
 kg_tryN:((nsIn K mainGlobals "PaperError" ==some (some (.ref (caT 0))))&&(nsIn K mainGlobals "_law_tried" ==some (some (.ref 832)))&&(nsIn K mainGlobals "Exception" ==some none)&&keepIn K (.ref 832) &&
  (exmOne K (.ref (caT 0)) (.ref (caT 0))==some true)&&(exmOne K (.ref (caT 1)) (.ref (caT 0))==some true)&&(exmOne K (.ref (caT 2)) (.ref (caT 0))==some true))=true
 kg_init:K.lookup 36=some ⟨(obP K 36).cls,(obP K 36).dict,.func (fnX (fdP K 36).name (fdP K 36).qualname (pInit K) wF (fdP K 36).scope []
  (fdP K 36).defaults (fdP K 36).kwdefaults (fdP K 36).doc (fdP K 36).pyModule (fdP K 36).annotations (fdP K 36).code (fdP K 36).closureTuple),(obP K 36).slots⟩
 kg_initS:(scB (fdP K 36).scope [("self",.local),("what",.local),("at",.local),("Exception",.globalImplicit)]&&codeIn K (fdP K 36).code (fdP K 36).qualname&&defB K [.int (-1)] (fdP K 36).defaults 3)=true
theorem yoC (h:scB sc l=true):sc.isCoroutine=false∧sc.isGenerator=false∧sc.kind= .function∧(∀ p∈sc.names,p.2≠ .cell)∧∀ q∈l,sc.names.lookup q.1=some q.2:=by
 unfold scB at h;simp only [Bool.and_eq_true,Bool.not_eq_true',beq_iff_eq] at h;obtain ⟨⟨⟨⟨h1,h2⟩,h3⟩,h4⟩,h5⟩:=h;refine ⟨h1,h2,h3,fun p hp e=> ?_,fun q hq=>beq_iff_eq.mp ((List.all_eq_true.mp h5) q hq)⟩;have:=(List.all_eq_true.mp h4) p hp;rw [e] at this;cases this
theorem try_ok {K:Frag} (ck:Chk K) (hK:G.K=K) (hc:G.ca=caT):ynA G 832:=by
 have k1:=yoC (by have:=ck.kg_tryS; simp only [Bool.and_eq_true] at this; exact this.1);have k2:codeIn K (fdP K 832).code (fdP K 832).qualname=true:=by have:=ck.kg_tryS; simp only [Bool.and_eq_true] at this; exact this.2
 have k3:=ck.kg_tryN;simp only [Bool.and_eq_true,beq_iff_eq] at k3;obtain ⟨⟨⟨⟨⟨⟨n1,n2⟩,n3⟩,n4⟩,n5⟩,n6⟩,n7⟩:=k3;refine zxH k1 fun s1 s2 s3 s4 s5=> ?_; (try clear k1);refine ⟨⟨_,_,_,_,_,_,_,_,_,_,_,_,_,_,_,_,_,_,_,_,_,_,_,_,_,_,_,_,_,_,(congrArg (fun K=>K.lookup 832) hK).trans (ck.kg_try),by rw [hK]; exact k2,fun s v X=> ?_,s4,s1,s2,s3,s5 ("deed",.local) (by simp),s5 ("fault",.local) (by simp),s5 ("PaperError",.globalImplicit) (by simp)⟩,by rw [hK,hc]; exact n1,fun C hC=> ?_,by rw [hK]; exact n4,by rw [hK]; exact n2⟩
 ·intro M A E Q hQ
  exact ziH (D:=[]) (o:=none) (ps:=[⟨"deed",none,⟨593,15,593,19⟩⟩]) (ds:=[]) rfl (by decide) (by simp) (by simp) rfl (by simp) (fun Q' h=>yaI h) hQ
 ·rw [hK,hc]
  unfold sub at hC;simp only [Bool.or_eq_true,Bool.and_eq_true,beq_iff_eq] at hC
  rcases hC with (h|⟨_,h|h⟩)|⟨h,_⟩
  ·subst h; exact n5
  ·subst h; exact n6
  ·subst h; exact n7
  ·cases h
theorem df_len (h:DfOk G defs dV D):defs.length=D.length:=by
 cases h with
 |no h=>rw [h]; rfl
 |yes _ h=>exact zE (h [] [])
theorem init_ok {K:Frag} (ck:Chk K) (hK:G.K=K):zwE G 36:=by
 have k:=ck.kg_initS;simp only [Bool.and_eq_true] at k;obtain ⟨⟨k1,k2⟩,k4⟩:=k;refine zxH (yoC k1) fun s1 s2 s3 s4 s5=> ?_;have k3:=ck.kg_tryN;simp only [Bool.and_eq_true,beq_iff_eq] at k3;obtain ⟨⟨⟨⟨⟨⟨n1,n2⟩,n3⟩,n4⟩,n5⟩,n6⟩,n7⟩:=k3;refine oEA (ylA (G:=G) (by rw [hK]; exact k4)) fun D d1 d2=> ?_;have dl:D.length=1:=(df_len d1).symm;obtain ⟨d,rfl⟩:=List.length_eq_one_iff.mp dl;have hnd:(((pInit K).args).map (·.arg)).Nodup:=by
  show ([("self" : Str),"what","at"]).Nodup
  decide
 have hbind:∀ (s:Shared) (vals:List Value),G.K.In s.heap→vals.length=2∨vals.length=3→BindsTo s (fnX (fdP K 36).name (fdP K 36).qualname (pInit K) wF (fdP K 36).scope []
  (fdP K 36).defaults (fdP K 36).kwdefaults (fdP K 36).doc (fdP K 36).pyModule (fdP K 36).annotations (fdP K 36).code (fdP K 36).closureTuple) ⟨vals,[]⟩ (zvJ ["self","what","at"] vals [d]):=by
  intro s vals X hl M A E Q hQ;generalize hdv:(fdP K 36).defaults=dV at d1 ⊢;cases d1 with
  |yes ht h =>
   have ho:=X _ _ ht;exact ziH (D:=[d]) (o:=some #[d]) (ps:=[⟨"self",none,⟨7,17,7,21⟩⟩,⟨"what",none,⟨7,23,7,27⟩⟩,⟨"at",none,⟨7,29,7,31⟩⟩]) rfl hnd (by rcases hl with h|h <;> simp [h]) (by rcases hl with h|h <;> simp [h]) rfl (by simp) (fun Q' h=>yhB ho rfl h) hQ
 refine ⟨⟨_,_,_,_,_,_,_,_,_,_,_,_,_,_,(congrArg (fun K=>K.lookup 36) hK).trans (ck.kg_init),by rw [hK]; exact k2,s1,s2,s3,s5 ("self",.local) (by simp),s5 ("what",.local) (by simp),s5 ("at",.local) (by simp),s5 ("Exception",.globalImplicit) (by simp),fun s e x y X=> ?_,fun s e x X=>⟨d,?_⟩⟩,by rw [hK]; exact n3⟩
 ·exact hbind s [.ref e,x,y] X (.inr rfl)
 ·exact hbind s [.ref e,x] X (.inl rfl)
theorem xY {α:Type} {l:List α} {f:α→Bool} (h:l.all f=true) {a:α} (ha:a∈l):f a=true:=(List.all_eq_true.mp h) a ha
theorem zkG {κ β:Type} [BEq κ] [LawfulBEq κ] {l:List (κ×β)} {y:κ} {b:β} (h:l.lookup y=some b):(y,b)∈l:=by
 induction l with
 |nil=>cases h
 |cons p r ih =>
  obtain ⟨z,c⟩:=p;rw [List.lookup_cons] at h
  split at h
  ·rename_i e
   cases h;rw [eq_of_beq e]; exact mQ
  ·exact mC _ (ih h)
theorem getD_all:∀ {l:List Addr} {i:Nat},l.all f=true→f d=true→f (l.getD i d)=true:=by
 intro l0
 induction l0 with
 |nil =>
  intro _ _ h
  simpa using h
 |cons a r ih =>
  intro l1;cases l1 with
  |zero =>
   intro h _;simp only [List.all_cons,Bool.and_eq_true] at h; simpa using h.1
  |succ i =>
   intro h h2;simp only [List.all_cons,Bool.and_eq_true] at h; simpa using ih (i:=i) h.2 h2
theorem heap_ok {K:Frag} (ck:Chk K) (O:GOk G) (hK:G.K=K) (hf:G.fa=faT) (hc:G.ca=caT):zoH G TT NN 832:=by
 refine oAAA (namesB_ok (G:=G) (N:=NN) (T:=TT) O.X (by rw [hK,hf,hc]; exact (by show yiE K NN gloT faT caT=true; unfold yiE; rw [ck.kg_nf,ck.kg_nc,ck.kg_ng,ck.kg_nb]; rfl))) fun m1 m2 m3 m4=> ?_;have ke:=ck.kg_exc;simp only [Bool.and_eq_true] at ke;refine ⟨O,⟨fun C k h=> ?_,fun C k f h=> ?_,fun C f h=> ?_⟩,kindsB_ok (by rw [hK,hc]; exact ck.kg_kinds),m4,fun f=> ?_,try_ok ck hK hc,m1,m2,m3,36,init_ok ck hK,fun C h=>⟨46,?_⟩⟩
 ·rw [hK,hc]
  have q:aF K (C,k)=true:=xY (ck.kg_att) (List.contains_iff_mem.mp h);exact q
 ·rw [hK,hc,hf]
  have h':methL.lookup (C,k)=some f:=h;have q:mF K ((C,k),f)=true:=xY (ck.kg_met) (zkG h');exact q
 ·rw [hK,hc,hf]
  have h':initL.lookup C=some f:=h;have q:iF K (C,f)=true:=xY (ck.kg_ini) (zkG h');exact q
 ·rw [hK,hf]; exact getD_all (ck.kg_keep) (xY (ck.kg_keep) (a:=87) (by simp [faL]))
 ·rw [hK,hc]
  rcases h with rfl|rfl
  ·exact ke.1
  ·exact ke.2
theorem chk_fa:ydJ.all (fun q=>faT q.1.1==q.1.2)=true:=by kernel_rfl
theorem chk_map:fnL=ydJ.map fun q=>(q.1.1,q.2.1):=by kernel_rfl
theorem chk_all {K:Frag} (ck:Chk K):∀ q∈ydJ,fnB NN zhG K q.1.2 q.2.1 q.2.2=true:=by
 intro q hq;unfold ydJ at hq
 rcases mP hq with h|hq
 ·exact xY ck.c0 h
 rcases mP hq with h|hq
 ·exact xY ck.c1 h
 rcases mP hq with h|hq
 ·exact xY ck.c2 h
 rcases mP hq with h|hq
 ·exact xY ck.c3 h
 rcases mP hq with h|hq
 ·exact xY ck.c4 h
 rcases mP hq with h|hq
 ·exact xY ck.c5 h
 rcases mP hq with h|hq
 ·exact xY ck.c6 h
 ·exact xY ck.c7 hq
theorem fns_ok {K:Frag} (ck:Chk K) (hK:G.K=K) (ht:G.tabs=zhG) (hf:G.fa=faT):∀ f fr,TT.fns f=some fr→FnOk G NN (G.fa f) fr:=by
 intro f fr h;have h':fnL.lookup f=some fr:=h;have hm:=zkG h';rw [chk_map] at hm;refine oEA (List.mem_map.mp hm) fun q hq e=> ?_;have e1:q.1.1=f:=congrArg Prod.fst e;have e2:q.2.1=fr:=congrArg Prod.snd e;have hfa:faT q.1.1=q.1.2:=beq_iff_eq.mp (xY chk_fa hq);rw [hf,← e1,hfa,← e2];exact fnB_ok (xs:=q.2.2) (by rw [ht,hK]; exact chk_all ck q hq)
end Mine
end
section
namespace Mine
section
variable {α β:Type} {r:Rs α} {K:α→Hp→Rs β} {R:Rs β} {v:α} {H H1:Hp} {C:Nat} {o:Option α}
theorem bnd (h:r= .ok v H) (k:K v H=R):r.bind K=R:=h▸k
theorem bnx (h:r= .exc C H):r.bind K= .exc C H:=h▸rfl
theorem ob (h:o=some v):zC o H= .ok v H:=h▸rfl
theorem omp {f:α→β} (h:o=some v):o.map f=some (f v):=h▸rfl
theorem obd {f:α→Option β} {q:Option β} (h:o=some v) (k:f v=q):o.bind f=q:=h▸k
theorem kiT {f g:Hp→Rs β} {b:Bool} (h:b=true) (k:f H=R):kIf f g b H=R:=h▸k
theorem kiF {f g:Hp→Rs β} {b:Bool} (h:b=false) (k:g H=R):kIf f g b H=R:=h▸k
theorem ifT {c:Prop} [Decidable c] {a b q:α} (h:c) (k:a=q):(if c then a else b)=q:=(if_pos h).trans k
theorem ifF {c:Prop} [Decidable c] {a b q:α} (h:¬ c) (k:b=q):(if c then a else b)=q:=(if_neg h).trans k
theorem dcT {c:Prop} [Decidable c] (h:c):decide c=true:=decide_eq_true h
theorem dcF {c:Prop} [Decidable c] (h:¬ c):decide c=false:=decide_eq_false h
theorem dnT {c:Prop} [Decidable c] (h:¬ c):(!decide c)=true:=by rw [decide_eq_false h]; rfl
theorem dnF {c:Prop} [Decidable c] (h:c):(!decide c)=false:=by rw [decide_eq_true h]; rfl
theorem ktO {r:Rs PV} {v:PV} (h:r= .ok v H):kT r= .ok (.tup [v,.none]) H:=h▸rfl
theorem ktX {r:Rs PV} (h:r= .exc C H) (s:sub C 0=true):kT r= .ok (.tup [.none,.exc C]) H:=h▸if_pos s
end
noncomputable def jS (T:Tab) (c:Call) (a ss:Ss) (loc:Loc) (H:Hp):Rs Fl:=(evSs T c a loc H).bind (kN (evSs T c ss))
section
variable {T:Tab} {c:Call} {loc loc2:Loc} {R:Rs PV} {Q:Rs Fl} {v w x y:PV} {vs:List PV} {H H1 H2 H3 H4:Hp} {q q2:Bool} {e e2 a b d:E} {es:Es} {ss sa sb:Ss} {s:S} {n C f op op2 i k:Nat} {is:List Nat} {po:PO}
theorem xg2 {g:Hp→Rs PV} {p:PV→Hp→Bool} {z:PV→KZ} (hp:zV (p v H) H= .ok () H) (h:g H= .ok w H1) (k:kZ (z v) w H1=R):kX (.gtwo p g z) v H=R:=bnd hp (bnd h k)
theorem xg3 {g g2:Hp→Rs PV} {p:PV→Hp→Bool} {z:PV→PV→KZ} (hp:zV (p v H) H= .ok () H) (h:g H= .ok w H1) (h2:g2 H1= .ok x H2) (k:kZ (z v w) x H2=R):kX (.gthree p g g2 z) v H=R:=bnd hp (bnd h (bnd h2 k))
theorem eat (h:evE T c e loc H= .ok v H1) (k:zaE v n H1=some x):evE T c (.attr e n) loc H= .ok x H1:=bnd h (ob k)
theorem eix (h:evE T c a loc H= .ok v H1) (h2:evE T c b loc H1= .ok w H2) (k:idxV v w H2=some x):evE T c (.idx a b) loc H= .ok x H2:=bnd h (bnd h2 (ob k))
theorem esl (h:evE T c a loc H= .ok v H1) (h2:evE T c b loc H1= .ok w H2) (h3:evE T c d loc H2= .ok x H3) (k:slcV v w x=some y):evE T c (.slc a b d) loc H= .ok y H3:=bnd h (bnd h2 (bnd h3 (ob k)))
theorem ebn (h:evE T c a loc H= .ok v H1) (h2:evE T c b loc H1= .ok w H2) (k:binV op v w=some x):evE T c (.bin op a b) loc H= .ok x H2:=bnd h (bnd h2 (ob k))
theorem ecm (h:evE T c a loc H= .ok v H1) (h2:evE T c b loc H1= .ok w H2) (k:cmpV op v w H2=some q):evE T c (.cmp op a b) loc H= .ok (.bool q) H2:=bnd h (bnd h2 (ob (omp k)))
theorem eis (h:evE T c a loc H= .ok v H1) (h2:evE T c b loc H1= .ok w H2) (k:zuH v w H2=some q):evE T c (.isin a b) loc H= .ok (.bool q) H2:=bnd h (bnd h2 (ob (omp k)))
theorem ech (h:evE T c a loc H= .ok v H1) (h2:evE T c b loc H1= .ok w H2) (k:cmpV op v w H2=some q) (k2:kIf (kB (evE T c d loc) (kZ (.cmp op2 w))) (.ok (.bool false)) q H2=R):evE T c (.chain op op2 a b d) loc H=R:=bnd h (bnd h2 (bnd (ob k) k2))
theorem ent (h:evE T c a loc H= .ok (.bool q) H1):evE T c (.not a) loc H= .ok (.bool (!q)) H1:=bnd h rfl
theorem ebi (h:evE T c a loc H= .ok v H1) (k:biV n v H1=some x):evE T c (.bi n a) loc H= .ok x H1:=bnd h (ob k)
theorem edi (h:evE T c a loc H= .ok v H1) (k:dicV q v=some po):evE T c (.dic q a) loc H= .ok (.ref H1.length) (H1++[po]):=bnd h (bnd (ob k) rfl)
theorem efz (h:evE T c a loc H= .ok v H1) (k:frzV v H1=some (x,H2)):evE T c (.frz a) loc H= .ok x H2:=bnd h (congrArg fzZ k)
theorem eif (h:evE T c d loc H= .ok (.bool q) H1) (k:kIf (evE T c a loc) (evE T c b loc) q H1=R):evE T c (.ife d a b) loc H=R:=bnd h k
theorem ean (k:zlE T c es loc H=R):evE T c (.and es) loc H=R:=k
theorem eor (k:evOr T c es loc H=R):evE T c (.or es) loc H=R:=k
theorem ean1 (k:evE T c e loc H=R):zlE T c (.cons e .nil) loc H=R:=k
theorem eor1 (k:evE T c e loc H=R):evOr T c (.cons e .nil) loc H=R:=k
theorem ean2 (h:evE T c e loc H= .ok (.bool q) H1) (k:kIf (zlE T c (.cons e2 es) loc) (.ok (.bool false)) q H1=R):zlE T c (.cons e (.cons e2 es)) loc H=R:=bnd h k
theorem eor2 (h:evE T c e loc H= .ok (.bool q) H1) (k:kIf (.ok (.bool true)) (evOr T c (.cons e2 es) loc) q H1=R):evOr T c (.cons e (.cons e2 es)) loc H=R:=bnd h k
theorem ees (h:evE T c e loc H= .ok v H1) (k:evEs T c es loc H1= .ok vs H2):evEs T c (.cons e es) loc H= .ok (v::vs) H2:=bnd h (bnd k rfl)
theorem etu (h:evEs T c es loc H= .ok vs H1) (k:vs.length≤SZ):evE T c (.tup es) loc H= .ok (.tup vs) H1:=bnd h (if_pos k)
theorem els (h:evEs T c es loc H= .ok (v::vs) H1) (k:(v::vs).length≤SZ):evE T c (.lst es) loc H= .ok (.lst (v::vs)) H1:=bnd h (if_pos k)
theorem ecC (h:evEs T c es loc H= .ok vs H1) (k:closedCall c f vs H1=R):evE T c (.callC f es) loc H=R:=bnd h k
theorem ecO (h:evEs T c es loc H= .ok vs H1) (k:c f vs H1=R):evE T c (.callO f es) loc H=R:=bnd h k
theorem emC (h:evE T c a loc H= .ok v H1) (hc:clsV v H1=some C) (hm:T.meth C n=some f) (h2:evEs T c es loc H1= .ok vs H2) (k:closedCall c f (v::vs) H2=R):evE T c (.methC n a es) loc H=R:=bnd h (bnd (ob (obd hc hm)) (bnd h2 k))
theorem emO (h:evE T c a loc H= .ok v H1) (hc:clsV v H1=some C) (hm:T.meth C n=some f) (h2:evEs T c es loc H1= .ok vs H2) (k:c f (v::vs) H2=R):evE T c (.methO n a es) loc H=R:=bnd h (bnd (ob (obd hc hm)) (bnd h2 k))
theorem enw (h:evEs T c es loc H= .ok vs H1) (hi:T.init C=some f) (k:c f (.ref H1.length::vs) (H1++[.att C [] []])= .ok .none H2):evE T c (.new C es) loc H= .ok (.ref H1.length) H2:=bnd h ((congrArg (fun o=>nwZ c C vs o H1) hi).trans (bnd k rfl))
theorem eap (h:evE T c a loc H= .ok v H1) (g:zV (isL v H1) H1= .ok () H1) (h2:evE T c b loc H1= .ok w H2) (k:kZ (.append v) w H2=R):evE T c (.append a b) loc H=R:=bnd h (bnd g (bnd h2 k))
theorem epo (h:evE T c a loc H= .ok v H1) (k:kZ .pop v H1=R):evE T c (.pop a) loc H=R:=bnd h k
theorem edg {kt:List (List Nat)} {l:List Nat} (h:evE T c a loc H= .ok (.dicS kt vs) H1) (h2:evE T c b loc H1= .ok (.str l) H2) (k:zS kt vs l=some x):evE T c (.dget a b) loc H= .ok x H2:=bnd h (xg2 rfl h2 (congrArg (fun o:Option PV=>Rs.ok (o.getD .none) H2) k))
theorem edh {ki:List Int} {m:Int} (h:evE T c a loc H= .ok (.dicI ki vs) H1) (h2:evE T c b loc H1= .ok (.int m) H2) (h3:evE T c d loc H2= .ok y H3) (k:zS ki vs m=some x):evE T c (.dget2 a b d) loc H= .ok x H3:=bnd h (xg3 rfl h2 h3 (congrArg (fun o:Option PV=>Rs.ok (o.getD y) H3) k))
theorem edhN {ki:List Int} {m:Int} (h:evE T c a loc H= .ok (.dicI ki vs) H1) (h2:evE T c b loc H1= .ok (.int m) H2) (h3:evE T c d loc H2= .ok y H3) (k:zS ki vs m=none):evE T c (.dget2 a b d) loc H= .ok y H3:=bnd h (xg3 rfl h2 h3 (congrArg (fun o:Option PV=>Rs.ok (o.getD y) H3) k))
theorem edp (h:evE T c a loc H= .ok v H1) (g:zV (isD v H1) H1= .ok () H1) (h2:evE T c b loc H1= .ok w H2) (k:kZ (.dpop v) w H2=R):evE T c (.dpop a b) loc H=R:=bnd h (bnd g (bnd h2 k))
theorem een {l:List Nat} (h:evE T c a loc H= .ok (.str l) H1) (h2:evE T c b loc H1= .ok w H2) (k:enZ (.str l) w H2=R):evE T c (.enc a b) loc H=R:=bnd h (xg2 rfl h2 k)
theorem erp (h:evE T c a loc H= .ok v H1) (g:(okR v&&decide (szR v≤SZ)&&decide (zX v≤20))=true) (h2:evE T c b loc H1= .ok w H2) (k:wO v w=true):evE T c (.reprEq a b) loc H= .ok (.bool true) H2:=bnd h (xg2 (congrArg (zV · H1) g) h2 (if_pos k))
theorem etO (h:evE T c a loc H= .ok v H1):evE T c (.tried a) loc H= .ok (.tup [v,.none]) H1:=congrArg kT h
theorem etX (h:evE T c a loc H= .exc C H1) (k:sub C 0=true):evE T c (.tried a) loc H= .ok (.tup [.none,.exc C]) H1:=(congrArg kT h).trans (if_pos k)
theorem sas (h:evE T c e loc H= .ok v H1) (k:evSs T c ss (zF loc i (some v)) H1=Q):evSs T c (.cons (.asg i e) ss) loc H=Q:=bnd (bnd h rfl) k
theorem saT (h:evE T c e loc H= .ok (.tup vs) H1) (hl:zZ is vs loc=some loc2) (k:evSs T c ss loc2 H1=Q):evSs T c (.cons (.asgT is e) ss) loc H=Q:=bnd (bnd h (ob (omp hl))) k
theorem saA (h:evE T c e loc H= .ok v H1) (h2:evE T c a loc H1= .ok w H2) (h3:saV n v loc w H2= .ok (.next loc) H3) (k:evSs T c ss loc H3=Q):evSs T c (.cons (.asgA a n e) ss) loc H=Q:=bnd (bnd h (bnd h2 h3)) k
theorem saI (h:evE T c e loc H= .ok v H1) (h2:evE T c a loc H1= .ok w H2) (h3:evE T c b loc H2= .ok x H3) (h4:siV v w loc x H3= .ok (.next loc) H4) (k:evSs T c ss loc H4=Q):evSs T c (.cons (.asgI a b e) ss) loc H=Q:=bnd (bnd h (bnd h2 (bnd h3 h4))) k
theorem sex (h:evE T c e loc H= .ok v H1) (k:evSs T c ss loc H1=Q):evSs T c (.cons (.expr e) ss) loc H=Q:=bnd (bnd h rfl) k
theorem sre (h:evE T c e loc H= .ok v H1):evSs T c (.cons (.ret e) ss) loc H= .ok (.ret v) H1:=bnd (bnd h rfl) rfl
theorem sra (h:evEs T c es loc H= .ok vs H1):evSs T c (.cons (.raise C es) ss) loc H= .exc C H1:=bnx (bnd h rfl)
theorem sfz (h:kFz i loc loc[i]? H= .ok (.next loc2) H1) (k:evSs T c ss loc2 H1=Q):evSs T c (.cons (.frz i) ss) loc H=Q:=bnd h k
theorem sif (h:evE T c e loc H= .ok (.bool q) H1) (k:kIf (jS T c sa ss loc) (jS T c sb ss loc) q H1=Q):evSs T c (.cons (.if_ e sa sb) ss) loc H=Q:=by
 subst k;show ((evE T c e loc H).bind (kW (evSs T c sa loc) (evSs T c sb loc))).bind (kN (evSs T c ss))=_;rw [h];cases q <;> rfl
theorem sfo (h:evE T c e loc H= .ok v H1) (hi:yS v=some vs) (k:z4 i (evSs T c sa) vs loc H1=Q):evS T c (.for_ i e sa) loc H=Q:=bnd h (bnd (ob hi) k)
theorem sst (h:evS T c s loc H= .ok (.next loc2) H1) (k:evSs T c ss loc2 H1=Q):evSs T c (.cons s ss) loc H=Q:=bnd h k
theorem srt (h:evS T c s loc H= .ok (.ret v) H1):evSs T c (.cons s ss) loc H= .ok (.ret v) H1:=bnd h rfl
theorem sxc (h:evS T c s loc H= .exc C H1):evSs T c (.cons s ss) loc H= .exc C H1:=bnx h
theorem sxE (h:evE T c e loc H= .exc C H1):evS T c (.expr e) loc H= .exc C H1∧evS T c (.ret e) loc H= .exc C H1∧evS T c (.asg i e) loc H= .exc C H1:=⟨bnx h,bnx h,bnx h⟩
theorem jnx (k:evSs T c ss loc H=Q):jS T c .nil ss loc H=Q:=k
theorem jre (h:evE T c e loc H= .ok v H1):jS T c (.cons (.ret e) sa) ss loc H= .ok (.ret v) H1:=bnd (sre h) rfl
theorem jra (h:evEs T c es loc H= .ok vs H1):jS T c (.cons (.raise C es) sa) ss loc H= .exc C H1:=bnx (sra h)
theorem jgo (h:evSs T c sa loc H= .ok (.next loc2) H1) (k:evSs T c ss loc2 H1=Q):jS T c sa ss loc H=Q:=bnd h k
theorem jrt (h:evSs T c sa loc H= .ok (.ret v) H1):jS T c sa ss loc H= .ok (.ret v) H1:=bnd h rfl
theorem jxc (h:evSs T c sa loc H= .exc C H1):jS T c sa ss loc H= .exc C H1:=bnx h
theorem xkb {α β:Type} {g:Hp→Rs α} {k:α→Hp→Rs β} {v:α} {R:Rs β} (h:g H= .ok v H1) (k':k v H1=R):kB g k H=R:=bnd h k'
theorem xkw {f f2:Hp→Rs Fl} (k:kIf f f2 q H=Q):kW f f2 (.bool q) H=Q:=k
theorem zcm {op:Nat} (h:cmpV op v w H=some q):kZ (.cmp op v) w H= .ok (.bool q) H:=ob (omp h)
end
section
variable {i k:Nat} {vs:List PV} {w:PV} {H:Hp} {loc:Loc} {po:PO}
theorem avR {q:Option PV} (h:zA H i=po) (k':ymA k po=q):zaE (.ref i) k H=q:=(congrArg (ymA k) h).trans k'
theorem clR {q:Option Nat} (h:zA H i=po) (k':clsO po=q):clsV (.ref i) H=q:=(congrArg clsO h).trans k'
theorem lnR {q:Option Nat} (h:zA H i=po) (k':lenO po=q):lenV (.ref i) H=q:=(congrArg lenO h).trans k'
theorem isLR (h:zA H i= .lst vs):zV (isL (.ref i) H) H= .ok () H:=(congrArg (fun o=>zV (refO i o).isSome H) h).trans rfl
theorem apR (h:zA H i= .lst vs) (hl:vs.length<SZ):kZ (.append (.ref i)) w H= .ok .none (zF H i (.lst (vs++[w]))):=(congrArg (fun o=>apZ (refO i o) w H) h).trans (if_pos hl)
theorem saR {q:Rs Fl} (h:zA H i=po) (k':saZ k w loc i po H=q):saV k w loc (.ref i) H=q:=(congrArg (saZ k w loc i · H) h).trans k'
theorem poS (h:zA H i= .lst (vs++[w])):kZ .pop (.ref i) H= .ok w (zF H i (.lst vs)):=by
 show poZ (refO i (zA H i)) H=_;rw [h];show poL i _ _ H=_;rw [List.getLast?_concat];show Rs.ok w (zF H i (.lst (vs++[w]).dropLast))=_;rw [List.dropLast_concat]
theorem siR {ki ki':List Int} {m:Int} {vs':List PV} (h:setK ki vs m w=(ki',vs')) (hl:ki.length<SZ):siZ w i loc (.dicI ki vs) (.int m) H= .ok (.next loc) (zF H i (.dicI ki' vs')):=(if_pos hl).trans (congrArg (fun q:List Int×List PV=>Rs.ok (Fl.next loc) (zF H i (.dicI q.1 q.2))) h)
theorem siS {ki ki':List (List Nat)} {m:List Nat} {vs':List PV} (h:setK ki vs m w=(ki',vs')) (hl:ki.length<SZ):siZ w i loc (.dicS ki vs) (.str m) H= .ok (.next loc) (zF H i (.dicS ki' vs')):=(if_pos hl).trans (congrArg (fun q:List (List Nat)×List PV=>Rs.ok (Fl.next loc) (zF H i (.dicS q.1 q.2))) h)
theorem dpR {ki ki':List Int} {m:Int} {vs':List PV} (hx:zS ki vs m=some w) (h:delK ki vs m=(ki',vs')):dpL i ki vs m (zS ki vs m) H= .ok w (zF H i (.dicI ki' vs')):=(congrArg (dpL i ki vs m · H) hx).trans (congrArg (fun q:List Int×List PV=>Rs.ok w (zF H i (.dicI q.1 q.2))) h)
theorem someB {b b':Bool} (h:b=b'):some b=some b':=congrArg some h
theorem cm7T (h:isNone w=false):cmpV 7 w .none H=some true:=congrArg (fun b=>some (!b)) h
theorem cm6F (h:isNone w=false):cmpV 6 w .none H=some false:=congrArg some h
theorem sa0 {α:Type} {y x:α} {r:List α}:zF (y::r) 0 x=x::r:=rfl
theorem sa1 {α:Type} {y x:α} {r:List α} {n:Nat}:zF (y::r) (n+1) x=y::zF r n x:=rfl
end
local macro_rules | `(tactic| exists $ts,*)=>do let t:=ts.getElems; let e ← `(tactic| (repeat exists $t,*)); let u ← t.mapM fun x=> `(tactic| (refine $x; $e; done)); let a:=("eat eix ecm eis ees sas sif sre sex jnx jre jra ecC ecO emC emO ebi ebn ent eif ean eor ean1 eor1 ean2 eor2 etu els efz edi enw eap epo edg edp een erp esl ech saT saA saI sra sfz xkb xkw zcm omp obd".splitOn " ").toArray.map fun s=>Lean.mkIdent (.mkSimple s); let b:= #["kiT","kiF","etX","jrt","edh","srt","jgo","edhN","sst","jxc","sxc","bnx","etO"].map fun s=>Lean.mkIdent (.mkSimple s); let c:= #["bnd","bnx","ifT","ifF","omp","someB"].map fun s=>Lean.mkIdent (.mkSimple s); let v ← b.mapM fun x=> `(tactic| ((with_reducible apply $x:ident); $e; done)); let w ← c.mapM fun x=> `(tactic| (apply $x:ident; $e; done)); `(tactic| focus first|exact rfl $[| with_reducible exact $t]* | exact Nat.le_of_ble_eq_true rfl|((with_reducible first $[| apply $a:ident]*); $e; done) $[| $v:tactic]* $[| $u:tactic]* $[| $w:tactic]*)
noncomputable def padN:Nat→Loc
 |n+1=>none::padN n
 |0=>[]
noncomputable def pad:List PV→Nat→Loc
 |v::vs,n=>some v::pad vs n
 |[],n=>padN n
section
variable {m i C:Nat} {vs:List PV} {H H1:Hp} {fr:FnR} {loc2:Loc} {v:PV}
theorem goL {R:Rs PV} {loc:Loc} (h1:fnsT i=some fr) (h2:wN fr vs=some loc) (k:((evSs TT (callN TT m) fr.body loc H).bind fun r H=>match r with | .ret v=>.ok v H | .next _=>.ok .none H | .cont _=>.bad)=R):callN TT (m+1) i vs H=R:=by
 rw [ylD];show (match fnsT i with|none=>Rs.bad|some fr=>_)=_
 rw [h1];show (match wN fr vs with|none=>Rs.bad|some fr=>_)=_
 rw [h2];exact k
theorem go (h1:fnsT i=some fr) (h2:wN fr vs=some (pad vs (fr.nl-fr.np))) (k:evSs TT (callN TT m) fr.body (pad vs (fr.nl-fr.np)) H= .ok (.ret v) H1):callN TT (m+1) i vs H= .ok v H1:=goL h1 h2 (bnd k rfl)
theorem goN (h1:fnsT i=some fr) (h2:wN fr vs=some (pad vs (fr.nl-fr.np))) (k:evSs TT (callN TT m) fr.body (pad vs (fr.nl-fr.np)) H= .ok (.next loc2) H1):callN TT (m+1) i vs H= .ok .none H1:=goL h1 h2 (bnd k rfl)
theorem goX (h1:fnsT i=some fr) (h2:wN fr vs=some (pad vs (fr.nl-fr.np))) (k:evSs TT (callN TT m) fr.body (pad vs (fr.nl-fr.np)) H= .exc C H1):callN TT (m+1) i vs H= .exc C H1:=goL h1 h2 (bnx k)
end
theorem nx {α:Type} {r:Rs α} {a:α} {H:Hp} (h:r= .ok a H):zfH r= .ok a H:=congrArg zfH h
theorem zaA {H:Hp} {i:Nat} {o:PO} (h:zA H i=o) (ho:o≠ .dead):i<H.length:=by
 rcases Nat.lt_or_ge i H.length with q|q
 ·exact q
 ·unfold zA at h
  rw [List.getElem?_eq_none q] at h; exact absurd h.symm ho
theorem setAt_length {α:Type}:∀ (l:List α) (i:Nat) (x:α),(zF l i x).length=l.length:=by
 intro l0
 induction l0 with
 |nil =>
  intro _ _;exact rfl
 |cons _ r ih =>
  intro l1;cases l1 with
  |zero =>
   intro _;exact rfl
  |succ i =>
   intro x;exact congrArg (· + 1) (ih i x)
theorem setAt_eq {α:Type}:∀ (l:List α) (i:Nat) (x:α),i<l.length→(zF l i x)[i]? =some x:=by
 intro l0
 induction l0 with
 |nil =>intros; contradiction
 |cons a r ih =>
  intro l1;cases l1 with
  |zero =>
   intro x h;exact rfl
  |succ i =>
   intro x h;exact ih i x (Nat.lt_of_succ_lt_succ h)
theorem sAt_ne {α:Type}:∀ (l:List α) (i j:Nat) (x:α),i≠j→(zF l i x)[j]? =l[j]? :=by
 intro l0
 induction l0 with
 |nil =>
  intro _ _ _ h;exact rfl
 |cons a r ih =>
  intro l1;cases l1 with
  |zero =>
   intro l2;cases l2 with
   |zero =>
    intro x h;exact absurd rfl h
   |succ j =>
    intro x h;exact rfl
  |succ i =>
   intro l2;cases l2 with
   |zero =>
    intro x h;exact rfl
   |succ j =>
    intro x h;exact ih i j x fun e=>h (congrArg (· + 1) e)
theorem wG {H:Hp} {i:Nat} {o:PO} (h:i<H.length):zA (zF H i o) i=o:=by
 unfold zA; rw [setAt_eq H i o h]
theorem yZ {H:Hp} {i j:Nat} {o:PO} (hn:i≠j):zA (zF H i o) j=zA H j:=by
 unfold zA; rw [sAt_ne H i j o hn]
theorem zcI {H:Hp} {l:Hp} {i:Nat} (h:i<H.length):zA (H++l) i=zA H i:=by
 unfold zA; rw [List.getElem?_append_left h]
theorem yT {H:Hp} {o:PO} {l:Hp}:zA (H++o::l) H.length=o:=by
 unfold zA; rw [List.getElem?_append_right (Nat.le_refl _),Nat.sub_self]; rfl
structure TA (H:Hp) (t:Nat) (now:PV) (be ah:List PV) (b a:Nat):Prop where
 ht:zA H t= .att 13 [18,19,20] [now,.ref b,.ref a]
 hb:zA H b= .lst be
 ha:zA H a= .lst ah
 ba:b≠a
noncomputable def zT (H:Hp) (t:Nat) (now:PV) (be ah:List PV):Prop:=∃ b a,TA H t now be ah b a
section
variable {H:Hp} {t m b a:Nat} {now x y:PV} {be ah l:List PV} {o:PO}
theorem TA.lt (T:TA H t now be ah b a):t<H.length:=zaA T.ht PO.noConfusion
theorem TA.lb (T:TA H t now be ah b a):b<H.length:=zaA T.hb PO.noConfusion
theorem TA.la (T:TA H t now be ah b a):a<H.length:=zaA T.ha PO.noConfusion
theorem TA.bt (T:TA H t now be ah b a):b≠t:=fun e=>PO.noConfusion (T.hb.symm.trans ((congrArg (zA H) e).trans T.ht))
theorem TA.at (T:TA H t now be ah b a):a≠t:=fun e=>PO.noConfusion (T.ha.symm.trans ((congrArg (zA H) e).trans T.ht))
theorem TA.setB (T:TA H t now be ah b a):TA (zF H b (.lst l)) t now l ah b a:=⟨(yZ T.bt).trans T.ht,wG T.lb,(yZ T.ba).trans T.ha,T.ba⟩
theorem TA.setA (T:TA H t now be ah b a):TA (zF H a (.lst l)) t now be l b a:=⟨(yZ T.at).trans T.ht,(yZ T.ba.symm).trans T.hb,wG T.la,T.ba⟩
theorem TA.setT (T:TA H t now be ah b a):TA (zF H t (.att 13 [18,19,20] [x,.ref b,.ref a])) t x be ah b a:=⟨wG T.lt,(yZ T.bt.symm).trans T.hb,(yZ T.at.symm).trans T.ha,T.ba⟩
theorem TA.left (T:TA H t now be ah b a):zA (H++[o]) t= .att 13 [18,19,20] [now,.ref b,.ref a]:=(zcI T.lt).trans T.ht
theorem TA.new (T:TA H t now be ah b a):TA (zF (H++[.lst []]) t (.att 13 [18,19,20] [now,.ref b,.ref H.length])) t now be [] b H.length :=
 ⟨wG (Nat.lt_of_lt_of_le T.lt (List.length_append▸Nat.le_add_right _ _)),(yZ T.bt.symm).trans ((zcI T.lb).trans T.hb),(yZ (Nat.ne_of_lt T.lt)).trans yT,Nat.ne_of_lt T.lb⟩
theorem ypD {x:PV} {l:List PV}:decide (Int.ofNat (l++[x]).length=0)=false:=by
 rw [List.length_append]; rfl
theorem go_ok (T:zT H t now be ah) (hb:be.length<SZ):∃ H',callN TT (m+1) 56 [.ref t,x] H= .ok .none H'∧zT H' t x (be++[now]) [] :=
 let ⟨b,a,T⟩:=T
 ⟨_,goN (i:=56) rfl rfl (by exists isLR T.hb,apR T.hb hb,avR T.ht rfl,saR T.setB.ht rfl,saR T.setB.setT.left rfl),b,_,T.setB.setT.new⟩
theorem undo_ok (T:zT H t now (be++[x]) ah) (hb:ah.length<SZ):∃ H',callN TT (m+1) 57 [.ref t] H= .ok .none H'∧zT H' t x be (ah++[now]) :=
 let ⟨b,a,T⟩:=T
 ⟨_,goN (i:=57) rfl rfl (by exists lnR T.hb rfl,isLR T.ha,apR T.ha hb,avR T.ht rfl,avR T.setA.ht rfl,poS T.setA.hb,saR T.setA.setB.ht rfl,ypD),b,a,T.setA.setB.setT⟩
theorem undo_no (T:zT H t now [] ah):callN TT (m+1) 57 [.ref t] H= .exc 2 H :=
 let ⟨b,a,T⟩:=T
 goX (i:=57) rfl rfl (by exists lnR T.hb rfl,avR T.ht rfl)
theorem redo_ok (T:zT H t now be (ah++[x])) (hb:be.length<SZ):∃ H',callN TT (m+1) 58 [.ref t] H= .ok .none H'∧zT H' t x (be++[now]) ah :=
 let ⟨b,a,T⟩:=T
 ⟨_,goN (i:=58) rfl rfl (by exists lnR T.ha rfl,isLR T.hb,apR T.hb hb,avR T.ht rfl,avR T.setB.ht rfl,poS T.setB.ha,saR T.setB.setA.ht rfl,ypD),b,a,T.setB.setA.setT⟩
theorem redo_no (T:zT H t now be []):callN TT (m+1) 58 [.ref t] H= .exc 2 H :=
 let ⟨b,a,T⟩:=T
 goX (i:=58) rfl rfl (by exists lnR T.ha rfl,avR T.ht rfl)
theorem yaC (T:zT H t now (be++[x]) ah) (hb:ah.length<SZ):∃ H',callN TT (m+2) 67 [.ref t,.int 0] H= .ok (.bool true) H'∧zT H' t x be (ah++[now]) :=
 let ⟨H',e,T'⟩:=undo_ok (m:=m) T hb
 let ⟨b,a,T⟩:=T
 ⟨H',go (i:=67) rfl rfl (by exists clR T.ht rfl,e),T'⟩
theorem step0_no (T:zT H t now [] ah):callN TT (m+2) 67 [.ref t,.int 0] H= .ok (.bool false) H :=
 have e:=undo_no (m:=m) T
 let ⟨b,a,T⟩:=T
 go (i:=67) rfl rfl (by exists clR T.ht rfl,e)
theorem yaA (T:zT H t now be (ah++[x])) (hb:be.length<SZ):∃ H',callN TT (m+2) 67 [.ref t,.int 1] H= .ok (.bool true) H'∧zT H' t x (be++[now]) ah :=
 let ⟨H',e,T'⟩:=redo_ok (m:=m) T hb
 let ⟨b,a,T⟩:=T
 ⟨H',go (i:=67) rfl rfl (by exists clR T.ht rfl,e),T'⟩
theorem yaB (T:zT H t now be []):callN TT (m+2) 67 [.ref t,.int 1] H= .ok (.bool false) H :=
 have e:=redo_no (m:=m) T
 let ⟨b,a,T⟩:=T
 go (i:=67) rfl rfl (by exists clR T.ht rfl,e)
end
noncomputable def Ret (n f:Nat) (args:List PV) (r:PV):Prop:=∀ k,n≤k→∀ H,closedCall (callN TT k) f args H= .ok r H
noncomputable def Exc (n f:Nat) (args:List PV) (C:Nat):Prop:=∀ k,n≤k→∀ H,closedCall (callN TT k) f args H= .exc C H
section
variable {n f C:Nat} {args:List PV} {r:PV} {H H':Hp} {c:Call} {fr:FnR}
theorem ccO (hc:zO args=true) (hr:closed r=true) (h:c f args []= .ok r H'):closedCall c f args H= .ok r H:=by
 rw [zeH,if_pos hc,h];exact if_pos hr
theorem ccX (hc:zO args=true) (h:c f args []= .exc C H'):closedCall c f args H= .exc C H:=by
 rw [zeH,if_pos hc,h]
theorem from1 {p:Nat→Prop} (h:∀ k,n≤k→p (k+1)):∀ k,n+1≤k→p k:=by
 intro l0;cases l0 with
 |zero =>
  intro hk;exact absurd hk (Nat.not_succ_le_zero n)
 |succ k =>
  intro hk;exact h k (Nat.le_of_succ_le_succ hk)
theorem Ret.mk (hc:zO args=true) (hr:closed r=true) (h:∀ k,n≤k→∃ H,callN TT (k+1) f args []= .ok r H):Ret (n+1) f args r :=
 from1 fun k hk _=>by obtain ⟨_,e⟩:=h k hk; exact ccO hc hr e
theorem Exc.mk (hc:zO args=true) (h:∀ k,n≤k→∃ H,callN TT (k+1) f args []= .exc C H):Exc (n+1) f args C :=
 from1 fun k hk _=>by obtain ⟨_,e⟩:=h k hk; exact ccX hc e
theorem Ret.go (h1:fnsT f=some fr) (h2:wN fr args=some (pad args (fr.nl-fr.np))) (hc:zO args=true) (hr:closed r=true) (h:∀ k,n≤k→∃ H,evSs TT (callN TT k) fr.body (pad args (fr.nl-fr.np)) []= .ok (.ret r) H):Ret (n+1) f args r :=
 Ret.mk hc hr fun k hk=>(h k hk).elim fun H e=>⟨H,Mine.go h1 h2 e⟩
theorem Exc.go (h1:fnsT f=some fr) (h2:wN fr args=some (pad args (fr.nl-fr.np))) (hc:zO args=true) (h:∀ k,n≤k→∃ H,evSs TT (callN TT k) fr.body (pad args (fr.nl-fr.np)) []= .exc C H):Exc (n+1) f args C :=
 Exc.mk hc fun k hk=>(h k hk).elim fun H e=>⟨H,goX h1 h2 e⟩
theorem Ret.up {n':Nat} (h:Ret n f args r) (hn:n≤n'):Ret n' f args r:=fun k hk H=>h k (Nat.le_trans hn hk) H
end
noncomputable def valR (r:Rs PV):Option PV:=match r with
 | .ok v _=>some v
 |_=>none
noncomputable def excR (r:Rs PV):Option Nat:=match r with
 | .exc C _=>some C
 |_=>none
theorem valR_ok {r:Rs PV} {v:PV} (h:valR r=some v):∃ H,r= .ok v H:=by
 cases r with
 |ok a H=>exact ⟨H,congrArg (Rs.ok · H) (Option.some.inj h)⟩
 |exc=>exact nomatch h
 |bad=>exact nomatch h
theorem excR_ok {r:Rs PV} {C:Nat} (h:excR r=some C):∃ H,r= .exc C H:=by
 cases r with
 |exc a H=>exact ⟨H,congrArg (Rs.exc · H) (Option.some.inj h)⟩
 |ok=>exact nomatch h
 |bad=>exact nomatch h
section
variable {n f C:Nat} {args:List PV} {r:PV}
theorem yF (hc:zO args=true) (hr:closed r=true) (h:∀ k,valR (callN TT (k+(n+1)) f args [])=some r):Ret (n+1) f args r:=Ret.mk hc hr fun k hk=>valR_ok (Nat.sub_add_cancel hk▸h (k-n))
theorem ykC (hc:zO args=true) (h:∀ k,excR (callN TT (k+(n+1)) f args [])=some C):Exc (n+1) f args C:=Exc.mk hc fun k hk=>excR_ok (Nat.sub_add_cancel hk▸h (k-n))
end
section
variable {ι:Type} {f:ι→PV} {p:ι→Bool} {H H1:Hp}
theorem ybJ {α:Type} {F:PV→Hp→Rs (Option α)} {g:ι→α}:∀ {l:List ι},(∀ x∈l,F (f x) H= .ok (some (g x)) H)→compLoop F (l.map f) H= .ok (l.map g) H:=by
 intro l0
 induction l0 with
 |nil =>
  intro _;exact rfl
 |cons x r ih =>
  intro h;exact bnd (h x mQ) (bnd (ih fun y hy=>h y (mC _ hy)) rfl)
theorem loop_if {α:Type} {F:PV→Hp→Rs (Option α)} {g:ι→α}:∀ {l:List ι},(∀ x∈l,F (f x) H= .ok (if p x then some (g x) else none) H)→compLoop F (l.map f) H= .ok ((l.filter p).map g) H:=by
 intro l0
 induction l0 with
 |nil =>
  intro _;exact rfl
 |cons x r ih =>
  intro h;have ih:=ih fun y hy=>h y (mC _ hy);have h1:=h x mQ;cases hp:p x with
  |true=>rw [List.filter_cons_of_pos hp]; rw [hp] at h1; exact bnd h1 (bnd ih rfl)
  |false=>rw [List.filter_cons_of_neg (by rw [hp]; exact Bool.false_ne_true)]; rw [hp] at h1; exact bnd h1 (bnd ih rfl)
variable {c:Call} {i:Nat} {it cond elt:E} {loc:Loc} {v:PV} {g:ι→PV} {l:List ι}
theorem ypE (hit:evE TT c it loc H= .ok v H1) (hi:yS v=some (l.map f)) (h:∀ x∈l,evE TT c elt (zF loc i (some (f x))) H1= .ok (g x) H1):evE TT c (.lcomp i it false cond elt) loc H= .ok (.lst (l.map g)) H1 :=
 bnd hit (bnd (ob hi) (bnd (nx (ybJ (g:=g) fun x hx=>bnd (h x hx) rfl)) rfl))
theorem lc_if (hit:evE TT c it loc H= .ok v H1) (hi:yS v=some (l.map f)) (h1:∀ x∈l,evE TT c cond (zF loc i (some (f x))) H1= .ok (.bool (p x)) H1) (h2:∀ x∈l,evE TT c elt (zF loc i (some (f x))) H1= .ok (g x) H1) :
  evE TT c (.lcomp i it true cond elt) loc H= .ok (.lst ((l.filter p).map g)) H1 :=
 bnd hit (bnd (ob hi) (bnd (nx (loop_if (p:=p) (g:=g) fun x hx=>bnd (h1 x hx) (bnd rfl (by
  cases p x with
  |true=>exact bnd (h2 x hx) rfl
  |false=>rfl)))) rfl))
theorem lc_tt (hit:evE TT c it loc H= .ok v H1) (hi:yS v=some (l.map f)) (h1:∀ x∈l,evE TT c cond (zF loc i (some (f x))) H1= .ok (.bool true) H1) (h2:∀ x∈l,evE TT c elt (zF loc i (some (f x))) H1= .ok (g x) H1) :
  evE TT c (.lcomp i it true cond elt) loc H= .ok (.lst (l.map g)) H1 :=
 bnd hit (bnd (ob hi) (bnd (nx (ybJ (g:=g) fun x hx=>bnd (h1 x hx) (bnd rfl (bnd (h2 x hx) rfl)))) rfl))
end
noncomputable abbrev Ent:=List (List Nat×PV×PV)
noncomputable def ks (E:Ent):List (List Nat):=E.map (·.1)
noncomputable def vs (E:Ent):List PV:=E.map (·.2.1)
noncomputable def ts (E:Ent):List PV:=E.map (·.2.2)
theorem ziE {κ:Type} [DecidableEq κ] {β:Type} (f:κ×β→PV):∀ {E:List (κ×β)} {p:κ×β},(E.map (·.1)).Nodup→p∈E→zS (E.map (·.1)) (E.map f) p.1=some (f p):=by
 intro l0
 induction l0 with
 |nil =>
  intro p _ h;exact nomatch h
 |cons q r ih =>
  intro p hn h;show (if q.1=p.1 then some (f q) else zS (r.map (·.1)) (r.map f) p.1)=_;obtain ⟨n1,n2⟩:=List.nodup_cons.mp hn
  rcases mN h with rfl|h
  ·rw [if_pos rfl]
  ·rw [if_neg fun e=>n1 (by show q.1∈_; rw [e]; exact List.mem_map_of_mem h)]
   exact ih n2 h
theorem insS_mem {x y:List Nat}:∀ {l:List (List Nat)},y∈insS x l↔y=x∨y∈l:=by
 intro l0
 induction l0 with
 |nil =>simp [insS]
 |cons z r ih =>
  unfold insS
  split
  ·simp
  ·rw [List.mem_cons,ih,List.mem_cons]
   constructor <;> rintro (h|h|h) <;> simp [h]
theorem wX {y:List Nat}:∀ {l:List (List Nat)},y∈wC l↔y∈l:=by
 intro l0
 induction l0 with
 |nil =>simp [wC]
 |cons x r ih =>rw [wC,insS_mem,ih,List.mem_cons]
theorem insS_len {x:List Nat}:∀ {l:List (List Nat)},(insS x l).length=l.length+1:=by
 intro l0
 induction l0 with
 |nil =>exact rfl
 |cons z r ih =>
  unfold insS
  split
  ·rfl
  ·simp [ih]
theorem zsI:∀ {l:List (List Nat)},(wC l).length=l.length:=by
 intro l0
 induction l0 with
 |nil =>exact rfl
 |cons x r ih =>rw [wC,insS_len,ih]; rfl
structure Fitt (n d:Nat) (v:PV):Prop where
 r:okR v=true
 s:szR v≤n
 p:zX v≤d
structure OkW (v t:PV):Prop where
 cv:closed v=true
 ct:closed t=true
 nn:isNone v=false
 told:Ret 6 7 [v] t
 fit:Fitt 300 6 t
noncomputable def zlA:List (List Nat):=[[65],[66],[84,121,112,101],[]]
structure yB (E:Ent):Prop where
 nd:(ks E).Nodup
 ok:∀ p∈E,p.1∈zlA∧OkW p.2.1 p.2.2
theorem zqA:∀ {s l:List (List Nat)},l.Nodup→(∀ x∈l,x∈s)→l.length≤s.length
 |[],l,hn,h=>by
  cases l with
  |nil=>simp
  |cons x r=>exact absurd (h x mQ) (by simp)
 |a::s,l,hn,h=>by
  by_cases ha:a∈l
  ·have h1:(l.erase a).length≤s.length:=zqA (hn.erase a) fun x hx=>by
    have hx':=(List.Nodup.mem_erase_iff hn).mp hx
    rcases mN (h x hx'.2) with e|e
    ·exact absurd e hx'.1
    ·exact e
   have:=List.length_erase_of_mem ha;have hp:0<l.length:=List.length_pos_of_mem ha;simp only [List.length_cons]
   lia
  ·have:=zqA hn (s:=s) fun x hx=>by
    rcases mN (h x hx) with e|e
    ·exact absurd (by rw [← e]; exact hx) ha
    ·exact e
   simp only [List.length_cons]
   lia
theorem yB.len {E:Ent} (h:yB E):E.length≤4:=by
 have:=zqA (s:=zlA) h.nd fun x hx=>by
  refine oEA (List.mem_map.mp hx) fun p hp o1_=> ?_; obtain rfl:=o1_;exact (h.ok p hp).1
 have e:zlA.length=4:=rfl;rw [e] at this
 simpa [ks] using this
theorem yL {α:Type} {f:α→PV}:∀ {l:List α},(∀ x∈l,closed (f x)=true)→zO (l.map f)=true:=by
 intro l0
 induction l0 with
 |nil =>
  intro _;exact rfl
 |cons x r ih =>
  intro h;show (closed (f x)&&zO (r.map f))=true;rw [h x mQ,ih fun y hy=>h y (mC _ hy)]; rfl
theorem yB.cvs {E:Ent} (h:yB E):zO (vs E)=true:=yL fun p hp=>(h.ok p hp).2.cv
theorem yB.cts {E:Ent} (h:yB E):zO (ts E)=true:=yL fun p hp=>(h.ok p hp).2.ct
noncomputable def rowD (E:Ent) (k:List Nat):PV:=.tup [.str k,(zS (ks E) (ts E) k).getD .none]
noncomputable def ymF (E:Ent):PV:=.tup (.str [100,105,99,116]::(wC (ks E)).map (rowD E))
structure AtE (E:Ent) (k:List Nat) (v t:PV):Prop where
 lv:zS (ks E) (vs E) k=some v
 lt:zS (ks E) (ts E) k=some t
 ok:OkW v t
 m:k∈zlA
theorem AtE.row {E:Ent} {k:List Nat} {v t:PV} (h:AtE E k v t):rowD E k= .tup [.str k,t]:=congrArg (fun o:Option PV=>PV.tup [.str k,o.getD .none]) h.lt
theorem yB.at {E:Ent} (h:yB E) {k:List Nat} (hk:k∈ks E):∃ v t,AtE E k v t :=
 let ⟨p,hp,e⟩:=List.mem_map.mp hk
 ⟨p.2.1,p.2.2,e▸⟨ziE (fun q:List Nat×PV×PV=>q.2.1) h.nd hp,ziE (fun q:List Nat×PV×PV=>q.2.2) h.nd hp,(h.ok p hp).2,(h.ok p hp).1⟩⟩
theorem cl1 {a:PV} (h:closed a=true):zO [a]=true:=Bool.and_eq_true_iff.mpr ⟨h,rfl⟩
theorem cl2 {a b:PV} (h:closed a=true) (h2:closed b=true):zO [a,b]=true:=Bool.and_eq_true_iff.mpr ⟨h,cl1 h2⟩
theorem cl3 {a b d:PV} (h:closed a=true) (h2:closed b=true) (h3:closed d=true):zO [a,b,d]=true:=Bool.and_eq_true_iff.mpr ⟨h,cl2 h2 h3⟩
theorem cl4 {a b d e:PV} (h:closed a=true) (h2:closed b=true) (h3:closed d=true) (h4:closed e=true):zO [a,b,d,e]=true:=Bool.and_eq_true_iff.mpr ⟨h,cl3 h2 h3 h4⟩
theorem zqF {a:List (List Nat)} {b:List PV} (h:zO b=true):Ret 1 5 [.dicS a b] (.str [100,105,99,116]):=.go rfl rfl (cl1 h) rfl fun k hk=>⟨_,rfl⟩
theorem rowD_closed {E:Ent} (h:yB E) {k:List Nat} (hk:k∈ks E):closed (rowD E k)=true :=
 by refine oEE (h.at hk) fun _ _ A=> ?_; exact (congrArg closed A.row).trans (cl2 rfl A.ok.ct)
theorem zgF {E:Ent} (h:yB E):closed (ymF E)=true:=yL (f:=rowD E) fun k hk=>rowD_closed h (wX.mp hk)
theorem yB.klen {E:Ent} (h:yB E):(ks E).length≤4:=List.length_map (·.1) (as:=E)▸h.len
theorem told_cond {E:Ent} {c:Call} {key:List Nat} {v t:PV} (A:AtE E key v t) {x1:Option PV}:evE TT c (.cmp 7 (.idx (.var 0) (.var 3)) (.cst .none)) [some (.dicS (ks E) (vs E)),x1,none,some (.str key)] []= .ok (.bool true) []:=by
 exists A.lv,cm7T A.ok.nn
theorem told_elt {E:Ent} {key:List Nat} {v t:PV} (A:AtE E key v t) {k:Nat} (hk:6≤k) {x1:Option PV} :
  evE TT (callN TT k) (.tup (.cons (.var 3) (.cons (.callC 7 (.cons (.idx (.var 0) (.var 3)) .nil)) .nil))) [some (.dicS (ks E) (vs E)),x1,none,some (.str key)] []= .ok (rowD E key) []:=by
 rw [A.row]; exists A.lv,A.ok.told k hk _
theorem told_loop {E:Ent} (h:yB E) {k:Nat} (hk:6≤k) {x1:Option PV}:evE TT (callN TT k) e_7_1 [some (.dicS (ks E) (vs E)),x1,none,none] []= .ok (.lst ((wC (ks E)).map (rowD E))) [] :=
 lc_tt (l:=wC (ks E)) (f:=.str) (by exists ifT (Nat.lt_of_le_of_lt h.klen (by decide)) rfl) rfl (fun key hx=>by refine oEE (h.at (wX.mp hx)) fun _ _ A=> ?_; exact told_cond A) fun key hx=>by refine oEE (h.at (wX.mp hx)) fun _ _ A=> ?_; exact told_elt A hk
theorem yB.rowLen {E:Ent} (h:yB E):([PV.str [100,105,99,116]]++(wC (ks E)).map (rowD E)).length≤SZ:=by
 have:=h.klen
 simp [zsI,SZ]; lia
theorem told_dict {E:Ent} (h:yB E):Ret 7 7 [.dicS (ks E) (vs E)] (ymF E) :=
 .go rfl rfl (cl1 h.cvs) (zgF h) fun k hk=>⟨_,by exists zqF h.cvs k (Nat.le_trans (by decide) hk) _,told_loop h hk,And.intro rfl h.rowLen⟩
structure Row where
 n:Int
 g:Int
 b:Option Ent
noncomputable def Row.val (r:Row):PV:=match r.b with
 |some E=>.dicS (ks E) (vs E)
 |none=>.lst [.int 7]
noncomputable def arrT:PV:=.tup [.str [97,114,114,97,121],.tup [.str [105,110,116],.int 7]]
noncomputable def Row.wor (r:Row):PV:=match r.b with
 |some E=>.dicS (ks E) (ts E)
 |none=>arrT
noncomputable def Row.told (r:Row):PV:=match r.b with
 |some E=>ymF E
 |none=>arrT
noncomputable def zxA (R:List Row):PV:=.dicI (R.map (·.n)) (R.map fun r=>.tup [.int r.g,r.val])
noncomputable def zN (R:List Row):PV:=.dicI (R.map (·.n)) (R.map fun r=>.tup [.int r.g,r.wor])
noncomputable def trlV:PV:=.dicS [[82,111,111,116]] [.obj 7 [8,9] [.int 1,.int 0]]
noncomputable def trlT:PV:=.tup [.str [100,105,99,116],.tup [.str [82,111,111,116],.tup [.str [114,101,102],.int 1,.int 0]]]
noncomputable def yE (R:List Row):PV:=.obj 9 [10,11] [zxA R,trlV]
noncomputable def ynI:PV:=.obj 9 [10,11] [.dicI [] [],.dicS [] []]
noncomputable def zD (R:List Row):PV:=.obj 12 [12,16,17] [.bytes [113],ynI,yE R]
noncomputable def Row.row (r:Row):PV:=.tup [.int r.n,.int r.g,r.told]
noncomputable def zsF (R:List Row):PV:=.tup [.tup (R.map Row.row),trlT]
structure zH (R:List Row):Prop where
 so:(R.map (·.n)).Pairwise (· < ·)
 len:R.length≤3
 ent:∀ r∈R,∀ E,r.b=some E→yB E
 gen:∀ r∈R,r.n.natAbs≤1000∧r.g.natAbs≤1000
theorem pw_nodup {l:List Int} (h:l.Pairwise (· < ·)):l.Nodup:=h.imp fun h e=>by lia
theorem zmJ:∀ {l:List Int},l.Pairwise (· < ·)→zxB l=l
 |[],_=>rfl
 |[x],_=>rfl
 |x::y::r,h =>
  have h:=List.pairwise_cons.mp h
  (congrArg (insI x) (zmJ h.2)).trans (if_pos (h.1 y mQ))
theorem zH.nd {R:List Row} (h:zH R):(R.map (·.n)).Nodup:=pw_nodup h.so
theorem xG (f:Row→PV):∀ {R:List Row} {r:Row},(R.map (·.n)).Nodup→r∈R→zS (R.map (·.n)) (R.map f) r.n=some (f r):=by
 intro l0
 induction l0 with
 |nil =>
  intro _ _ h;exact nomatch h
 |cons q R ih =>
  intro r hn h;show (if q.n=r.n then some (f q) else zS (R.map (·.n)) (R.map f) r.n)=_;obtain ⟨n1,n2⟩:=List.nodup_cons.mp hn
  rcases mN h with rfl|h
  ·rw [if_pos rfl]
  ·rw [if_neg fun e=>n1 (by show q.n∈_; rw [e]; exact List.mem_map_of_mem h)]
   exact ih n2 h
theorem ft {P:Prop} (h:false=true):P:=nomatch h
theorem zmE:∀ {r:Row},(∀ E,r.b=some E→yB E)→closed r.val=true
 |⟨_,_,none⟩,_=>rfl
 |⟨_,_,some E⟩,h=>(h E rfl).cvs
theorem wor_closed:∀ {r:Row},(∀ E,r.b=some E→yB E)→closed r.wor=true
 |⟨_,_,none⟩,_=>rfl
 |⟨_,_,some E⟩,h=>(h E rfl).cts
theorem told_closed:∀ {r:Row},(∀ E,r.b=some E→yB E)→closed r.told=true
 |⟨_,_,none⟩,_=>rfl
 |⟨_,_,some E⟩,h=>zgF (h E rfl)
theorem tab_closed {R:List Row} (h:zH R):closed (zxA R)=true:=yL (f:=fun r:Row=>.tup [.int r.g,r.val]) fun r hr=>cl2 rfl (zmE (h.ent r hr))
theorem zQ {R:List Row} (h:zH R):closed (zN R)=true:=yL (f:=fun r:Row=>.tup [.int r.g,r.wor]) fun r hr=>cl2 rfl (wor_closed (h.ent r hr))
theorem zU {R:List Row} (h:zH R):closed (yE R)=true:=cl2 (tab_closed h) rfl
theorem zI {R:List Row} (h:zH R):closed (zD R)=true:=cl3 rfl rfl (zU h)
theorem zgE {R:List Row} (h:zH R):closed (zsF R)=true :=
 cl2 (a:=.tup (R.map Row.row)) (yL (f:=Row.row) fun r hr=>cl3 (a:=.int r.n) (b:=.int r.g) rfl rfl (told_closed (h.ent r hr))) rfl
theorem told_arr:Ret 6 7 [.lst [.int 7]] arrT:=yF (n:=5) rfl rfl fun k=>by kernel_rfl
theorem told_trl:Ret 6 7 [trlV] trlT:=yF (n:=5) rfl rfl fun k=>by kernel_rfl
theorem told_sh0:Ret 8 15 [ynI] (.tup [.tup [],.tup [.str [100,105,99,116]]]):=yF (n:=7) rfl rfl fun k=>by kernel_rfl
theorem told_val {R:List Row} (h:zH R):∀ {r:Row},r∈R→Ret 7 7 [r.val] r.told
 |⟨_,_,none⟩,_=>told_arr.up (Nat.le_succ 6)
 |⟨_,_,some E⟩,hr=>told_dict (h.ent _ hr E rfl)
theorem zH.srt {R:List Row} (h:zH R) {vs:List PV} {H:Hp}:biV 5 (.dicI (R.map (·.n)) vs) H=some (.lst (R.map fun r=>.int r.n)) :=
 ifT (Nat.lt_of_le_of_lt (Nat.le_trans (Nat.le_of_eq (List.length_map _)) h.len) (by decide)) (congrArg (fun l=>some (PV.lst l)) ((congrArg (List.map PV.int) (zmJ h.so)).trans List.map_map))
theorem numbers_ok {R:List Row} (h:zH R):Ret 1 13 [yE R] (.lst (R.map fun r=>.int r.n)) :=
 .go rfl rfl (cl1 (zU h)) (yL fun _ _=>rfl) fun k hk=>⟨_,by exists h.srt⟩
theorem shelf_elt {R:List Row} (h:zH R) {r:Row} (hr:r∈R) {k:Nat} (hk:7≤k):evE TT (callN TT k) (.tup (.cons (.var 2) (.cons (.idx (.idx (.attr (.var 0) 10) (.var 2)) (.cst (.int 0))) (.cons (.callC 7 (.cons (.idx (.idx (.attr (.var 0) 10) (.var 2)) (.cst (.int 1))) .nil)) .nil)))) [some (yE R),none,some (.int r.n)] []= .ok r.row []:=by
 exists xG (fun r=>.tup [.int r.g,r.val]) h.nd hr,told_val h hr k hk _
theorem shelf_loop {R:List Row} (h:zH R) {k:Nat} (hk:7≤k):evE TT (callN TT k) yqJ [some (yE R),none,none] []= .ok (.lst (R.map Row.row)) [] :=
 ypE (ι:=Row) (f:=fun r=>.int r.n) (by exists numbers_ok h k (Nat.le_trans (by decide) hk) _) rfl fun r hr=>shelf_elt h hr hk
theorem told_shelf {R:List Row} (h:zH R):Ret 8 15 [yE R] (zsF R) :=
 .go rfl rfl (cl1 (zU h)) (zgE h) fun k hk=>⟨_,by exists shelf_loop h hk,told_trl k (Nat.le_trans (by decide) hk) _⟩
inductive Stp (r:Rs Fl) (J:Loc→Hp→Prop):Prop
 |mk (loc:Loc) (H:Hp) (e:r= .ok (.next loc) H) (j:J loc H)
theorem Stp.cons {i:Nat} {F:Loc→Hp→Rs Fl} {v:PV} {l:List PV} {loc:Loc} {H:Hp} {J J':Loc→Hp→Prop} (h:Stp (F (zF loc i (some v)) H) J) (h':∀ loc H,J loc H→Stp (z4 i F l loc H) J'):Stp (z4 i F (v::l) loc H) J':=by
 cases h with
 |mk loc H e j =>
  cases h' loc H j with
  |mk loc' H' e' j'=>exact ⟨loc',H',bnd e e',j'⟩
theorem zyE {ι:Type} {F:Loc→Hp→Rs Fl} {i N:Nat} {f:ι→PV} {I:List ι→Loc→Hp→Prop} {l:List ι}
  (h:∀ pre x loc H,x∈l→pre.length<N→I pre loc H→Stp (F (zF loc i (some (f x))) H) (I (pre++[x]))):∀ (q pre:List ι),(∀ x∈q,x∈l)→pre.length+q.length≤N→∀ loc H,I pre loc H→Stp (z4 i F (q.map f) loc H) (I (pre++q))
 |[],pre,_,_,loc,H,a=>⟨loc,H,rfl,(congrArg (I · loc H) (List.append_nil pre)).mpr a⟩
 |x::q,pre,m,n,loc,H,a=>.cons (h pre x loc H (m x mQ) (Nat.lt_of_lt_of_le (Nat.lt_add_of_pos_right (Nat.succ_pos _)) n) a)
  (List.append_cons pre x q▸zyE h q (pre++[x]) (fun y hy=>m y (mC _ hy)) (by rw [List.length_append,Nat.add_assoc,Nat.add_comm [x].length]; exact n))
theorem row_elt {E:Ent} {c:Call} {key:List Nat} {v t:PV} (A:AtE E key v t) {H:Hp} {x0 x1 x2 x3:Option PV}:evE TT c (.tup (.cons (.var 5) (.cons (.idx (.var 4) (.var 5)) .nil))) [x0,x1,x2,x3,some (.dicS (ks E) (ts E)),some (.str key)] H= .ok (rowD E key) H:=by
 rw [A.row]; exists A.lt
theorem row_loop {E:Ent} (h:yB E) {c:Call} {H:Hp} {x0 x1 x2 x3 x5:Option PV}:evE TT c yqH [x0,x1,x2,x3,some (.dicS (ks E) (ts E)),x5] H= .ok (.lst ((wC (ks E)).map (rowD E))) H :=
 ypE (ι:=List Nat) (f:=.str) (by exists ifT (Nat.lt_of_le_of_lt h.klen (by decide)) rfl) rfl fun key hx=>by refine oEE (h.at (wX.mp hx)) fun _ _ A=> ?_; exact row_elt A
theorem rows_turn {R:List Row} (h:zH R) {c:Call} {acc:List PV} (hl:acc.length<SZ) {x3 x4 x5:Option PV}:∀ {r:Row},r∈R→∃ y4,evSs TT c ylH [some (zN R),some (.ref 0),some (.int r.n),x3,x4,x5] [.lst acc]= .ok (.next [some (zN R),some (.ref 0),some (.int r.n),some (.int r.g),y4,x5]) [.lst (acc++[r.row])]
 |⟨n,g,none⟩,hr=>⟨_,by exists xG (fun r=>.tup [.int r.g,r.wor]) h.nd hr,apR rfl hl⟩
 |⟨n,g,some E⟩,hr=>⟨_,by
  have hE:=h.ent _ hr E rfl;have hle:([PV.str [100,105,99,116]]++(wC (ks E)).map (rowD E)).length≤SZ:=hE.rowLen;exists xG (fun r=>.tup [.int r.g,r.wor]) h.nd hr,row_loop hE,And.intro rfl hle,apR rfl hl⟩
inductive RwI (R pre:List Row):Loc→Hp→Prop
 |mk (y2 y3 y4 y5:Option PV) {H:Hp} (e:H=[.lst (pre.map Row.row)]):RwI R pre [some (zN R),some (.ref 0),y2,y3,y4,y5] H
theorem rows_step {R:List Row} (h:zH R) {c:Call} (pre:List Row) (x:Row):∀ loc H,x∈R→pre.length<3→RwI R pre loc H→Stp (evSs TT c ylH (zF loc 2 (some (.int x.n))) H) (RwI R (pre++[x]))
 |_,_,hx,hl,.mk y2 y3 y4 y5 e=>e ▸
  have ⟨_,e⟩:=rows_turn h (c:=c) (Nat.lt_of_le_of_lt (Nat.le_of_eq (List.length_map _)) (Nat.lt_trans hl (by decide))) hx
  ⟨_,_,e,.mk _ _ _ _ (congrArg (fun l=>[PO.lst l]) (List.map_append (l₂:=[x])).symm)⟩
theorem rows_for {R:List Row} (h:zH R) {c:Call}:∃ y2 y3 y4 y5,evS TT c yoD [some (zN R),some (.ref 0),none,none,none,none] [.lst []]= .ok (.next [some (zN R),some (.ref 0),y2,y3,y4,y5]) [.lst (R.map Row.row)]:=by
 cases zyE (I:=RwI R) (rows_step h (c:=c)) R [] (fun _ hx=>hx) (Nat.le_trans (Nat.le_of_eq (Nat.zero_add _)) h.len) _ _ (.mk none none none none rfl) with
 |mk loc H e j=>cases j with
  |mk y2 y3 y4 y5 q=>subst q; exact ⟨y2,y3,y4,y5,by exists h.srt,e⟩
theorem law_rows {R:List Row} (h:zH R):Ret 1 59 [zN R] (zsF R) :=
 .go rfl rfl (cl1 (zQ h)) (zgE h) fun k hk=>by refine oEEEE (rows_for h (c:=callN TT k)) fun _ _ _ _ e=> ?_; exact ⟨_,by exists e,ifT (Nat.le_trans h.len (by decide)) rfl⟩
mutual
theorem znE:∀ (v:PV),okR v=true→wO v v=true
 | .tup vs,h=>zkA vs h
 | .str l,_ | .bytes l,_=>beq_self_eq_true l
 | .int i,_=>beq_self_eq_true i
 | .none,h | .bool _,h | .ref _,h | .lst _,h | .dicI _ _,h | .dicS _ _,h | .obj _ _ _,h | .exc _,h | .cls _,h | .typ _,h | .rng _ _ _,h=>ft h
theorem zkA:∀ (vs:List PV),okRs vs=true→znD vs vs=true
 |[],_=>rfl
 |v::vs,h=>have h:=Bool.and_eq_true_iff.mp h; Bool.and_eq_true_iff.mpr ⟨znE v h.1,zkA vs h.2⟩
end
structure Fits (n d:Nat) (vs:List PV):Prop where
 r:okRs vs=true
 s:szRs vs≤n
 p:z8 vs≤d
section
variable {n m d e:Nat} {v:PV} {vs:List PV}
theorem Fits.nil:Fits 0 0 []:=⟨rfl,Nat.le_refl _,Nat.le_refl _⟩
theorem Fits.cons (a:Fitt n d v) (b:Fits m e vs):Fits (n+2+m) (max d e) (v::vs):=⟨Bool.and_eq_true_iff.mpr ⟨a.r,b.r⟩,Nat.add_le_add (Nat.add_le_add_right a.s 2) b.s,Nat.max_le.mpr ⟨Nat.le_trans a.p (Nat.le_max_left _ _),Nat.le_trans b.p (Nat.le_max_right _ _)⟩⟩
theorem Fitt.tup (a:Fits n d vs):Fitt (n+3) (d+1) (.tup vs):=⟨a.r,Nat.add_le_add_right a.s 3,Nat.succ_le_succ a.p⟩
theorem Fitt.mono (a:Fitt n d v) (h:n≤m) (k:d≤e):Fitt m e v:=⟨a.r,Nat.le_trans a.s h,Nat.le_trans a.p k⟩
theorem Fits.map {α:Type} {f:α→PV}:∀ {l:List α},(∀ x∈l,Fitt n d (f x))→Fits ((n+2)*l.length) d (l.map f):=by
 intro l0
 induction l0 with
 |nil =>
  intro _;exact ⟨rfl,Nat.le_refl _,Nat.zero_le _⟩
 |cons x r ih =>
  intro h;exact have a:=h x mQ
   have b:=ih fun y hy=>h y (mC _ hy)
   ⟨Bool.and_eq_true_iff.mpr ⟨a.r,b.r⟩,Nat.le_trans (Nat.add_le_add (Nat.add_le_add_right a.s 2) b.s) (Nat.le_of_eq (Nat.add_comm _ _)),Nat.max_le.mpr ⟨a.p,b.p⟩⟩
theorem Fits.le (a:Fits ((n+2)*m) d vs) (h:m≤e):Fits ((n+2)*e) d vs:=⟨a.r,Nat.le_trans a.s (Nat.mul_le_mul_left _ h),a.p⟩
end
theorem key_fit:∀ k∈zlA,Fitt 42 0 (.str k) :=
 have h:∀ k∈zlA,okR (.str k)=true∧szR (.str k)≤42∧zX (.str k)≤0:=by decide
 fun k hk=>⟨(h k hk).1,(h k hk).2.1,(h k hk).2.2⟩
theorem zyC {i:Int} (h:i.natAbs<10 ^ 60):Fitt 61 0 (.int i):=⟨decide_eq_true h,Nat.le_refl _,Nat.le_refl _⟩
theorem rowD_fit {E:Ent} (h:yB E) {k:List Nat} (hk:k∈wC (ks E)):Fitt 349 7 (rowD E k) :=
 let ⟨_,_,A⟩:=h.at (wX.mp hk)
 (congrArg (Fitt 349 7) A.row).mpr (Fitt.tup (.cons (key_fit _ A.m) (.cons A.ok.fit .nil)))
theorem toldD_fit {E:Ent} (h:yB E):Fitt 1500 8 (ymF E) :=
 .mono (.tup (.cons (n:=42) (d:=0) ⟨rfl,by decide,by decide⟩ (.le (.map fun k hk=>rowD_fit h hk) (Nat.le_trans (Nat.le_of_eq zsI) h.klen)))) (by decide) (by decide)
theorem row_fit {R:List Row} (h:zH R):∀ {r:Row},r∈R→Fitt 1700 9 r.row
 |⟨n,g,b⟩,hr=>by
  have ht:Fitt 1500 8 (Row.told ⟨n,g,b⟩):=by
   cases b with
   |none=>exact (⟨rfl,by decide,by decide⟩:Fitt 1500 8 arrT)
   |some E=>exact toldD_fit (h.ent _ hr E rfl)
  have ⟨h1,h2⟩:=h.gen _ hr;exact .mono (.tup (.cons (zyC (Nat.lt_of_le_of_lt h1 (by decide))) (.cons (zyC (Nat.lt_of_le_of_lt h2 (by decide))) (.cons ht .nil)))) (by decide) (by decide)
theorem toldS_fit {R:List Row} (h:zH R):Fitt 65536 20 (zsF R) :=
 .mono (.tup (.cons (.tup (.le (.map fun r hr=>row_fit h hr) h.len)) (.cons (n:=1000) (d:=9) ⟨rfl,by decide,by decide⟩ .nil))) (by decide) (by decide)
theorem law_alike {R:List Row} (h:zH R):Ret 9 60 [zD R,zN R] (.bool true) :=
 .go rfl rfl (cl2 (zI h) (zQ h)) rfl fun k hk=>⟨_,by
  have f:=toldS_fit h;have hg:(okR (zsF R)&&decide (szR (zsF R)≤SZ)&&decide (zX (zsF R)≤20))=true:=by rw [f.r,decide_eq_true f.p,decide_eq_true (p:=szR (zsF R)≤SZ) f.s]; rfl
  exists told_shelf h k hk _,law_rows h k (Nat.le_trans (by decide) hk) _,told_sh0 k hk _,congrArg (zV · _) hg,ifT (znE _ f.r) rfl⟩
noncomputable def refV:PV:=.obj 7 [8,9] [.int 1,.int 0]
theorem zgG:∀ (f n:Nat) (ds:List Char),(Nat.toDigitsCore 10 f n ds).length≤f+ds.length:=by
 intro l0
 induction l0 with
 |zero =>
  intro n ds;exact Nat.le_add_left _ _
 |succ f ih =>
  intro n ds;show (if n / 10=0 then (n % 10).digitChar::ds else Nat.toDigitsCore 10 f (n / 10) ((n % 10).digitChar::ds)).length≤_
  by_cases h:n / 10=0
  ·rw [if_pos h]; exact Nat.le_trans (Nat.le_of_eq (Nat.add_comm _ _)) (Nat.add_le_add_right (Nat.succ_pos f) _)
  ·rw [if_neg h]; exact Nat.le_trans (ih (n / 10) _) (Nat.le_of_eq (Nat.add_right_comm f 1 ds.length).symm)
theorem intText_len:∀ {n:Int},n.natAbs≤1000→(yG n).length≤1003
 | .ofNat m,h=>Nat.le_trans (Nat.le_of_eq (List.length_map _)) (Nat.le_trans (zgG (m+1) m []) (Nat.le_trans (Nat.add_le_add_right h 1) (by decide)))
 | .negSucc m,h=>Nat.succ_le_succ (Nat.le_trans (Nat.le_of_eq (List.length_map _)) (Nat.le_trans (zgG (m+1+1) (m+1) []) (Nat.le_trans (Nat.add_le_add_right h 1) (by decide))))
noncomputable def Root (R:List Row) (E:Ent):Prop:=⟨1,0,some E⟩∈R
theorem look_root {R:List Row} {E:Ent} (h:zH R) (hr:Root R E):zS (R.map (·.n)) (R.map fun r=>.tup [.int r.g,r.val]) 1=some (.tup [.int 0,.dicS (ks E) (vs E)]):=xG (fun r=>.tup [.int r.g,r.val]) h.nd hr
theorem fetch_ok {R:List Row} {E:Ent} (h:zH R) (hr:Root R E):Ret 1 9 [yE R,refV] (.dicS (ks E) (vs E)) :=
 .go rfl rfl (cl2 (zU h) rfl) (h.ent _ hr E rfl).cvs fun k hk=>⟨_,by exists look_root h hr⟩
theorem look_none (f:Row→PV) {n:Int}:∀ {R:List Row},n∉R.map (·.n)→zS (R.map (·.n)) (R.map f) n=none:=by
 intro l0
 induction l0 with
 |nil =>
  intro _;exact rfl
 |cons q R ih =>
  intro h;exact (if_neg fun e:q.n=n=>h (e▸mQ)).trans (ih fun q'=>h (mC _ q'))
theorem fetch_no {R:List Row} (h:zH R) (hr:(1:Int)∉R.map (·.n)):Ret 1 9 [yE R,refV] .none :=
 .go rfl rfl (cl2 (zU h) rfl) rfl fun k hk=>⟨_,by exists (look_none (fun r=>.tup [.int r.g,r.val]) hr)⟩
theorem ypJ {R:List Row} {v:PV} {n:Nat} (h:zH R) (hv:closed v=true) (hf:Ret n 9 [yE R,refV] v):Ret (n+1) 10 [yE R,trlV,.str [82,111,111,116]] v :=
 .go rfl rfl (cl3 (zU h) rfl rfl) hv fun k hk=>⟨_,by exists hf k hk _⟩
theorem yhE {R:List Row} {E:Ent} (h:zH R) (hr:Root R E):Ret 3 14 [yE R] (.dicS (ks E) (vs E)) :=
 have hc:=(h.ent _ hr E rfl).cvs
 .go rfl rfl (cl1 (zU h)) hc fun k hk=>⟨_,by exists ypJ h (v:=.dicS (ks E) (vs E)) hc (fetch_ok h hr) k hk _⟩
theorem root_no {R:List Row} (h:zH R) (hr:(1:Int)∉R.map (·.n)):Ret 3 14 [yE R] (.dicS [] []) :=
 .go rfl rfl (cl1 (zU h)) rfl fun k hk=>⟨_,by exists ypJ h rfl (fetch_no h hr) k hk _⟩
theorem isE:∀ {E:Ent},E≠[]→(ks E).isEmpty=false:=by
 intro l0;cases l0 with
 |nil =>
  intro h;exact absurd rfl h
 |cons _ _ =>
  intro _;exact rfl
theorem init_bench {j:Nat} {a b d:PV} {o:PO}:callN TT (j+1) 49 [.ref 1,a,b,d] [o,.att 12 [] []]= .ok .none [o,.att 12 [12,16,17] [a,b,d]]:=goN rfl rfl rfl
theorem turned_ok {R R0:List Row} {E:Ent} (h:zH R) (h0:zH R0) (hr:Root R E) (hE:E≠[]):Ret 4 50 [zD R0,yE R] (zD R) :=
 .go rfl rfl (cl2 (zI h0) (zU h)) (zI h) fun k hk=>⟨_,by
  cases k with
  |zero=>cases hk
  |succ k=>exists yhE h hr _ hk _,init_bench,isE hE⟩
theorem zsC {R R0:List Row} (h:zH R) (h0:zH R0) (hr:(1:Int)∉R.map (·.n)∨Root R []):Exc 4 50 [zD R0,yE R] 2 :=
 have hf:Ret 3 14 [yE R] (.dicS [] []):=hr.elim (root_no h) (yhE h)
 .go rfl rfl (cl2 (zI h0) (zU h)) fun k hk=>⟨_,by exists hf _ hk _⟩
theorem in_tab {R:List Row} {n:Int} {H:Hp}:inV (.int n) (zxA R) H=some (decide (n∈R.map (·.n))):=rfl
theorem xR {R:List Row} (h:zH R) {r:Row} (hr:r∈R):Ret 1 51 [zD R,.int r.n] r.val :=
 .go rfl rfl (cl2 (zI h) rfl) (zmE (h.ent r hr)) fun k hk=>⟨_,by exists dnF (List.mem_map_of_mem (f:=fun r:Row=>r.n) hr),xG (fun r=>.tup [.int r.g,r.val]) h.nd hr⟩
theorem zkB {R:List Row} (h:zH R) {n:Int} (hn:n∉R.map (·.n)) (hb:n.natAbs≤1000):Exc 1 51 [zD R,.int n] 2 :=
 .go rfl rfl (cl2 (zI h) rfl) fun k hk=>⟨_,by exists dnT hn,ifT (Nat.le_trans hb (by decide)) rfl,ifT ⟨rfl,Nat.le_trans (Nat.le_of_eq List.length_append) (Nat.le_trans (Nat.add_le_add_left (intText_len hb) _) (by decide))⟩ rfl⟩
noncomputable def setR (n:Int) (E:Ent) (r:Row):Row:=if r.n=n then ⟨r.n,r.g,some E⟩ else r
noncomputable def setB (R:List Row) (n:Int) (E:Ent):List Row:=R.map (setR n E)
noncomputable def zhH (R:List Row) (n:Int):List Row:=R.filter fun r=> !decide (r.n=n)
section
variable {R:List Row} {n:Int} {E:Ent} {r:Row}
theorem znA (h:r.n=n):setR n E r=⟨r.n,r.g,some E⟩:=if_pos h
theorem zjH (h:¬ r.n=n):setR n E r=r:=if_neg h
theorem setR_n:(setR n E r).n=r.n:=by
 by_cases e:r.n=n
 ·rw [znA e]
 ·rw [zjH e]
theorem yoB:(setB R n E).map (·.n)=R.map (·.n):=List.map_map.trans (List.map_congr_left fun r _=>setR_n)
theorem yhD:∀ {R:List Row} {q r:Row},(R.map (·.n)).Nodup→q∈R→r∈R→q.n=r.n→q=r:=by
 intro l0
 induction l0 with
 |nil =>
  intro _ _ _ h _ _;exact nomatch h
 |cons p R ih =>
  intro q r hn hq hr e;obtain ⟨n1,n2⟩:=List.nodup_cons.mp hn;have no:∀ a∈R,p.n≠a.n:=fun a ha e=>n1 ((congrArg (· ∈R.map (·.n)) e).mpr (List.mem_map_of_mem (f:=fun r:Row=>r.n) ha))
  rcases mN hq with e1|hq
  ·rcases mN hr with e2|hr
   ·rw [e1,e2]
   ·exact absurd (e1▸e) (no r hr)
  ·rcases mN hr with e2|hr
   ·exact absurd (e2▸e.symm) (no q hq)
   ·exact ih n2 hq hr e
theorem not_n:∀ {R:List Row} {q:Row},q.n∉R.map (·.n)→∀ r∈R,r.n≠q.n:=fun n r hr e=>n (e▸List.mem_map_of_mem (f:=fun r:Row=>r.n) hr)
theorem yaG (f:Row→PV):∀ {R:List Row} {r:Row},(R.map (·.n)).Nodup→r∈R→setK (R.map (·.n)) (R.map f) r.n (f ⟨r.n,r.g,some E⟩)=((setB R r.n E).map (·.n),(setB R r.n E).map f):=by
 intro l0
 induction l0 with
 |nil =>
  intro _ _ h;exact nomatch h
 |cons q R ih =>
  intro r hn h;obtain ⟨n1,n2⟩:=List.nodup_cons.mp hn;show (if q.n=r.n then (q.n::R.map (·.n),f ⟨r.n,r.g,some E⟩::R.map f) else (q.n::(setK (R.map (·.n)) (R.map f) r.n (f ⟨r.n,r.g,some E⟩)).1,f q::(setK (R.map (·.n)) (R.map f) r.n (f ⟨r.n,r.g,some E⟩)).2))=((setR r.n E q::setB R r.n E).map (·.n),(setR r.n E q::setB R r.n E).map f)
  by_cases e:q.n=r.n
  ·have hq:q=r:=yhD hn mQ h e
   subst hq;have:setB R q.n E=R:=(List.map_congr_left fun a ha=>zjH (not_n n1 a ha)).trans (List.map_id _);rw [if_pos rfl,this,znA rfl]; rfl
  ·have hr:r∈R:=(mN h).resolve_left fun x=>e (x▸rfl)
   rw [if_neg e,ih n2 hr,zjH e]; rfl
theorem delK_row (f:Row→PV):∀ {R:List Row} {r:Row},(R.map (·.n)).Nodup→r∈R→delK (R.map (·.n)) (R.map f) r.n=((zhH R r.n).map (·.n),(zhH R r.n).map f):=by
 intro l0
 induction l0 with
 |nil =>
  intro _ _ h;exact nomatch h
 |cons q R ih =>
  intro r hn h;obtain ⟨n1,n2⟩:=List.nodup_cons.mp hn;show (if q.n=r.n then (R.map (·.n),R.map f) else (q.n::(delK (R.map (·.n)) (R.map f) r.n).1,f q::(delK (R.map (·.n)) (R.map f) r.n).2))=_;unfold zhH
  by_cases e:q.n=r.n
  ·have hq:q=r:=yhD hn mQ h e
   subst hq;rw [if_pos rfl,List.filter_cons_of_neg (p:=fun a:Row=> !decide (a.n=q.n)) (by rw [dnF rfl]; exact Bool.false_ne_true),List.filter_eq_self.mpr fun a ha=>dnT (not_n n1 a ha)]
  ·have hr:r∈R:=(mN h).resolve_left fun x=>e (x▸rfl)
   rw [if_neg e,List.filter_cons_of_pos (p:=fun a:Row=> !decide (a.n=r.n)) (dnT e),ih n2 hr]; rfl
theorem yaH {q:Row} (h:q∈setB R n E):∃ r∈R,q=setR n E r:=(List.mem_map.mp h).elim fun r h=>⟨r,h.1,h.2.symm⟩
theorem zjJ (h:zH R) (hE:yB E):zH (setB R n E):=by
 refine ⟨by rw [yoB]; exact h.so,Nat.le_trans (Nat.le_of_eq (List.length_map _)) h.len,fun q hq E2 e=> ?_,fun q hq=> ?_⟩
 ·refine oEA (yaH hq) fun r hr o1_=> ?_; obtain rfl:=o1_
  by_cases c:r.n=n
  ·rw [znA c] at e; cases e; exact hE
  ·rw [zjH c] at e; exact h.ent r hr E2 e
 ·refine oEA (yaH hq) fun r hr o1_=> ?_; obtain rfl:=o1_
  by_cases c:r.n=n
  ·rw [znA c]; exact h.gen r hr
  ·rw [zjH c]; exact h.gen r hr
theorem zeF (h:zH R):zH (zhH R n) :=
 have hs:(zhH R n).Sublist R:=List.filter_sublist
 ⟨h.so.sublist (hs.map _),Nat.le_trans hs.length_le h.len,fun r hr=>h.ent r (hs.subset hr),fun r hr=>h.gen r (hs.subset hr)⟩
end
theorem zbA {j:Nat} {o:PO}:callN TT (j+1) 8 [.ref 1,.ref 0,trlV] [o,.att 9 [] []]= .ok .none [o,.att 9 [10,11] [.ref 0,trlV]]:=goN rfl rfl rfl
theorem put_ok {j:Nat} {g v u:PV} {nums nums':List Int} {vals vals':List PV} {i:Int} (hk:setK nums vals i (.tup [g,v])=(nums',vals')) (hl:nums.length<SZ):callN TT (j+1) 11 [.ref 1,.int i,g,v] [.dicI nums vals,.att 9 [10,11] [.ref 0,u]]= .ok .none [.dicI nums' vals',.att 9 [10,11] [.ref 0,u]] :=
 goN rfl rfl (by exists siR hk hl)
theorem drop_ok {j:Nat} {u x:PV} {nums nums':List Int} {vals vals':List PV} {i:Int} (hi:i∈nums) (hx:zS nums vals i=some x) (hk:delK nums vals i=(nums',vals')):callN TT (j+1) 12 [.ref 1,.int i] [.dicI nums vals,.att 9 [10,11] [.ref 0,u]]= .ok .none [.dicI nums' vals',.att 9 [10,11] [.ref 0,u]] :=
 goN rfl rfl (by exists dcT hi,dpR hx hk)
noncomputable def zmB (n:Nat) (args:List PV) (f:Nat) (R:List Row):Prop:=(∃ E,Root R E∧E≠[]∧Ret n f args (zD R))∨(((1:Int)∉R.map (·.n)∨Root R [])∧Exc n f args 2)
theorem ynF {R R0:List Row} (h:zH R) (h0:zH R0) (hr:(1:Int)∈R.map (·.n)→∃ E,Root R E):zmB 4 [zD R0,yE R] 50 R:=by
 by_cases h1:(1:Int)∈R.map (·.n)
 ·obtain ⟨E,hE⟩:=hr h1
  by_cases e:E=[]
  ·subst e
   exact .inr ⟨.inr hE,zsC h h0 (.inr hE)⟩
  ·exact .inl ⟨E,hE,e,turned_ok h h0 hE e⟩
 ·exact .inr ⟨.inl h1,zsC h h0 (.inl h1)⟩
theorem zmB.lift {n m f f':Nat} {args args':List PV} {R:List Row} (T:zmB n args f R) (h1:Ret n f args (zD R)→Ret m f' args' (zD R)) (h2:Exc n f args 2→Exc m f' args' 2):zmB m args' f' R:=by
 rcases T with ⟨E,a,b,c⟩|⟨a,b⟩
 ·exact .inl ⟨E,a,b,h1 c⟩
 ·exact .inr ⟨a,h2 b⟩
theorem zH.tab {R:List Row} (h:zH R):(R.map (·.n)).length<SZ:=Nat.lt_of_le_of_lt (Nat.le_trans (Nat.le_of_eq (List.length_map _)) h.len) (by decide)
theorem setB_root {R:List Row} {n:Int} {E:Ent} (h:(1:Int)∈R.map (·.n)→∃ E,Root R E) (hm:(1:Int)∈(setB R n E).map (·.n)):∃ E2,Root (setB R n E) E2:=by
 rw [yoB] at hm;obtain ⟨E1,hE⟩:=h hm;have hq:=List.mem_map_of_mem (f:=setR n E) hE
 by_cases e:(1:Int)=n
 ·rw [znA e] at hq; exact ⟨_,hq⟩
 ·rw [zjH e] at hq; exact ⟨_,hq⟩
theorem dropR_root {R:List Row} {n:Int} (h:(1:Int)∈R.map (·.n)→∃ E,Root R E) (hm:(1:Int)∈(zhH R n).map (·.n)):∃ E,Root (zhH R n) E:=by
 refine oEA (List.mem_map.mp hm) fun q hq e=> ?_;obtain ⟨q1,q2⟩:=List.mem_filter.mp hq;obtain ⟨E,hE⟩:=h (e▸List.mem_map_of_mem (f:=fun r:Row=>r.n) q1);exact ⟨E,List.mem_filter.mpr ⟨hE,by rw [e] at q2; exact q2⟩⟩
theorem laid_ok {R:List Row} (h:zH R) (hroot:(1:Int)∈R.map (·.n)→∃ E,Root R E) {r:Row} (hr:r∈R) {E:Ent} (hE:yB E):zmB 5 [zD R,.int r.n,.int r.g,.dicS (ks E) (vs E)] 52 (setB R r.n E):=by
 have hc:zO [zD R,.int r.n,.int r.g,.dicS (ks E) (vs E)]=true:=cl4 (zI h) rfl rfl (show closed (.dicS (ks E) (vs E))=true from hE.cvs);have hp:∀ j,callN TT (j+1) 11 _ _=_:=fun j=>put_ok (u:=trlV) (yaG (fun r=>.tup [.int r.g,r.val]) h.nd hr (E:=E)) h.tab;exact (ynF (zjJ h hE) h (setB_root (n:=r.n) (E:=E) hroot)).lift
  (fun h1=>.go rfl rfl hc (zI (zjJ h hE)) fun k hk=>⟨_,by
   cases k with
   |zero=>cases hk
   |succ j=>exists zbA,hp j,h1 _ hk _⟩)
  fun h1=>.go rfl rfl hc fun k hk=>⟨_,by
   cases k with
   |zero=>cases hk
   |succ j=>exists zbA,hp j,h1 _ hk _⟩
theorem zzB {R:List Row} (h:zH R) (hroot:(1:Int)∈R.map (·.n)→∃ E,Root R E) {r:Row} (hr:r∈R):zmB 5 [zD R,.int r.n] 53 (zhH R r.n):=by
 have hc:zO [zD R,.int r.n]=true:=cl2 (zI h) rfl;have hp:∀ j,callN TT (j+1) 12 _ _=_:=fun j=>drop_ok (u:=trlV) (List.mem_map_of_mem (f:=fun r:Row=>r.n) hr) (xG (fun r=>.tup [.int r.g,r.val]) h.nd hr) (delK_row (fun r=>.tup [.int r.g,r.val]) h.nd hr);exact (ynF (zeF h (n:=r.n)) h (dropR_root hroot)).lift
  (fun h1=>.go rfl rfl hc (zI (zeF h)) fun k hk=>⟨_,by
   cases k with
   |zero=>cases hk
   |succ j=>exists xR h hr _ (Nat.succ_pos j) _,zbA,hp j,h1 _ hk _⟩)
  fun h1=>.go rfl rfl hc fun k hk=>⟨_,by
   cases k with
   |zero=>cases hk
   |succ j=>exists xR h hr _ (Nat.succ_pos j) _,zbA,hp j,h1 _ hk _⟩
theorem without_no {R:List Row} (h:zH R) {n:Int} (hn:n∉R.map (·.n)) (hb:n.natAbs≤1000):Exc 5 53 [zD R,.int n] 2 :=
 .go rfl rfl (cl2 (zI h) rfl) fun k hk=>⟨_,by exists zkB h hn hb k (Nat.le_trans (by decide) hk) _⟩
noncomputable def del (E:Ent) (key:List Nat):Ent:=E.filter fun q=> !decide (q.1=key)
noncomputable def one (key:List Nat) (w:Option (PV×PV)):Ent:=w.toList.map fun x=>(key,x.1,x.2)
noncomputable def putE (E:Ent) (key:List Nat) (w:Option (PV×PV)):Ent:=del E key++one key w
section
variable {E:Ent} {key:List Nat} {w:Option (PV×PV)}
theorem ztF {f:List Nat×PV×PV→PV}:∀ {Q:Ent},(ks Q).Nodup→zgI (Q.map fun q=>.tup [.str q.1,f q])=some (ks Q,Q.map f):=by
 intro l0
 induction l0 with
 |nil =>
  intro _;exact rfl
 |cons q Q ih =>
  intro h;exact (congrArg (fun o:Option (List (List Nat)×List PV)=>o.bind fun p=>if q.1∈p.1 then none else some (q.1::p.1,f q::p.2)) (ih (List.nodup_cons.mp h).2)).trans (if_neg (List.nodup_cons.mp h).1)
theorem zlI (h:yB E):yB (del E key) :=
 have hs:(del E key).Sublist E:=List.filter_sublist
 ⟨h.nd.sublist (hs.map _),fun p hp=>h.ok p (hs.subset hp)⟩
theorem ykJ:key∉ks (del E key):=fun hm =>
 (List.mem_map.mp hm).elim fun q h=>Bool.false_ne_true ((dnF h.2).symm.trans (List.mem_filter.mp h.1).2)
theorem zxF (h:yB E) (hk:key∈zlA) (hw:∀ x,w=some x→OkW x.1 x.2):yB (putE E key w):=by
 cases w with
 |none=>exact (congrArg yB (List.append_nil _)).mpr (zlI h)
 |some x =>
  refine ⟨?_,fun p hp=>(mP hp).elim ((zlI h).ok p) fun hp=>List.mem_singleton.mp hp▸⟨hk,hw x rfl⟩⟩;show (List.map (·.1) (del E key++[(key,x.1,x.2)])).Nodup;rw [List.map_append];exact List.nodup_append.mpr ⟨(zlI h).nd,List.nodup_cons.mpr ⟨List.not_mem_nil,List.nodup_nil⟩,fun a ha b hb e=>ykJ (List.mem_singleton.mp hb▸e▸ha)⟩
theorem setK_new {κ:Type} [DecidableEq κ] {x:κ} {w:PV}:∀ {l:List κ} {v:List PV},l.length=v.length→x∉l→setK l v x w=(l++[x],v++[w]):=by
 intro l0
 induction l0 with
 |nil =>
  intro l1;cases l1 with
  |nil =>
   intro _ _;exact rfl
  |cons _ _ =>
   intro h _;exact nomatch h
 |cons k l ih =>
  intro l1;cases l1 with
  |nil =>
   intro h _;exact nomatch h
  |cons u v =>
   intro hl h;exact (if_neg fun e:k=x=>h (e▸mQ)).trans (congrArg (fun r:List κ×List PV=>(k::r.1,u::r.2)) (ih (Nat.succ.inj hl) fun e=>h (mC _ e)))
theorem yhF (f:List Nat×PV×PV→PV) (x:PV×PV):setK (ks (del E key)) ((del E key).map f) key (f (key,x))=(ks (putE E key (some x)),(putE E key (some x)).map f) :=
 (setK_new ((List.length_map _).trans (List.length_map _).symm) ykJ).trans (congr (congrArg Prod.mk (List.map_append (l₂:=one key (some x))).symm) (List.map_append (l₂:=one key (some x))).symm)
theorem ybB:putE E key none=del E key:=List.append_nil _
noncomputable def y6 (key:List Nat):PV:=.obj 4 [4] [.str key]
theorem zeC:Ret 1 5 [y6 key] (.str [110,97,109,101]):=.go rfl rfl rfl rfl fun k hk=>⟨_,rfl⟩
theorem kind_arr:Ret 1 5 [.lst [.int 7]] (.str [97,114,114,97,121]):=.go rfl rfl rfl rfl fun k hk=>⟨_,rfl⟩
noncomputable def wrV (w:Option (PV×PV)):PV:=(w.map (·.1)).getD .none
noncomputable def wT (w:Option (PV×PV)):PV:=(w.map (·.2)).getD .none
noncomputable def WOk (w:Option (PV×PV)):Prop:=∀ x,w=some x→OkW x.1 x.2∧isNone x.2=false
theorem ydC {l:List PV}:yS (.dicS (ks E) l)=some (E.map fun q=>.str q.1):=congrArg some List.map_map
theorem ykI {l:List PV} {a:List (List Nat)} {b:List PV} (h:zgI l=some (a,b)):dicV false (.lst l)=some (.dicS a b):=omp (f:=fun q:List (List Nat)×List PV=>PO.dicS q.1 q.2) h
theorem yB.lt (h:yB E):(ks E).length<SZ:=Nat.lt_of_le_of_lt h.klen (by decide)
theorem yaF (h:yB E) {c:Call} {H:Hp} {x0 x1 x2 x5 x6:Option PV} {l:List PV}:evE TT c yqI [x0,x1,x2,some (.lst (y6 key::l)),some (.dicS (ks E) (vs E)),x5,x6] H= .ok (.lst ((del E key).map fun q=>.tup [.str q.1,q.2.1])) H :=
 lc_if (ι:=List Nat×PV×PV) (f:=fun q=>.str q.1) rfl ydC (fun q hq=>rfl) fun q hq=>by exists ziE (fun q:List Nat×PV×PV=>q.2.1) h.nd hq
theorem ynJ (h:yB E) (hw:WOk w) {c:Call} {x0 x1 x2 x4 x6:Option PV} {ss:Ss} {Q:Rs Fl} (k:evSs TT c ss [x0,x1,x2,some (.lst [y6 key,wrV w]),x4,some (.ref 0),x6] [.dicS (ks (putE E key w)) (vs (putE E key w))]=Q) :
  evSs TT c (.cons (.if_ (.cmp 7 (.idx (.var 3) (.cst (.int 1))) (.cst .none)) (.cons (.asgI (.var 5) (.attr (.idx (.var 3) (.cst (.int 0))) 4) (.idx (.var 3) (.cst (.int 1)))) .nil) .nil) ss)
  [x0,x1,x2,some (.lst [y6 key,wrV w]),x4,some (.ref 0),x6] [.dicS (ks (del E key)) (vs (del E key))]=Q:=by
 cases w with
 |none=>rw [ybB] at k; exists k
 |some x=>exists congrArg (!·) (hw x rfl).1.nn,siS (yhF (fun q=>q.2.1) x) (zlI h).lt,k
end
theorem yU {R:List Row} (h:zH R) {n:Int} {o:List Nat}:zO [zD R,.int n,.bytes o]=true:=cl3 (zI h) rfl rfl
theorem set_ok {R:List Row} (h:zH R) (hroot:(1:Int)∈R.map (·.n)→∃ E,Root R E) {r:Row} (hr:r∈R) {E:Ent} (e:r.b=some E) {key:List Nat} (hkey:key∈zlA) {w:Option (PV×PV)} (hw:WOk w) {o:List Nat} {np:Nat} (hnp:5≤np) (hp:Ret np 48 [.bytes o] (.lst [y6 key,wrV w])) :
  zmB (np+1) [zD R,.int r.n,.bytes o] 54 (setB R r.n (putE E key w)):=by
 obtain ⟨n,g,b⟩:=r;cases e;have hE:=h.ent _ hr E rfl;have hput:=zxF hE hkey (w:=w) fun x hx=>(hw x hx).1;have hd:=ykI (ztF (f:=fun q=>q.2.1) (zlI hE (key:=key)).nd);have hl:=xG (fun r=>.tup [.int r.g,r.val]) h.nd hr;have hk1:∀ {k},np≤k→1≤k:=fun hk=>Nat.le_trans (by decide) (Nat.le_trans hnp hk);exact (laid_ok h hroot hr hput).lift
  (fun h1=>.go rfl rfl (yU h) (zI (zjJ h hput)) fun k hk=>⟨_,by exists hp k hk _,zeC k (hk1 hk) _,xR h hr k (hk1 hk) _,zqF hE.cvs k (hk1 hk) _,yaF hE,hd,ynJ hE hw ?_,hl,h1 k (Nat.le_trans hnp hk) _⟩)
  fun h1=>.go rfl rfl (yU h) fun k hk=>⟨_,by exists hp k hk _,zeC k (hk1 hk) _,xR h hr k (hk1 hk) _,zqF hE.cvs k (hk1 hk) _,yaF hE,hd,ynJ hE hw ?_,hl,h1 k (Nat.le_trans hnp hk) _⟩
section
variable {R:List Row} {n:Int} {key o:List Nat} {w:Option (PV×PV)} {np:Nat} {r:Row} {E:Ent} {t:PV}
theorem set_no (h:zH R) (hn:n∉R.map (·.n)) (hb:n.natAbs≤1000) (hnp:5≤np) (hp:Ret np 48 [.bytes o] (.lst [y6 key,wrV w])):Exc (np+1) 54 [zD R,.int n,.bytes o] 2 :=
 .go rfl rfl (yU h) fun k hk=>⟨_,by
  have h1:1≤k:=Nat.le_trans (by decide) (Nat.le_trans hnp hk);exists hp k hk _,zeC k h1 _,zkB h hn hb k h1 _⟩
theorem set_arr (h:zH R) (hr:r∈R) (e:r.b=none) (hnp:5≤np) (hp:Ret np 48 [.bytes o] (.lst [y6 key,wrV w])):Exc (np+1) 54 [zD R,.int r.n,.bytes o] 2:=by
 obtain ⟨n,g,b⟩:=r;cases e;exact .go rfl rfl (yU h) fun k hk=>⟨_,by
  have h1:1≤k:=Nat.le_trans (by decide) (Nat.le_trans hnp hk);exists hp k hk _,zeC k h1 _,xR h hr k h1 _,kind_arr k h1 _⟩
theorem ygJ (h:zH R) {C:Nat} (hp:Exc np 48 [.bytes o] C):Exc (np+1) 54 [zD R,.int n,.bytes o] C:=.go rfl rfl (yU h) fun k hk=>⟨_,by exists hp k hk _⟩
theorem zxC (h:zH R) {vs:List PV} (hp:Ret np 48 [.bytes o] (.lst vs)) (hl:vs.length≠2):Exc (np+1) 54 [zD R,.int n,.bytes o] 2 :=
 .go rfl rfl (yU h) fun k hk=>⟨_,by exists hp k hk _,dnT fun e=>hl (Int.ofNat.inj e)⟩
theorem set_kind (h:zH R) {a b:PV} {kd:List Nat} (hnp:1≤np) (hp:Ret np 48 [.bytes o] (.lst [a,b])) (hk0:Ret 1 5 [a] (.str kd)) (hkd:kd≠[110,97,109,101]):Exc (np+1) 54 [zD R,.int n,.bytes o] 2 :=
 .go rfl rfl (yU h) fun k hk=>⟨_,by exists hp k hk _,hk0 k (Nat.le_trans hnp hk) _,dnT hkd⟩
theorem in_mod {H:Hp}:inV (.int n) (zN R) H=some (decide (n∈R.map (·.n))):=rfl
theorem with_no (h:zH R) (hn:n∉R.map (·.n)) (ht:closed t=true):Ret 1 63 [zN R,.int n,.str key,t] .none :=
 .go rfl rfl (cl4 (zQ h) rfl rfl ht) rfl fun k hk=>⟨_,by exists dnT hn⟩
theorem yfB (hr:r∈R):r.n∈R.map (·.n):=List.mem_map_of_mem (f:=fun r:Row=>r.n) hr
theorem wE (h:zH R) (hr:r∈R):zS (R.map (·.n)) (R.map fun r=>.tup [.int r.g,r.wor]) r.n=some (.tup [.int r.g,r.wor]):=xG (fun r=>.tup [.int r.g,r.wor]) h.nd hr
theorem with_arr (h:zH R) (hr:r∈R) (e:r.b=none) (ht:closed t=true):Ret 1 63 [zN R,.int r.n,.str key,t] .none:=by
 obtain ⟨n,g,b⟩:=r;cases e;exact .go rfl rfl (cl4 (zQ h) rfl rfl ht) rfl fun k hk=>⟨_,by exists dnF (yfB hr),wE h hr⟩
theorem zjC (h:zH R) {g:Int} (hr:⟨n,g,some E⟩∈R) {c:Call} {x3 x4 x5 x6:Option PV}:evE TT c yqF [some (zN R),some (.int n),some (.str key),x3,x4,x5,x6] []= .ok (.lst ((del E key).map fun q=>.tup [.str q.1,q.2.2])) [] :=
 lc_if (ι:=List Nat×PV×PV) (f:=fun q=>.str q.1) (by exists wE h hr) ydC (fun q hq=>rfl) fun q hq=>by exists wE h hr,ziE (fun q:List Nat×PV×PV=>q.2.2) (h.ent _ hr E rfl).nd hq
theorem zwH (h:yB E) (hw:WOk w) {c:Call} {x0 x1 x5 x6:Option PV} {ss:Ss} {Q:Rs Fl} (k:evSs TT c ss [x0,x1,some (.str key),some (wT w),some (.ref 0),x5,x6] [.dicS (ks (putE E key w)) (ts (putE E key w))]=Q) :
  evSs TT c (.cons (.if_ (.cmp 7 (.var 3) (.cst .none)) (.cons (.asgI (.var 4) (.var 2) (.var 3)) .nil) .nil) ss) [x0,x1,some (.str key),some (wT w),some (.ref 0),x5,x6] [.dicS (ks (del E key)) (ts (del E key))]=Q:=by
 cases w with
 |none=>rw [ybB] at k; exists k
 |some x=>exists congrArg (!·) (hw x rfl).2,siS (yhF (fun q=>q.2.2) x) (zlI h).lt,k
theorem with_ok (h:zH R) (hr:r∈R) (e:r.b=some E) (hkey:key∈zlA) (hw:WOk w) :
  Ret 1 63 [zN R,.int r.n,.str key,wT w] (if r.n=1∧putE E key w=[] then .none else zN (setB R r.n (putE E key w))):=by
 obtain ⟨n,g,b⟩:=r;cases e;have hE:=h.ent _ hr E rfl;have hput:=zxF hE hkey (w:=w) fun x hx=>(hw x hx).1;have hm:=zQ (zjJ h (n:=n) hput);have ht:closed (wT w)=true:=by
  cases w with
  |none=>rfl
  |some x=>exact (hw x rfl).1.ct
 have hd:=ykI (ztF (f:=fun q=>q.2.2) (zlI hE (key:=key)).nd);have hs:=fun H i loc=>siR (H:=H) (i:=i) (loc:=loc) (yaG (fun r=>.tup [.int r.g,r.wor]) h.nd hr (E:=putE E key w)) h.tab
 by_cases n1:n=1
 ·subst n1
  by_cases hz:putE E key w=[]
  ·rw [if_pos ⟨rfl,hz⟩]
   exact .go rfl rfl (cl4 (zQ h) rfl rfl ht) rfl fun k hk=>⟨_,by exists dnF (yfB hr),wE h hr,zjC h hr,hd,zwH hE hw ?_,congrArg (fun E=>(ks E).isEmpty) hz⟩
  ·rw [if_neg fun q=>hz q.2]
   exact .go rfl rfl (cl4 (zQ h) rfl rfl ht) hm fun k hk=>⟨_,by exists dnF (yfB hr),wE h hr,zjC h hr,hd,zwH hE hw ?_,isE hz,hs _ _ _⟩
 ·rw [if_neg fun q=>n1 q.1]
  exact .go rfl rfl (cl4 (zQ h) rfl rfl ht) hm fun k hk=>⟨_,by exists dnF (yfB hr),wE h hr,zjC h hr,hd,zwH hE hw ?_,dcF n1,hs _ _ _⟩
end
section
variable {R:List Row} {n:Int} {r:Row}
theorem pairsI_ok {f:Row→PV}:∀ {Q:List Row},(Q.map (·.n)).Nodup→zgJ (Q.map fun q=>.tup [.int q.n,f q])=some (Q.map (·.n),Q.map f):=by
 intro l0
 induction l0 with
 |nil =>
  intro _;exact rfl
 |cons q Q ih =>
  intro h;exact (congrArg (fun o:Option (List Int×List PV)=>o.bind fun p=>if q.n∈p.1 then none else some (q.n::p.1,f q::p.2)) (ih (List.nodup_cons.mp h).2)).trans (if_neg (List.nodup_cons.mp h).1)
theorem ygB (h:zH R) (hn:n∉R.map (·.n)∨n=1):Ret 1 62 [zN R,.int n] .none :=
 .go rfl rfl (cl2 (zQ h) rfl) rfl fun k hk=>⟨_,by
  by_cases h1:n∈R.map (·.n)
  ·exists dnF h1,dcT (hn.resolve_left fun q:¬ _=>q h1)
  ·exists dnT h1⟩
theorem wout_loop (h:zH R) {c:Call} {x2:Option PV}:evE TT c yqG [some (zN R),some (.int n),x2] []= .ok (.lst ((zhH R n).map fun q=>.tup [.int q.n,.tup [.int q.g,q.wor]])) [] :=
 lc_if (ι:=Row) (f:=fun q=>.int q.n) rfl (congrArg some List.map_map) (fun q hq=>rfl) fun q hq=>by exists wE h hq
theorem dicI_ok {l:List PV} {a:List Int} {b:List PV} (h:zgJ l=some (a,b)):dicV true (.lst l)=some (.dicI a b):=omp (f:=fun q:List Int×List PV=>PO.dicI q.1 q.2) h
theorem wout_ok (h:zH R) (hr:r∈R) (h1:r.n≠1):Ret 1 62 [zN R,.int r.n] (zN (zhH R r.n)) :=
 .go rfl rfl (cl2 (zQ h) rfl) (zQ (zeF h)) fun k hk=>⟨_,by exists dnF (yfB hr),dcF h1,wout_loop h,dicI_ok (pairsI_ok (f:=fun r=>.tup [.int r.g,r.wor]) (zeF h).nd)⟩
end
noncomputable def strO (b:List Nat) (h:Bool):PV:=.obj 5 [5,6] [.bytes b,.bool h]
noncomputable def wS:List (List Nat×Option (PV×PV)):=[
 ([110,117,108,108],none),
 ([116,114,117,101],some (.bool true,.tup [.str [116,114,117,116,104],.int 1])),
 ([47,66,35,50,48],some (y6 [66,32],.tup [.str [110,97,109,101],.str [66,32]])),
 ([40,97,40,98,41,92,53,49,41],some (strO [97,40,98,41,41] false,.tup [.str [115,116,114,105,110,103],.bytes [97,40,98,41,41]])),
 ([60,52,97,53,62],some (strO [74,80] true,.tup [.str [115,116,114,105,110,103],.bytes [74,80]])),
 ([45,49,46,53,48],some (.obj 3 [2,3] [.int (-15),.int 1],.tup [.str [114,101,97,108],.int (-15),.int 1])),
 ([50,32,51,32,82],some (.obj 7 [8,9] [.int 2,.int 3],.tup [.str [114,101,102],.int 2,.int 3])),
 ([91,49,32,110,117,108,108,47,67,93],some (.lst [.int 1,.none,y6 [67]],.tup [.str [97,114,114,97,121],.tup [.str [105,110,116],.int 1],.tup [.str [110,117,108,108]],.tup [.str [110,97,109,101],.str [67]]])),
 ([60,60,47,68,32,52,47,68,32,53,47,69,32,110,117,108,108,62,62],some (.dicS [[68]] [.int 5],.tup [.str [100,105,99,116],.tup [.str [68],.tup [.str [105,110,116],.int 5]]]))]
noncomputable def keyL:List (List Nat×List Nat):=[([47,65],[65]),([47,35,52,50],[66]),([47,84,121,112,101],[84,121,112,101]),([47],[])]
noncomputable def zzD:List (PV×PV):=wS.filterMap (·.2)
theorem told_tab (k:Nat):(zzD.map fun p=>valR (callN TT (k+6) 7 [p.1] []))=zzD.map fun p=>some p.2:=by kernel_rfl
theorem worth_bool:∀ x∈zzD,closed x.1=true∧closed x.2=true∧isNone x.1=false∧isNone x.2=false∧okR x.2=true∧szR x.2≤300∧zX x.2≤6:=by decide
theorem zzC (p:List Nat×Option (PV×PV)) (hp:p∈wS):WOk p.2:=fun x hx =>
 have hm:x∈zzD:=List.mem_filterMap.mpr ⟨p,hp,hx⟩;have w:=worth_bool x hm
 ⟨⟨w.1,w.2.1,w.2.2.1,yF (n:=5) (cl1 w.1) w.2.1 fun k=>List.map_inj_left.mp (told_tab k) x hm,⟨w.2.2.2.2.1,w.2.2.2.2.2.1,w.2.2.2.2.2.2⟩⟩,w.2.2.2.1⟩
noncomputable def RowP (kb key:List Nat) (k:Nat):Prop:=∀ p∈wS,valR (callN TT (k+12) 48 [.bytes (kb++[32]++p.1)] [])=some (.lst [y6 key,wrV p.2])
theorem rowP {kb key:List Nat} {k:Nat} (h:(wS.map fun p=>valR (callN TT (k+12) 48 [.bytes (kb++[32]++p.1)] []))=wS.map fun p=>some (.lst [y6 key,wrV p.2])):RowP kb key k:=fun p hp=>List.map_inj_left.mp h p hp
theorem row_0 (k:Nat):RowP [47,65] [65] k:=rowP (by kernel_rfl)
theorem row_1 (k:Nat):RowP [47,35,52,50] [66] k:=rowP (by kernel_rfl)
theorem row_2 (k:Nat):RowP [47,84,121,112,101] [84,121,112,101] k:=rowP (by kernel_rfl)
theorem row_3 (k:Nat):RowP [47] [] k:=rowP (by kernel_rfl)
theorem parse_tab (k:Nat):∀ q∈keyL,RowP q.1 q.2 k :=
 List.forall_mem_cons.mpr ⟨row_0 k,List.forall_mem_cons.mpr ⟨row_1 k,List.forall_mem_cons.mpr ⟨row_2 k,List.forall_mem_cons.mpr ⟨row_3 k,fun _ h=>nomatch h⟩⟩⟩⟩
theorem wV_closed {w:Option (PV×PV)} (h:WOk w):closed (wrV w)=true:=by
 cases w with
 |none=>rfl
 |some x=>exact (h x rfl).1.cv
theorem parse_ok {q:List Nat×List Nat} (hq:q∈keyL) {p:List Nat×Option (PV×PV)} (hp:p∈wS):Ret 12 48 [.bytes (q.1++[32]++p.1)] (.lst [y6 q.2,wrV p.2]) :=
 yF (n:=11) rfl (cl2 rfl (wV_closed (zzC p hp))) fun k=>parse_tab k q hq p hp
theorem odd_0 (k:Nat):valR (callN TT (k+12) 48 [.bytes [55,32,55]] [])=some (.lst [.int 7,.int 7]):=by kernel_rfl
theorem odd_1 (k:Nat):valR (callN TT (k+12) 48 [.bytes [47,65]] [])=some (.lst [y6 [65]]):=by kernel_rfl
theorem odd_2 (k:Nat):valR (callN TT (k+12) 48 [.bytes [47,65,32,49,32,50]] [])=some (.lst [y6 [65],.int 1,.int 2]):=by kernel_rfl
theorem odd_3 (k:Nat):valR (callN TT (k+12) 48 [.bytes []] [])=some (.lst []):=by kernel_rfl
theorem odd_4 (k:Nat):excR (callN TT (k+12) 48 [.bytes [47,65,32,40]] [])=some 1:=by kernel_rfl
theorem odd_5 (k:Nat):excR (callN TT (k+12) 48 [.bytes [47,65,32,62,62]] [])=some 1:=by kernel_rfl
theorem odd_6 (k:Nat):valR (callN TT (k+12) 48 [.bytes [47,65,32,49,32,37,50]] [])=some (.lst [y6 [65],.int 1]):=by kernel_rfl
noncomputable abbrev CU (d:List Nat) (a L:Nat):PO:=.att 10 [12,1,13] [.bytes d,.int a,.int L]
section
variable {t:Loc→Hp→Rs PV} {f:Loc→Hp→Rs Fl} {n:Nat} {loc loc2:Loc} {H H1 H2:Hp} {v:PV} {R:Rs Fl} {q:Bool}
theorem zhJ (h1:t loc H= .ok (.bool true) H) (h2:f loc H= .ok (.next loc2) H2) (h3:zL t f n loc2 H2=R):zL t f (n+1) loc H=R:=bnd h1 (bnd rfl (bnd h2 h3))
theorem zrI (h1:t loc H= .ok (.bool true) H) (h2:f loc H= .ok (.ret v) H2):zL t f (n+1) loc H= .ok (.ret v) H2:=bnd h1 (bnd rfl (bnd h2 rfl))
theorem xB (h1:t loc H= .ok (.bool false) H):zL t f (n+1) loc H= .ok (.next loc) H:=bnd h1 rfl
end
section
variable {d:List Nat} {a b L x y k c:Nat} {H Hr:Hp}
theorem ltT (h:a<b):decide ((a:Int)<(b:Int))=true:=dcT (Int.ofNat_lt.mpr h)
theorem ltF (h:¬ a<b):decide ((a:Int)<(b:Int))=false:=dcF fun q=>h (Int.ofNat_lt.mp q)
theorem leF (h:¬ a≤b):decide ((a:Int)≤(b:Int))=false:=dcF fun q=>h (Int.ofNat_le.mp q)
theorem ixb (h:d[a]? =some x):idxV (.bytes d) (.int (a:Int)) H=some (.int (x:Int)):=omp (f:=fun x=>PV.int (.ofNat x)) h
theorem yaE (h:zA H c=CU d L L):callN TT (k+1) 24 [.ref c] H= .ok .none H :=
 goN rfl rfl (by exists xB ?_,avR h rfl,dcF (Int.lt_irrefl _))
theorem take_end (h:zA H c=CU d L L) (hL:L=d.length):callN TT (k+1) 25 [.ref c] H= .ok (.bytes []) H:=by
 rw [show ([]:List Nat)=(d.take L).drop L from (List.drop_eq_nil_of_le (by rw [hL,List.length_take]; exact Nat.min_le_left _ _)).symm];exact go rfl rfl (by exists xB ?_,avR h rfl,dcF (Int.lt_irrefl _))
structure ymD (x:Nat):Prop where
 a:decide ((x:Int)=37)=false
 b:decide ((x:Int)∈([0,9,10,12,13,32]:List Int))=false
theorem zsJ (ha:a<L) (hx:d[a]? =some x) (hs:ymD x) {c:Call} {v:Option PV} {n:Nat}:zL (evE TT c (.cmp 2 (.attr (.var 0) 1) (.attr (.var 0) 13))) (evSs TT c yrH) (n+1) [some (.ref 0),v] (CU d a L::Hr)= .ok (.ret .none) (CU d a L::Hr) :=
 zrI (by exists ltT ha) (by exists ixb hx,hs.a,hs.b)
theorem zjG (ha:a<L) (hx:d[a]? =some x) (hs:ymD x):callN TT (k+1) 24 [.ref 0] (CU d a L::Hr)= .ok .none (CU d a L::Hr) :=
 go rfl rfl (srt (zsJ ha hx hs))
theorem skip_space (ha:a+1<L) (hx:d[a]? =some 32) (hy:d[a+1]? =some y) (hs:ymD y):callN TT (k+1) 24 [.ref 0] (CU d a L::Hr)= .ok .none (CU d (a+1) L::Hr) :=
 go rfl rfl (srt (zhJ (by exists ltT (Nat.lt_of_succ_lt ha)) (loc2:=[some (.ref 0),some (.int 32)]) (by exists ixb hx) (zsJ ha hy hs)))
noncomputable def regL:List Nat:=[45,48,49,50,51,52,53,54,55,56,57,65,35,84,121,112,101]
theorem reg_tab (k:Nat):(regL.map fun (x:Nat)=>valR (callN TT (k+1) 17 [.int (x:Int)] []))=(regL.map fun (_:Nat)=>some (.bool true)):=by kernel_rfl
theorem reg_ok (hx:x∈regL):Ret 1 17 [.int (x:Int)] (.bool true):=yF (n:=0) rfl rfl fun k=>List.map_inj_left.mp (reg_tab k) x hx
theorem reg_sp:Ret 1 17 [.int 32] (.bool false):=yF (n:=0) rfl rfl fun k=>by kernel_rfl
noncomputable abbrev tkC:E:=.and (.cons (.cmp 2 (.attr (.var 0) 1) (.attr (.var 0) 13)) (.cons (.callC 17 (.cons (.idx (.attr (.var 0) 12) (.attr (.var 0) 1)) .nil)) .nil))
theorem take_stop (hk:1≤k) (h:b=L∨b<L∧d[b]? =some 32) {v:PV} {n:Nat}:zL (evE TT (callN TT k) tkC) (evSs TT (callN TT k) ylJ) (n+1) [some (.ref 0),some v] (CU d b L::Hr)= .ok (.next [some (.ref 0),some v]) (CU d b L::Hr):=by
 rcases h with rfl|⟨h,hx⟩
 ·exists xB ?_,dcF (Int.lt_irrefl _)
 ·exists xB ?_,ltT h,ixb hx,reg_sp k hk _
theorem take_loop (hk:1≤k) (hbL:b≤L) (hs:b=L∨b<L∧d[b]? =some 32) {v:PV}:∀ (m:Nat) {n a:Nat},(∀ i,a≤i→i<b→∃ x,d[i]? =some x∧x∈regL)→a+m=b→m<n →
  zL (evE TT (callN TT k) tkC) (evSs TT (callN TT k) ylJ) n [some (.ref 0),some v] (CU d a L::Hr)= .ok (.next [some (.ref 0),some v]) (CU d b L::Hr):=by
 intro l0
 induction l0 with
 |zero =>
  intro l1;cases l1 with
  |zero =>
   intro _ _ _ hn;exact absurd hn (Nat.not_lt_zero _)
  |succ n =>
   intro a _ hm _;obtain rfl:a=b:=hm;exact take_stop hk hs
 |succ m ih =>
  intro l1;cases l1 with
  |zero =>
   intro _ _ _ hn;exact absurd hn (Nat.not_lt_zero _)
  |succ n =>
   intro a hr hm hn;have hab:a<b:=Nat.lt_of_lt_of_eq (Nat.lt_add_of_pos_right (Nat.succ_pos m)) hm;refine oEA (hr a (Nat.le_refl _) hab) fun x hx hxr=> ?_;have ih:=ih (n:=n) (a:=a+1) (fun i h1 h2=>hr i (Nat.le_of_succ_le h1) h2) ((Nat.succ_add_eq_add_succ a m).trans hm) (Nat.lt_of_succ_lt_succ hn);exists zhJ ?_ ?_ ih,ltT (Nat.lt_of_lt_of_le hab hbL),ixb hx,reg_ok hxr k hk _
theorem zzH (hk:1≤k) (hab:a≤b) (hbL:b≤L) (hf:b-a<100) (hreg:∀ i,a≤i→i<b→∃ x,d[i]? =some x∧x∈regL) (hs:b=L∨b<L∧d[b]? =some 32):callN TT (k+1) 25 [.ref 0] (CU d a L::Hr)= .ok (.bytes ((d.take b).drop a)) (CU d b L::Hr) :=
 go rfl rfl (by exists take_loop hk hbL hs (b-a) hreg (Nat.add_sub_cancel' hab) hf)
end
noncomputable def valF (t:Int):List Nat→Int
 |[]=>t
 |x::r=>valF (10*t+x-48) r
noncomputable def Digs (ds:List Nat):Prop:=∀ x∈ds,48≤x∧x≤57
theorem ydH {c:Call} {o b:PV} {H:Hp}:∀ {ds:List Nat} {t:Int} {n:Nat} {x5:Option PV},Digs ds→∃ y5,z4 5 (evSs TT c b_1_0) (ds.map fun x=>.int (.ofNat x)) [some o,some b,some (.int t),some (.int n),some (.int (-1)),x5] H =
  .ok (.next [some o,some b,some (.int (valF t ds)),some (.int ((n+ds.length:Nat):Int)),some (.int (-1)),y5]) H:=by
 intro l0
 induction l0 with
 |nil =>
  intro t n x5 _;exact ⟨x5,rfl⟩
 |cons x r ih =>
  intro t n x5 h;have ⟨h1,h2⟩:=h x mQ;have hb:evSs TT c b_1_0 [some o,some b,some (.int t),some (.int n),some (.int (-1)),some (.int (.ofNat x))] H= .ok (.next [some o,some b,some (.int (10*t+x-48)),some (.int ((n+1:Nat):Int)),some (.int (-1)),some (.int (.ofNat x))]) H:=by exists dcF (fun e:(x:Int)=46=>absurd (Int.ofNat.inj e▸h1) (by decide)),dcT (Int.ofNat_le.mpr h1),dcT (Int.ofNat_le.mpr h2)
  obtain ⟨y5,hr⟩:=ih (t:=10*t+x-48) (n:=n+1) (x5:=some (.int (.ofNat x))) fun y hy=>h y (mC _ hy);rw [Nat.add_right_comm] at hr;exact ⟨y5,bnd hb hr⟩
theorem slc_0 {l:List Nat}:slcV (.bytes l) (.int 0) .none=some (.bytes l):=rfl
theorem slc_1 {x:Nat} {l:List Nat}:slcV (.bytes (x::l)) (.int 1) .none=some (.bytes l):=rfl
theorem zuB {a b:Nat} (h:a≠b):decide ((a:Int)=(b:Int))=false:=dcF fun e=>h (Int.ofNat.inj e)
theorem dec_pos:∀ {ds:List Nat},Digs ds→ds≠[]→ds.length≤40→Ret 1 1 [.bytes ds] (.int (valF 0 ds)):=by
 intro l0;cases l0 with
 |nil =>
  intro _ h0 _;exact absurd rfl h0
 |cons x r =>
  intro h _ hl;exact .go rfl rfl rfl rfl fun k hk=>⟨_,by
   have ⟨h1,h2⟩:=h x mQ;obtain ⟨y5,hr⟩:=ydH (c:=callN TT k) (o:=.bytes (x::r)) (b:=.int 0) (H:=[]) (ds:=x::r) (t:=0) (n:=0) (x5:=none) h;rw [Nat.zero_add] at hr;exists (sfo (v:=.bytes (x::r)) rfl rfl hr:evS TT (callN TT k) s_1_1 _ _=_),zuB (b:=43) (fun e=>absurd (e▸h1) (by decide)),zuB (b:=45) (fun e=>absurd (e▸h1) (by decide)),zuB (b:=0) (Nat.succ_ne_zero r.length),dcF (Int.not_lt.mpr (Int.ofNat_le.mpr hl)),dcT (Int.ofNat_lt.mpr (Nat.succ_pos r.length))⟩
theorem dec_neg:∀ {ds:List Nat},Digs ds→ds≠[]→ds.length≤40→Ret 1 1 [.bytes (45::ds)] (.int (-(valF 0 ds))):=by
 intro l0;cases l0 with
 |nil =>
  intro _ h0 _;exact absurd rfl h0
 |cons x r =>
  intro h _ hl;exact .go rfl rfl rfl rfl fun k hk=>⟨_,by
   obtain ⟨y5,hr⟩:=ydH (c:=callN TT k) (o:=.bytes (45::x::r)) (b:=.int 1) (H:=[]) (ds:=x::r) (t:=0) (n:=0) (x5:=none) h;rw [Nat.zero_add] at hr;exists (sfo (v:=.bytes (x::r)) rfl rfl hr:evS TT (callN TT k) s_1_1 _ _=_),zuB (b:=0) (Nat.succ_ne_zero r.length),dcF (Int.not_lt.mpr (Int.ofNat_le.mpr hl)),dcT (Int.ofNat_lt.mpr (Nat.succ_pos (x::r).length))⟩
theorem dec_nil:Ret 1 1 [.bytes []] .none:=.go rfl rfl rfl rfl fun k hk=>⟨_,rfl⟩
noncomputable def ymI:Nat→Nat→List Nat
 |0,_=>[]
 |f+1,n=>if n<10 then [48+n] else ymI f (n / 10)++[48+n % 10]
theorem zvF {n f:Nat} (c:¬ n<10) (h:n<f+1):n / 10<f:=Nat.lt_of_lt_of_le (Nat.div_lt_self (Nat.lt_of_lt_of_le (by decide) (Nat.le_of_not_lt c)) (by decide)) (Nat.le_of_lt_succ h)
theorem digsF_eq:∀ {f g n:Nat},n<f→n<g→ymI f n=ymI g n:=by
 intro l0
 induction l0 with
 |zero =>
  intro l1;cases l1 with
  |zero =>
   intro _ h h;exact absurd h (Nat.not_lt_zero _)
  |succ _ =>
   intro _ h _;exact absurd h (Nat.not_lt_zero _)
 |succ f ih =>
  intro l1;cases l1 with
  |zero =>
   intro _ _ h;exact absurd h (Nat.not_lt_zero _)
  |succ g =>
   intro n h h';exact if c:n<10 then (if_pos c).trans (if_pos c).symm else
    (if_neg c).trans ((congrArg (· ++[48+n % 10]) (ih (g:=g) (n:=n / 10) (zvF c h) (zvF c h'))).trans (if_neg c).symm)
noncomputable def digs (n:Nat):List Nat:=ymI (n+1) n
theorem zrA {n:Nat} (c:n<10):digs n=[48+n]:=if_pos c
theorem zyG {n:Nat} (c:¬ n<10):digs n=digs (n / 10)++[48+n % 10]:=(if_neg c).trans (congrArg (· ++[48+n % 10]) (digsF_eq (zvF c (Nat.lt_succ_self n)) (Nat.lt_succ_self _)))
theorem zrB {M:Nat→List Nat→Prop} (a:∀ n,n<10→M n [48+n]) (b:∀ n,¬ n<10→M (n / 10) (digs (n / 10))→M n (digs (n / 10)++[48+n % 10])) (n:Nat):M n (digs n) :=
 Nat.strongRecOn n fun n ih=>if c:n<10 then zrA c▸a n c else zyG c▸b n c (ih _ (zvF c (Nat.lt_succ_self n)))
theorem digitChar_nat:∀ k,k<10→(Nat.digitChar k).toNat=48+k:=by decide
theorem core_digs:∀ (f n:Nat) (acc:List Char),n<f→(Nat.toDigitsCore 10 f n acc).map Char.toNat=digs n++acc.map Char.toNat:=by
 intro l0
 induction l0 with
 |zero =>
  intro n acc h;exact absurd h (Nat.not_lt_zero _)
 |succ f ih =>
  intro n acc h;show (if n / 10=0 then (n % 10).digitChar::acc else Nat.toDigitsCore 10 f (n / 10) ((n % 10).digitChar::acc)).map Char.toNat=_;have hc:=digitChar_nat (n % 10) (Nat.mod_lt _ (by decide))
  by_cases c:n<10
  ·rw [if_pos (Nat.div_eq_of_lt c),List.map_cons,hc,Nat.mod_eq_of_lt c,zrA c]; rfl
  ·rw [if_neg fun e=>c (Nat.lt_of_div_eq_zero (by decide) e),ih (n / 10) _ (zvF c h),List.map_cons,hc,zyG c,List.append_assoc]; rfl
theorem zpB (n:Nat):yG (n:Int)=digs n:=(core_digs (n+1) n [] (Nat.lt_succ_self n)).trans (List.append_nil _)
theorem zzG (n:Nat):yG (Int.negSucc n)=45::digs (n+1):=congrArg (45:: ·) (zpB (n+1))
theorem zcJ:∀ n,Digs (digs n):=zrB (M:=fun _ l=>Digs l) (fun n h x hx=>List.mem_singleton.mp hx▸⟨Nat.le_add_right _ _,Nat.add_le_add_left (Nat.le_of_lt_succ h) 48⟩) fun n _ ih x hx =>
 (mP hx).elim (ih x) fun hx=>List.mem_singleton.mp hx▸⟨Nat.le_add_right _ _,Nat.add_le_add_left (Nat.le_of_lt_succ (Nat.mod_lt _ (by decide))) 48⟩
theorem zyF:∀ n,digs n≠[]:=zrB (M:=fun _ l=>l≠[]) (fun n _ h=>nomatch h) fun n _ _ h=>nomatch (List.append_eq_nil_iff.mp h).2
theorem valF_app:∀ (l:List Nat) (t:Int) (x:Nat),valF t (l++[x])=10*valF t l+x-48:=by
 intro l0
 induction l0 with
 |nil =>
  intro t x;exact rfl
 |cons y l ih =>
  intro t x;exact ih _ x
theorem zsB:∀ n:Nat,valF 0 (digs n)=n:=zrB (M:=fun n l=>valF 0 l=n) (fun n _=>by show 10*0+((48+n:Nat):Int)-48=n; lia) fun n _ ih=>by rw [valF_app,ih]; lia
theorem ydG:∀ (k n:Nat),n<10 ^ (k+1)→(digs n).length≤k+1:=by
 intro l0
 induction l0 with
 |zero =>
  intro n h;rw [zrA h]; exact Nat.le_refl _
 |succ k ih =>
  intro n h
  by_cases c:n<10
  ·rw [zrA c]; exact Nat.succ_le_succ (Nat.zero_le _)
  ·rw [zyG c,List.length_append]
   exact Nat.succ_le_succ (ih (n / 10) ((Nat.div_lt_iff_lt_mul (by decide)).mpr ((Nat.pow_succ 10 (k+1))▸h)))
structure yfD (ds:List Nat) (n:Int):Prop where
 len:ds.length≤41
 ne:ds≠[]
 reg:∀ x∈ds,x∈regL
 stop:∀ x,ds[0]? =some x→ymD x∧(x=45∨48≤x∧x≤57)
 dec:Ret 1 1 [.bytes ds] (.int n)
theorem ykH {x:Nat} (h:48≤x∧x≤57):x∈regL :=
 have:∀ y,y<58→48≤y→y∈regL:=by decide
 this x (Nat.lt_succ_of_le h.2) h.1
theorem dig_stop {x:Nat} (h:48≤x∧x≤57):ymD x :=
 have:∀ y:Nat,y<58→48≤y→decide ((y:Int)=37)=false∧decide ((y:Int)∈([0,9,10,12,13,32]:List Int))=false:=by decide
 have:=this x (Nat.lt_succ_of_le h.2) h.1; ⟨this.1,this.2⟩
theorem spelt:∀ n:Int,n.natAbs<10 ^ 39→yfD (yG n) n
 | .ofNat m,hm=>by
  show yfD (yG (m:Int)) m;rw [zpB];have hl:=ydG 38 m hm;exact ⟨Nat.le_trans hl (by decide),zyF m,fun x hx=>ykH (zcJ m x hx),fun x hx=>have:=zcJ m x (List.mem_of_getElem? hx); ⟨dig_stop this,.inr this⟩,
   (congrArg (fun v=>Ret 1 1 [.bytes (digs m)] (.int v)) (zsB m)).mp (dec_pos (zcJ m) (zyF m) (Nat.le_trans hl (by decide)))⟩
 | .negSucc m,hm=>by
  rw [zzG];have hl:=ydG 38 (m+1) hm;exact ⟨Nat.succ_le_succ (Nat.le_trans hl (by decide)),nofun,fun x hx=>(mN hx).elim (fun e=>e▸by decide) fun hx=>ykH (zcJ (m+1) x hx),fun x hx=>Option.some.inj hx▸⟨⟨rfl,rfl⟩,.inl rfl⟩,
   (congrArg (fun v=>Ret 1 1 [.bytes (45::digs (m+1))] (.int (-v))) (zsB (m+1))).mp (dec_neg (zcJ (m+1)) (zyF (m+1)) (Nat.le_trans hl (by decide)))⟩
section
variable {o x y z:PO} {l r:Hp}
theorem heapAt_cons {i:Nat}:zA (o::l) (i+1)=zA l i:=rfl
theorem hz1:zA (l++x::r) l.length=x:=yT
theorem hl1:zA (o::(l++x::r)) (l.length+1)=x:=yT (H:=l)
theorem sz1:∀ {l:Hp},zF (l++[x]) l.length y=l++[y]:=by
 intro l0
 induction l0 with
 |nil =>exact rfl
 |cons a r ih =>exact congrArg (a:: ·) (ih)
theorem sl1:zF (o::(l++[x])) (l.length+1) y=o::(l++[y]):=congrArg (o:: ·) sz1
theorem sv1 {C k:Nat} {ks:List Nat} {vs:List PV} {w:PV} {loc:Loc} (h:(okA C k&&decide (ks.length<100))=true):saV k w loc (.ref (l.length+1)) (o::(l++[.att C ks vs]))= .ok (.next loc) (o::(l++[.att C (setK ks vs k w).1 (setK ks vs k w).2])):=by
 show saZ k w loc (l.length+1) (zA _ _) _=_;rw [hl1];exact (if_pos h).trans (congrArg (Rs.ok _) sl1)
end
section
variable {d:List Nat} {a b L x k j c:Nat} {H Hr:Hp} {n:Int}
theorem init_cur:callN TT (j+1) 18 [.ref 0,.bytes d] [.att 10 [] []]= .ok .none [CU d 0 d.length]:=goL rfl rfl rfl
theorem yhH (ha:a<L) (hx:d[a]? =some x):callN TT (k+1) 20 [.ref 0] (CU d a L::Hr)= .ok (.int x) (CU d a L::Hr) :=
 goL (loc:=[some (.ref 0),some (.int 0),none]) rfl rfl (bnd (v:=.ret (.int x)) (by exists ltT ha,ixb hx) rfl)
theorem ydF (ha:a<L):callN TT (k+1) 19 [.ref 0] (CU d a L::Hr)= .ok (.bool false) (CU d a L::Hr):=go rfl rfl (by exists leF (Nat.not_le.mpr ha))
theorem done_yes:callN TT (k+1) 19 [.ref 0] (CU d L L::Hr)= .ok (.bool true) (CU d L L::Hr):=go rfl rfl (by exists dcT (Int.le_refl _))
theorem take1 (ha:a<L) (hx:d[a]? =some x):callN TT (k+1) 21 [.ref 0] (CU d a L::Hr)= .ok (.int x) (CU d (a+1) L::Hr):=go rfl rfl (by exists leF (Nat.not_le.mpr ha),ixb hx)
theorem init_cur2 (hL:L=d.length):callN TT (j+1) 18 [.ref (Hr.length+1),.bytes d,.int a,.int L] (CU d b L::(Hr++[.att 10 [] []]))= .ok .none (CU d b L::(Hr++[CU d a L])):=by
 subst hL;have e:(if (d.length:Int)<d.length then (d.length:Int) else d.length)=d.length:=if_neg (Int.lt_irrefl _);have h:callN TT (j+1) 18 [.ref (Hr.length+1),.bytes d,.int a,.int d.length] (CU d b d.length::(Hr++[.att 10 [] []]))= .ok .none (CU d b d.length::(Hr++[.att 10 [12,1,13] [.bytes d,.int a,.int (if (d.length:Int)<d.length then (d.length:Int) else d.length)]])) :=
  goN rfl rfl (by exists sv1 rfl,dcF (Int.not_lt.mpr (Int.natCast_nonneg d.length)))
 rwa [e] at h
theorem run_int {ds:List Nat} (hL:L=d.length) (hp:d.drop a=ds) (S:yfD ds n) (ha:a<L) {t:PV}:callN TT (j+3) 34 [.ref 0,t] (CU d a L::Hr)= .ok (.tup [.str [105,110,116],.int n,t]) (CU d L L::Hr):=by
 have hlen:ds.length=L-a:=by rw [← hp,List.length_drop,hL]
 have hrun:=zzH (d:=d) (a:=a) (b:=L) (L:=L) (k:=j+1) (Hr:=Hr) (Nat.succ_pos j) (Nat.le_of_lt ha) (Nat.le_refl _) (hlen▸Nat.lt_of_le_of_lt S.len (by decide)) (fun i h1 h2=>by
  have hi:ds[i-a]? =d[i]? :=by rw [← hp,List.getElem?_drop,Nat.add_sub_cancel' h1]
  have hlt:i-a<ds.length:=hlen▸Nat.sub_lt_sub_right h1 h2;exact ⟨ds[i-a],hi.symm.trans (List.getElem?_eq_getElem hlt),S.reg _ (List.getElem_mem hlt)⟩) (.inl rfl)
 have hds:(d.take L).drop a=ds:=by rw [hL,List.take_length,hp]
 rw [hds] at hrun;exact go rfl rfl (by exists hrun,S.dec (j+2) (Nat.le_add_left _ _) _)
theorem ygE {ds:List Nat} (hL:L=d.length) (hp:d.drop a=ds) (S:yfD ds n) (ha:a<L):callN TT (j+4) 36 [.ref 0] (CU d a L::Hr)= .ok (.tup [.str [105,110,116],.int n,.int a]) (CU d L L::Hr):=by
 have hlt:0<ds.length:=by rw [← hp,List.length_drop,← hL]; exact Nat.sub_pos_of_lt ha
 have hx:d[a]? =some ds[0]:=by rw [← List.getElem?_eq_getElem hlt,← hp,List.getElem?_drop]; rfl
 obtain ⟨hst,hx2⟩:=S.stop ds[0] (List.getElem?_eq_getElem hlt);generalize ds[0]=x at hst hx2 hx;have ne:∀ b:Nat,b≠45→(b<48∨57<b)→decide ((x:Int)=(b:Int))=false:=fun b h1 h2=>zuB fun e:x=b=>by lia
 have e6:decide ((x:Int)∈([91,93,123,125]:List Int))=false:=by
  have:∀ y:Nat,y<58→decide ((y:Int)∈([91,93,123,125]:List Int))=false:=by decide
  exact this x (by lia)
 have e0:decide ((x:Int)= -1)=false:=dcF (by lia);exact go rfl rfl (by exists zjG ha hx hst,yhH ha hx,run_int hL hp S ha,e0,ne 47 (by decide) (by decide),ne 40 (by decide) (by decide),ne 41 (by decide) (by decide),ne 60 (by decide) (by decide),ne 62 (by decide) (by decide),e6)
end
section
variable {d:List Nat} {a b L x k j c:Nat} {H Hr G:Hp} {n:Int} {q:List Nat×List Nat} {ds:List Nat}
theorem name_tab (k:Nat):(keyL.map fun q=>valR (callN TT (k+4) 29 [.bytes (q.1.drop 1),.int 0] []))=(keyL.map fun q=>some (.str q.2)):=by kernel_rfl
theorem name_ok (hq:q∈keyL):Ret 4 29 [.bytes (q.1.drop 1),.int 0] (.str q.2):=yF (n:=3) rfl rfl fun k=>List.map_inj_left.mp (name_tab k) q hq
structure KeyR (q:List Nat×List Nat):Prop where
 c:q.1[0]? =some 47
 r:∀ x∈q.1.drop 1,x∈regL
 n:0<q.1.length
 l:q.1.length≤5
theorem zfI (hq:q∈keyL):KeyR q :=
 have h:∀ q∈keyL,q.1[0]? =some 47∧(∀ x∈q.1.drop 1,x∈regL)∧0<q.1.length∧q.1.length≤5:=by decide
 ⟨(h q hq).1,(h q hq).2.1,(h q hq).2.2.1,(h q hq).2.2.2⟩
theorem name_run (hq:q∈keyL) (hd:d=q.1++32::ds) (hL:L=d.length) (hk:1≤k):callN TT (k+1) 25 [.ref 0] (CU d 1 L::Hr)= .ok (.bytes (q.1.drop 1)) (CU d q.1.length L::Hr):=by
 have K:=zfI hq;have hlt:q.1.length<L:=by rw [hL,hd,List.length_append]; exact Nat.lt_add_of_pos_right (Nat.succ_pos _)
 have hrun:=zzH (d:=d) (a:=1) (b:=q.1.length) (L:=L) (Hr:=Hr) hk K.n (Nat.le_of_lt hlt) (Nat.lt_of_le_of_lt (Nat.sub_le _ _) (Nat.lt_of_le_of_lt K.l (by decide))) (fun i h1 h2 =>
  ⟨q.1[i],by rw [hd,List.getElem?_append_left h2,List.getElem?_eq_getElem h2],K.r _ (List.mem_of_getElem? (i:=i-1) (by rw [List.getElem?_drop,Nat.add_sub_cancel' h1,List.getElem?_eq_getElem h2]))⟩)
  (.inr ⟨hlt,by rw [hd,List.getElem?_append_right (Nat.le_refl _),Nat.sub_self]; rfl⟩)
 rwa [hd,List.take_left' rfl,← hd] at hrun
theorem tok_name (hq:q∈keyL) (hd:d=q.1++32::ds) (hL:L=d.length):callN TT (j+6) 36 [.ref 0] (CU d 0 L::Hr)= .ok (.tup [.str [110,97,109,101],.str q.2,.int 0]) (CU d q.1.length L::Hr):=by
 have K:=zfI hq;have h0:0<L:=by rw [hL,hd,List.length_append]; exact Nat.lt_of_lt_of_le K.n (Nat.le_add_right _ _)
 have hx:d[0]? =some 47:=by rw [hd,List.getElem?_append_left K.n]; exact K.c
 have hdel:callN TT (j+5) 35 [.ref 0,.int (47:Nat),.int (0:Nat)] (CU d 0 L::Hr)= .ok (.tup [.str [110,97,109,101],.str q.2,.int 0]) (CU d q.1.length L::Hr) :=
  go rfl rfl (by exists take1 h0 hx,name_run hq hd hL (Nat.le_add_left 1 (j+2)),name_ok hq (j+4) (Nat.le_add_left _ _) _)
 exact go rfl rfl (by exists zjG (a:=0) h0 hx ⟨rfl,rfl⟩,yhH (a:=0) h0 hx,hdel)
theorem init_name {v:PV}:callN TT (j+1) 2 [.ref H.length,v] (H++[.att 4 [] []])= .ok .none (H++[.att 4 [4] [v]]):=goN rfl rfl (by
 have e:saV 4 v (pad [.ref H.length,v] 0) (.ref H.length) (H++[.att 4 [] []])= .ok (.next (pad [.ref H.length,v] 0)) (H++[.att 4 [4] [v]]):=by
  show saZ 4 v _ H.length (zA _ _) _=_;rw [hz1]; exact congrArg (Rs.ok _) sz1
 exists e)
theorem fz_name {key:List Nat}:frzV (.ref H.length) (H++[.att 4 [4] [.str key]])=some (y6 key,H++[.dead]):=by
 show fvO H.length _ (zA _ _)=_;rw [hz1]; exact congrArg (fun h=>some (y6 key,h)) sz1
theorem plain_name {key:List Nat} {t:PV}:callN TT (j+2) 43 [.ref 0,.tup [.str [110,97,109,101],.str key,t],.bool true] H= .ok (y6 key) (H++[.dead]):=go rfl rfl (by exists init_name,fz_name)
theorem plain_neg {t:PV} (hn:n<0):callN TT (j+2) 43 [.ref 0,.tup [.str [105,110,116],.int n,t],.bool true] H= .ok (.int n) H:=go rfl rfl (by exists dcF (Int.not_le.mpr hn))
theorem whole_none:Ret 1 40 [.none] (.bool false):=.go rfl rfl rfl rfl fun k hk=>⟨_,rfl⟩
theorem take_ref (hL:L=d.length):callN TT (j+3) 41 [.ref 0,.int n] (CU d L L::Hr)= .ok (.int n) (CU d L L::(Hr++[CU d L L])):=by
 have hp:zA (CU d L L::(Hr++[CU d L L])) (Hr.length+1)=CU d L L:=hl1;exact go rfl rfl (by exists init_cur2 hL,yaE hp,take_end hp hL,clR hp rfl,dec_nil (j+2) (Nat.le_add_left _ _) _,whole_none (j+2) (Nat.le_add_left _ _) _)
theorem plain_pos {t:PV} (hL:L=d.length) (hn:¬ n<0):callN TT (j+4) 43 [.ref 0,.tup [.str [105,110,116],.int n,t],.bool true] (CU d L L::Hr)= .ok (.int n) (CU d L L::(Hr++[CU d L L])):=go rfl rfl (by exists dcT (Int.not_lt.mp hn),take_ref hL)
theorem eqL {i j:Nat} (h1:zA H i= .lst []) (h2:zA H j= .lst []):eqV (.ref i) (.ref j) H=some true:=(congr (congrArg eqO h1) h2).trans rfl
theorem hnl {l m:PO}:zA (H++[l]++m::G) H.length=l:=(congrArg (zA · H.length) (List.append_assoc H [l] (m::G))).trans yT
theorem object_turn {kd:List Nat} {w t v:PV} (hk:kd≠[115,105,103,110]) (hp:callN TT k 43 [.ref 0,.tup [.str kd,w,t],.bool true] (H++[.lst []]++[.lst []])= .ok v G) (h3:zA G H.length= .lst []) (hl:H.length<G.length) {x4 x5 x6 x7 x8:Option PV} :
  evSs TT (callN TT k) yrG [some (.ref 0),some (.tup [.str kd,w,t]),some (.bool true),some (.ref H.length),x4,x5,x6,x7,x8] (H++[.lst []])= .ok (.ret v) (G++[.lst []]):=by
 exists eqL hnl yT,dcF hk,dnF hk,dnT hk,hp,eqL ((zcI hl).trans h3) yT
theorem object_one {kd:List Nat} {w t v:PV} (hk:kd≠[115,105,103,110]) (hp:callN TT k 43 [.ref 0,.tup [.str kd,w,t],.bool true] (H++[.lst []]++[.lst []])= .ok v G) (h3:zA G H.length= .lst []) (hl:H.length<G.length):callN TT (k+1) 46 [.ref 0,.tup [.str kd,w,t]] H= .ok v (G++[.lst []]) :=
 goL (loc:=[some (.ref 0),some (.tup [.str kd,w,t]),some (.bool true),none,none,none,none,none,none]) rfl rfl (bnd (v:=.ret v) (sas (v:=.ref H.length) (H1:=H++[.lst []]) rfl (srt (zrI rfl (by exact object_turn hk hp h3 hl)))) rfl)
theorem zxE {v w t:PV} {kd:List Nat} {A:Hp} (hk:kd≠[115,105,103,110]) (ht:callN TT (k+1) 36 [.ref 0] (CU d a L::Hr)= .ok (.tup [.str kd,w,t]) (CU d b L::Hr))
  (hp:callN TT k 43 [.ref 0,.tup [.str kd,w,t],.bool true] ((CU d b L::Hr)++[.lst []]++[.lst []])= .ok v ((CU d b L::Hr)++[.lst []]++[.lst []]++A)):∃ G,callN TT (k+2) 47 [.ref 0] (CU d a L::Hr)= .ok v (CU d b L::(Hr++G)):=by
 have e:(CU d b L::Hr)++[.lst []]++[.lst []]++A=(CU d b L::Hr)++(.lst []:: .lst []::A):=(List.append_assoc _ _ _).trans (List.append_assoc _ _ _);rw [e] at hp;have ho:=object_one hk hp yT (by rw [List.length_append]; exact Nat.lt_add_of_pos_right (Nat.succ_pos _));rw [List.append_assoc] at ho;exact ⟨_,go rfl rfl (by exists ht,ho)⟩
theorem read_name (hq:q∈keyL) (hd:d=q.1++32::ds) (hL:L=d.length):∃ G,callN TT (j+7) 47 [.ref 0] (CU d 0 L::Hr)= .ok (y6 q.2) (CU d q.1.length L::(Hr++G)) :=
 zxE (k:=j+5) (by decide) (tok_name hq hd hL) plain_name
theorem read_int (hL:L=d.length) (hp:d.drop a=ds) (S:yfD ds n) (ha:a<L):∃ G,callN TT (j+7) 47 [.ref 0] (CU d a L::Hr)= .ok (.int n) (CU d L L::(Hr++G)):=by
 by_cases hn:n<0
 ·exact zxE (k:=j+5) (A:=[]) (by decide) (ygE (j:=j+2) hL hp S ha) ((plain_neg (j:=j+3) hn).trans (congrArg (Rs.ok _) (List.append_nil _).symm))
 ·exact zxE (k:=j+5) (A:=[CU d L L]) (by decide) (ygE (j:=j+2) hL hp S ha) (plain_pos (j:=j+1) (Hr:=Hr++[.lst []]++[.lst []]) hL hn)
theorem zuD {v:PV} {l:List PV} {d1:PV} (hl:l.length<SZ) (hd:callN TT (k+1) 19 [.ref 0] (CU d a L:: .lst l::Hr)= .ok (.bool false) (CU d a L:: .lst l::Hr)) (hr:callN TT (k+1) 47 [.ref 0] (CU d a L:: .lst l::Hr)= .ok v (CU d b L::(.lst l::Hr++G)))
  (hs:callN TT (k+1) 24 [.ref 0] (CU d b L:: .lst (l++[v])::(Hr++G))= .ok .none (CU d c L:: .lst (l++[v])::(Hr++G))) {n:Nat} {R:Rs Fl}
  (h:zL (evE TT (callN TT (k+1)) (.not (.methO 7 (.var 1) .nil))) (evSs TT (callN TT (k+1)) ylI) n [some d1,some (.ref 0),some (.ref 1)] (CU d c L:: .lst (l++[v])::(Hr++G))=R) :
  zL (evE TT (callN TT (k+1)) (.not (.methO 7 (.var 1) .nil))) (evSs TT (callN TT (k+1)) ylI) (n+1) [some d1,some (.ref 0),some (.ref 1)] (CU d a L:: .lst l::Hr)=R :=
 zhJ (by exists hd) (loc2:=[some d1,some (.ref 0),some (.ref 1)]) (by exists hr,apR (vs:=l) rfl hl,hs) h
theorem loop_int (hq:q∈keyL) (S:yfD ds n) (hd:d=q.1++32::ds) (hL:L=d.length) {d1:PV}:∃ G',evS TT (callN TT (j+8)) yoE [some d1,some (.ref 0),some (.ref 1)] [CU d 0 L,.lst []]= .ok (.next [some d1,some (.ref 0),some (.ref 1)]) (CU d L L:: .lst [y6 q.2,.int n]::G'):=by
 have K:=zfI hq;have hpos:0<ds.length:=List.length_pos_iff.mpr S.ne;have hlt:q.1.length+1<L:=by rw [hL,hd,List.length_append]; exact Nat.add_lt_add_left (Nat.succ_lt_succ hpos) _
 have hx1:d[q.1.length]? =some 32:=by rw [hd,List.getElem?_append_right (Nat.le_refl _),Nat.sub_self]; rfl
 have hx2:d[q.1.length+1]? =some ds[0]:=by rw [hd,List.getElem?_append_right (Nat.le_succ _),Nat.succ_sub (Nat.le_refl _),Nat.sub_self,List.getElem?_cons_succ,List.getElem?_eq_getElem hpos]
 have hdrop:d.drop (q.1.length+1)=ds:=by rw [hd,List.append_cons,List.drop_left' (by rw [List.length_append]; rfl)]
 obtain ⟨G1,hr1⟩:=read_name (j:=j+1) (Hr:=[.lst []]) hq hd hL;obtain ⟨G2,hr2⟩:=read_int (j:=j+1) (Hr:=.lst [y6 q.2]::([]++G1)) hL hdrop S hlt;have w:=zuD (k:=j+7) (l:=[]) (Hr:=[]) (d1:=d1) (n:=99) (by decide) (ydF (Nat.lt_of_le_of_lt (Nat.zero_le _) hlt)) hr1 (skip_space hlt hx1 hx2 (S.stop _ (List.getElem?_eq_getElem hpos)).1)
  (zuD (k:=j+7) (l:=[y6 q.2]) (n:=98) (show 1<SZ by decide) (ydF hlt) hr2 (yaE rfl) (xB (by exists done_yes)))
 exact ⟨_,w⟩
theorem parse_int (hq:q∈keyL) {n:Int} (hn:n.natAbs<10 ^ 39):Ret 12 48 [.bytes (q.1++32::yG n)] (.lst [y6 q.2,.int n]) :=
 Ret.mk rfl rfl fun k hk=>by
  obtain ⟨j,rfl⟩:=Nat.exists_eq_add_of_le hk;rw [show 11+j=j+3+8 from Nat.add_comm 11 j];have K:=zfI hq;have hx:(q.1++32::yG n)[0]? =some 47:=by rw [List.getElem?_append_left K.n]; exact K.c
  have hpos:0<(q.1++32::yG n).length:=by rw [List.length_append]; exact Nat.lt_of_lt_of_le K.n (Nat.le_add_right _ _)
  obtain ⟨G,hl⟩:=loop_int (j:=j+3) hq (spelt n hn) rfl rfl (d1:=.bytes (q.1++32::yG n));exact ⟨_,go rfl rfl (by exists init_cur,zjG (a:=0) hpos hx ⟨rfl,rfl⟩,hl)⟩
end
structure StOk (R:List Row):Prop where
 rows:zH R
 root:∃ E,Root R E∧E≠[]
theorem StOk.hroot {R:List Row} (h:StOk R):(1:Int)∈R.map (·.n)→∃ E,Root R E:=fun _=>by refine oEA (h.root) fun E hE _=> ?_; exact ⟨E,hE⟩
theorem zdJ {R:List Row} (h:zH R) {E E':Ent} (h1:Root R E) (h2:Root R E'):E=E':=by
 have:=yhD h.nd h1 h2 rfl
 simpa using this
theorem zxG {n:Int} (hn:n.natAbs<10 ^ 60):OkW (.int n) (.tup [.str [105,110,116],.int n]) :=
 ⟨rfl,rfl,rfl,yF (n:=5) rfl rfl fun k=>by kernel_rfl,.mono (.tup (.cons (n:=42) (d:=0) ⟨rfl,by decide,by decide⟩ (.cons (zyC hn) .nil))) (by decide) (by decide)⟩
inductive ynD (n:Nat) (args args2:List PV) (f n2 f2:Nat):Prop
 |no (a:Exc n f args 2) (b:Ret n2 f2 args2 .none)
 |yes (R:List Row) (h:StOk R) (a:Ret n f args (zD R)) (b:Ret n2 f2 args2 (zN R))
section
variable {R:List Row} {n:Int} {key o:List Nat} {w:Option (PV×PV)} {r:Row} {E:Ent}
theorem ziD (h:Root R E):¬ (1:Int)∉R.map (·.n):=fun q=>q (yfB h)
theorem zpF (h:Root R E) (e:(1:Int)=n) {P:Ent}:Root (setB R n P) P:=(congrArg (· ∈setB R n P) (znA (r:=⟨1,0,some E⟩) e)).mp (List.mem_map_of_mem (f:=setR n P) h)
theorem znB (h:Root R E) (e:¬ (1:Int)=n) {P:Ent}:Root (setB R n P) E:=(congrArg (· ∈setB R n P) (zjH (r:=⟨1,0,some E⟩) e)).mp (List.mem_map_of_mem (f:=setR n P) h)
theorem zpE (h:StOk R) (hn:n.natAbs≤1000) (hkey:key∈zlA) (hw:WOk w) (hp:Ret 12 48 [.bytes o] (.lst [y6 key,wrV w])):ynD 13 [zD R,.int n,.bytes o] [zN R,.int n,.str key,wT w] 54 1 63:=by
 have hct:closed (wT w)=true:=by
  cases w with
  |none=>rfl
  |some x=>exact (hw x rfl).1.ct
 by_cases hm:n∈R.map (·.n)
 ·refine oEA (List.mem_map.mp hm) fun r hr o1_=> ?_; obtain rfl:=o1_
  cases hb:r.b with
  |none=>exact .no (set_arr h.rows hr hb (by decide) hp) (with_arr h.rows hr hb hct)
  |some E =>
   have W:=with_ok h.rows hr hb hkey hw;refine oEA (h.root) fun E1 hE1 hne1=> ?_;have hR':=zjJ h.rows (n:=r.n) (zxF (h.rows.ent r hr E hb) hkey (w:=w) fun x hx=>(hw x hx).1)
   rcases set_ok h.rows h.hroot hr hb hkey hw (by decide) hp with ⟨E2,t1,t2,t3⟩|⟨t1,t2⟩
   ·rw [if_neg fun q=>t2 ((zdJ hR' t1 (zpF hE1 q.1.symm)).trans q.2)] at W
    exact .yes _ ⟨hR',E2,t1,t2⟩ t3 W
   ·by_cases e:(1:Int)=r.n
    ·rw [if_pos ⟨e.symm,(t1.resolve_left (ziD (zpF hE1 e))) |> zdJ hR' (zpF hE1 e)⟩] at W
     exact .no t2 W
    ·exact absurd (zdJ hR' (znB hE1 e) (t1.resolve_left (ziD (znB hE1 e)))) hne1
 ·exact .no (set_no h.rows hm hn (by decide) hp) (with_no h.rows hm hct)
theorem zlH (h:Root R E) (e:¬ (1:Int)=n):Root (zhH R n) E:=List.mem_filter.mpr ⟨h,dnT e⟩
theorem drop_one:(1:Int)∉(zhH R 1).map (·.n):=fun hm=>(List.mem_map.mp hm).elim fun q h=>Bool.false_ne_true ((dnF h.2).symm.trans (List.mem_filter.mp h.1).2)
theorem out_pair (h:StOk R) (hn:n.natAbs≤1000):ynD 6 [zD R,.int n] [zN R,.int n] 53 1 62:=by
 by_cases hm:n∈R.map (·.n)
 ·refine oEA (List.mem_map.mp hm) fun r hr o1_=> ?_; obtain rfl:=o1_
  refine oEA (h.root) fun E1 hE1 hne1=> ?_;have hR':=zeF h.rows (n:=r.n)
  by_cases e:(1:Int)=r.n
  ·refine .no ?_ (ygB h.rows (.inr e.symm))
   rcases zzB h.rows h.hroot hr with ⟨E2,t1,t2,t3⟩|⟨t1,t2⟩
   ·rw [← e] at t1; exact absurd drop_one (ziD t1)
   ·exact fun k hk H=>t2 k (Nat.le_of_succ_le hk) H
  ·refine .yes _ ⟨hR',E1,zlH hE1 e,hne1⟩ ?_ (wout_ok h.rows hr fun q=>e q.symm)
   rcases zzB h.rows h.hroot hr with ⟨E2,t1,t2,t3⟩|⟨t1,t2⟩
   ·exact t3.up (by decide)
   ·exact absurd (zdJ hR' (zlH hE1 e) (t1.resolve_left (ziD (zlH hE1 e)))) hne1
 ·exact .no (fun k hk H=>without_no h.rows hm hn k (Nat.le_of_succ_le hk) H) (ygB h.rows (.inl hm))
end
inductive yV:PV→Prop
 |no:yV (.tup [.bool true,.none,.none])
 |yes (R:List Row) (h:StOk R):yV (.tup [.bool true,zD R,zN R])
theorem yV.closed {res:PV} (h:yV res):closed res=true:=by
 cases h with
 |no=>rfl
 |yes R h=>exact cl3 rfl (zI h.rows) (zQ h.rows)
theorem wI (x:Int) {b:Nat} (hb:0<b):∃ m:Nat,Int.fmod x b=m∧m<b :=
 have h:=Int.fmod_nonneg_of_pos x (Int.ofNat_lt.mpr hb)
 ⟨(Int.fmod x b).toNat,(Int.toNat_of_nonneg h).symm,Int.ofNat_lt.mp ((Int.toNat_of_nonneg h).symm▸Int.fmod_lt_of_pos x (Int.ofNat_lt.mpr hb))⟩
theorem ykA {α:Type} {f:α→PV} {l:List α} {m:Nat} {g:PV} (e:g= .tup (l.map f)) (h:m<l.length) {H:Hp}:idxV g (.int (m:Int)) H=some (f l[m]):=e▸List.getElem?_map.trans (congrArg (Option.map f) (List.getElem?_eq_getElem h))
theorem key_at (x:Int):∃ q∈keyL,∀ H,idxV wH (.int (Int.fmod x 4)) H=some (.tup [.bytes q.1,.str q.2]) :=
 let ⟨m,e,hm⟩:=wI x (b:=4) (by decide)
 ⟨keyL[m],List.getElem_mem (l:=keyL) hm,fun H=>(congrArg (fun i=>idxV wH (.int i) H) e).trans (ykA (g:=wH) (l:=keyL) (f:=fun q:List Nat×List Nat=>.tup [.bytes q.1,.str q.2]) rfl hm)⟩
theorem worth_at {m:Nat} (hm:m<9):∃ p∈wS,∀ H,idxV yN (.int (m:Int)) H=some (.tup [.bytes p.1,wT p.2]):=⟨wS[m],List.getElem_mem (l:=wS) hm,fun H=>ykA (g:=yN) (l:=wS) (f:=fun p:List Nat×Option (PV×PV)=>.tup [.bytes p.1,wT p.2]) rfl hm⟩
theorem worth_len:∀ p∈wS,p.1.length≤20:=by decide
theorem key_4:∀ q∈keyL,q.2∈zlA:=by decide
theorem ascii_text:∀ {n:Int},(yG n).all (· < 128)=true
 | .ofNat m=>(congrArg (List.all · _) (zpB m)).trans (List.all_eq_true.mpr fun y hy=>decide_eq_true (Nat.lt_of_le_of_lt (zcJ m y hy).2 (by decide)))
 | .negSucc m=>(congrArg (List.all · _) (zzG m)).trans (List.all_eq_true.mpr fun y hy=>decide_eq_true ((mN hy).elim (fun e=>e▸by decide) fun hy=>Nat.lt_of_le_of_lt (zcJ (m+1) y hy).2 (by decide)))
noncomputable abbrev tlS:Ss→Ss
 | .cons _ r=>r
 | .nil=>.nil
section
variable {R R':List Row} {n rest:Int} {key o:List Nat} {k:Nat} {w x3:PV} {x6 x7 x8 x9 x10:Option PV}
theorem set_no' (a:Exc 13 54 [zD R,.int n,.bytes o] 2) (b:Ret 1 63 [zN R,.int n,.str key,w] .none) (hk:13≤k) :
  evSs TT (callN TT k) (tlS (tlS (tlS f_64.body))) [some (zD R),some (zN R),some (.int n),some x3,some (.bytes o),some (.str key),x6,x7,x8,x9,x10,some w] []= .ok (.ret (.tup [.bool true,.none,.none])) []:=by
 exists a k hk _,b k (Nat.le_trans (by decide) hk) _
theorem set_yes' (a:Ret 13 54 [zD R,.int n,.bytes o] (zD R')) (b:Ret 1 63 [zN R,.int n,.str key,w] (zN R')) (hk:13≤k) :
  evSs TT (callN TT k) (tlS (tlS (tlS f_64.body))) [some (zD R),some (zN R),some (.int n),some x3,some (.bytes o),some (.str key),x6,x7,x8,x9,x10,some w] []= .ok (.ret (.tup [.bool true,zD R',zN R'])) []:=by
 exists a k hk _,b k (Nat.le_trans (by decide) hk) _
theorem yhA (h:StOk R) (A:ynD 13 [zD R,.int n,.bytes o] [zN R,.int n,.str key,w] 54 1 63)
  (e:∀ k Q,(∀ x6 x7 x8 x9 x10,evSs TT (callN TT k) (tlS (tlS (tlS f_64.body))) [some (zD R),some (zN R),some (.int n),some (.int rest),some (.bytes o),some (.str key),x6,x7,x8,x9,x10,some w] []=Q)→evSs TT (callN TT k) f_64.body (pad [zD R,zN R,.int n,.int rest] 8) []=Q) :
  ∃ res,yV res∧Ret 14 64 [zD R,zN R,.int n,.int rest] res:=by
 have hcl:zO [zD R,zN R,.int n,.int rest]=true:=cl4 (zI h.rows) (zQ h.rows) rfl rfl;cases A with
 |no a b=>exact ⟨_,.no,.go rfl rfl hcl rfl fun k hk=>⟨_,e k _ fun _ _ _ _ _=>set_no' a b hk⟩⟩
 |yes R' h' a b=>exact ⟨_,.yes R' h',.go rfl rfl hcl (yV.yes R' h').closed fun k hk=>⟨_,e k _ fun _ _ _ _ _=>set_yes' a b hk⟩⟩
noncomputable def told (rest:Int):Int:=Int.fmod (Int.fdiv rest 40) 100000000000000000000000000000000000000-Int.fmod (Int.fdiv rest 7) 1000
theorem sub_abs {x y b:Nat} (hx:x<b) (hy:y<b):((x:Int)-y).natAbs<b:=by
 rcases Nat.le_total y x with h|h
 ·rw [← Int.ofNat_sub h]; exact Nat.lt_of_le_of_lt (Nat.sub_le _ _) hx
 ·rw [← Int.natAbs_neg,Int.neg_sub,← Int.ofNat_sub h]; exact Nat.lt_of_le_of_lt (Nat.sub_le _ _) hy
theorem told_lt:(told rest).natAbs<10 ^ 39:=by
 refine oEA (wI (Int.fdiv rest 40) (b:=100000000000000000000000000000000000000) (by decide)) fun x hx hx1=> ?_;refine oEA (wI (Int.fdiv rest 7) (b:=1000) (by decide)) fun y hy hy1=> ?_;have e:told rest=(x:Int)-y:=(congrArg (· - Int.fmod (Int.fdiv rest 7) 1000) hx).trans (congrArg ((x:Int) - ·) hy);exact e▸Nat.lt_trans (sub_abs hx1 (Nat.lt_trans hy1 (by decide))) (by decide)
theorem law_set (h:StOk R) (hn:n.natAbs≤1000) (rest:Int):∃ res,yV res∧Ret 14 64 [zD R,zN R,.int n,.int rest] res:=by
 refine oEA (key_at rest) fun q hq hkey=> ?_;refine oEA (wI (Int.fdiv rest 4) (b:=10) (by decide)) fun m hs hm=> ?_
 by_cases h9:m=9
 ·have hb:(told rest).natAbs<10 ^ 39:=told_lt
  have hsp:=(spelt (told rest) hb).len;have hl:=(zfI hq).l;have hl1:(q.1++[32]).length≤SZ:=by rw [List.length_append]; exact Nat.le_trans (Nat.add_le_add_right hl 1) (by decide)
  have hl2:(q.1++[32]++yG (told rest)).length≤SZ:=by rw [List.length_append,List.length_append]; exact Nat.le_trans (Nat.add_le_add (Nat.add_le_add_right hl 1) hsp) (by decide)
  have hp:=parse_int hq hb;rw [List.append_cons] at hp;refine yhA h (zpE h hn (key_4 q hq) (w:=some (.int (told rest),.tup [.str [105,110,116],.int (told rest)])) (fun z hz=>Option.some.inj hz▸⟨zxG (Nat.lt_trans hb (by decide)),rfl⟩) hp) fun k Q f=> ?_;have hd:decide (Int.fmod (Int.fdiv rest 4) 10=9)=true:=dcT (hs.trans (congrArg Int.ofNat h9));exact saT (by exists hkey _) (by exact rfl) (sas (by exact rfl) (sif (by exact rfl) (kiT (by exact hd) (jgo (by exists And.intro rfl hl1,And.intro rfl hl2,ifT (Nat.le_of_lt (Nat.lt_trans hb (by decide))) rfl,ifT ⟨rfl,ascii_text,Nat.le_trans hsp (by decide)⟩ rfl) (by exact f _ _ _ _ _)))))
 ·refine oEA (worth_at (Nat.lt_of_le_of_ne (Nat.le_of_lt_succ hm) h9)) fun p hp hworth=> ?_
  have hpl:=worth_len p hp;have hl:=(zfI hq).l;have hl1:(q.1++[32]).length≤SZ:=by rw [List.length_append]; exact Nat.le_trans (Nat.add_le_add_right hl 1) (by decide)
  have hl2:(q.1++[32]++p.1).length≤SZ:=by rw [List.length_append,List.length_append]; exact Nat.le_trans (Nat.add_le_add (Nat.add_le_add_right hl 1) hpl) (by decide)
  refine yhA h (zpE h hn (key_4 q hq) (zzC p hp) (parse_ok hq hp)) fun k Q f=> ?_;have hd:decide (Int.fmod (Int.fdiv rest 4) 10=9)=false:=dcF fun e=>h9 (Int.ofNat.inj (hs.symm.trans e));have hw:∀ H,idxV yN (.int (Int.fmod (Int.fdiv rest 4) 10)) H=some (.tup [.bytes p.1,wT p.2]):=fun H=>(congrArg (fun i=>idxV yN (.int i) H) hs).trans (hworth H);exact saT (by exists hkey _) (by exact rfl) (sas (by exact rfl) (sif (by exact rfl) (kiF (by exact hd) (jgo (by exists hw _,And.intro rfl hl1,And.intro rfl hl2) (by exact f _ _ _ _ _)))))
theorem ziB (h:StOk R) (hi:∀ H,idxV yC (.int (Int.fmod rest 7)) H=some (.tup [.bytes o,.bool false])) (hx:Exc 13 54 [zD R,.int n,.bytes o] 2):Ret 14 65 [zD R,zN R,.int n,.int rest] (.tup [.bool true,.none,.none]) :=
 .go rfl rfl (cl4 (zI h.rows) (zQ h.rows) rfl rfl) rfl fun k hk=>⟨_,by exists hi _,hx k hk _⟩
theorem yiB (h:StOk R) (hi:∀ H,idxV yC (.int (Int.fmod rest 7)) H=some (.tup [.bytes o,.bool true])) (hx:Exc 13 54 [zD R,.int n,.bytes o] 1):Ret 14 65 [zD R,zN R,.int n,.int rest] (.tup [.bool true,.none,.none]) :=
 .go rfl rfl (cl4 (zI h.rows) (zQ h.rows) rfl rfl) rfl fun k hk=>⟨_,by exists hi _,hx k hk _⟩
theorem odd_free (h:StOk R) (hi:∀ H,idxV yC (.int (Int.fmod rest 7)) H=some (.tup [.bytes o,.none])) (A:ynD 13 [zD R,.int n,.bytes o] [zN R,.int n,.str [65],.tup [.str [105,110,116],.int 1]] 54 1 63) :
  ∃ res,yV res∧Ret 14 65 [zD R,zN R,.int n,.int rest] res:=by
 have hcl:zO [zD R,zN R,.int n,.int rest]=true:=cl4 (zI h.rows) (zQ h.rows) rfl rfl;cases A with
 |no a b=>exact ⟨_,.no,.go rfl rfl hcl rfl fun k hk=>⟨_,by exists hi _,a k hk _,b k (Nat.le_trans (by decide) hk) _⟩⟩
 |yes R' h' a b=>exact ⟨_,.yes R' h',.go rfl rfl hcl (yV.yes R' h').closed fun k hk=>⟨_,by exists hi _,a k hk _,b k (Nat.le_trans (by decide) hk) _⟩⟩
theorem kind_int7:Ret 1 5 [.int 7] (.str [105,110,116]):=.go rfl rfl rfl rfl fun k hk=>⟨_,rfl⟩
theorem sev {P:Nat→Prop} (h0:P 0) (h1:P 1) (h2:P 2) (h3:P 3) (h4:P 4) (h5:P 5) (h6:P 6) {m:Nat} (h:m<7):P m:=by
 rcases m with _|_|_|_|_|_|_|m <;> first|assumption|exact absurd h (Nat.not_lt.mpr (Nat.le_add_left 7 m))
theorem law_odd (h:StOk R) (hn:n.natAbs≤1000) (rest:Int):∃ res,yV res∧Ret 14 65 [zD R,zN R,.int n,.int rest] res:=by
 refine oEA (wI rest (b:=7) (by decide)) fun m e hm=> ?_;have hi:∀ {o x},(∀ H,idxV yC (.int (m:Int)) H=some (.tup [.bytes o,x]))→∀ H,idxV yC (.int (Int.fmod rest 7)) H=some (.tup [.bytes o,x]):=fun q H=>(congrArg (fun i=>idxV yC (.int i) H) e).trans (q H);refine sev (P:=fun m=>(∀ {o x},(∀ H,idxV yC (.int (m:Int)) H=some (.tup [.bytes o,x]))→∀ H,idxV yC (.int (Int.fmod rest 7)) H=some (.tup [.bytes o,x]))→∃ res,yV res∧Ret 14 65 [zD R,zN R,.int n,.int rest] res) ?_ ?_ ?_ ?_ ?_ ?_ ?_ hm hi
 ·exact fun hi=>⟨_,.no,ziB h (hi fun _=>rfl) (set_kind h.rows (np:=12) (by decide) (yF (n:=11) rfl rfl odd_0) kind_int7 (by decide))⟩
 ·exact fun hi=>⟨_,.no,ziB h (hi fun _=>rfl) (zxC h.rows (np:=12) (yF (n:=11) rfl rfl odd_1) (show 1≠2 by decide))⟩
 ·exact fun hi=>⟨_,.no,ziB h (hi fun _=>rfl) (zxC h.rows (np:=12) (yF (n:=11) rfl rfl odd_2) (show 3≠2 by decide))⟩
 ·exact fun hi=>⟨_,.no,ziB h (hi fun _=>rfl) (zxC h.rows (np:=12) (yF (n:=11) rfl rfl odd_3) (show 0≠2 by decide))⟩
 ·exact fun hi=>⟨_,.no,yiB h (hi fun _=>rfl) (ygJ h.rows (np:=12) (ykC (n:=11) rfl odd_4))⟩
 ·exact fun hi=>⟨_,.no,yiB h (hi fun _=>rfl) (ygJ h.rows (np:=12) (ykC (n:=11) rfl odd_5))⟩
 ·exact fun hi=>odd_free h (hi fun _=>rfl) (zpE h hn (key:=[65]) (by decide) (w:=some (.int 1,.tup [.str [105,110,116],.int 1])) (fun z hz=>Option.some.inj hz▸⟨zxG (by decide),rfl⟩) (yF (n:=11) rfl rfl odd_6))
end
section
variable {R:List Row} {n way rest:Int} {k:Nat} {x6 x7 x8 x9:Option PV} {Q:Rs Fl}
theorem zeG (h:StOk R) (hn:n.natAbs≤1000) (e:1+Int.fmod rest 4=n) (hk:14≤k) (f:∀ x6 x7,evSs TT (callN TT k) (tlS (tlS (tlS f_66.body))) [some (zD R),some (zN R),some (.int way),some (.int rest),some (.int n),some (.int (Int.fdiv rest 4)),x6,x7,none,none] []=Q) :
  evSs TT (callN TT k) f_66.body (pad [zD R,zN R,.int way,.int rest] 6) []=Q:=by
 subst e
 by_cases hm:1+Int.fmod rest 4∈R.map (·.n)
 ·refine oEA (List.mem_map.mp hm) fun r hr e=> ?_
  have ho:Ret 1 51 [zD R,.int (1+Int.fmod rest 4)] r.val:=e▸xR h.rows hr;have hd:(!decide (true=decide (1+Int.fmod rest 4∈R.map (·.n))))=false:=by rw [decide_eq_true hm]; rfl
  exact saT (by exists rfl) (by exact rfl) (saT (by exists ho k (Nat.le_trans (by decide) hk) _) (by exact rfl) (sif (by exists hd) (kiF (by exact rfl) (jnx (by exact f _ _)))))
 ·have hd:(!decide (false=decide (1+Int.fmod rest 4∈R.map (·.n))))=false:=by rw [decide_eq_false hm]; rfl
  exact saT (by exists rfl) (by exact rfl) (saT (by exists zkB h.rows hm hn k (Nat.le_trans (by decide) hk) _) (by exact rfl) (sif (by exists hd) (kiF (by exact rfl) (jnx (by exact f _ _)))))
theorem deed_2n (a:Exc 6 53 [zD R,.int n] 2) (b:Ret 1 62 [zN R,.int n] .none) (hk:14≤k) :
  evSs TT (callN TT k) (tlS (tlS (tlS f_66.body))) [some (zD R),some (zN R),some (.int 2),some (.int rest),some (.int n),some (.int (Int.fdiv rest 4)),x6,x7,x8,x9] []= .ok (.ret (.tup [.bool true,.none,.none])) []:=by
 exists a k (Nat.le_trans (by decide) hk) _,b k (Nat.le_trans (by decide) hk) _
theorem deed_2y {R':List Row} (a:Ret 6 53 [zD R,.int n] (zD R')) (b:Ret 1 62 [zN R,.int n] (zN R')) (hk:14≤k) :
  evSs TT (callN TT k) (tlS (tlS (tlS f_66.body))) [some (zD R),some (zN R),some (.int 2),some (.int rest),some (.int n),some (.int (Int.fdiv rest 4)),x6,x7,x8,x9] []= .ok (.ret (.tup [.bool true,zD R',zN R'])) []:=by
 exists a k (Nat.le_trans (by decide) hk) _,b k (Nat.le_trans (by decide) hk) _
theorem deed_3 {res:PV} (a:Ret 14 65 [zD R,zN R,.int n,.int (Int.fdiv rest 4)] res) (hk:14≤k) :
  evSs TT (callN TT k) (tlS (tlS (tlS f_66.body))) [some (zD R),some (zN R),some (.int 3),some (.int rest),some (.int n),some (.int (Int.fdiv rest 4)),x6,x7,x8,x9] []= .ok (.ret res) []:=by
 exists a k hk _
theorem deed_4 {res:PV} (h2:way≠2) (h3:way≠3) (a:Ret 14 64 [zD R,zN R,.int n,.int (Int.fdiv rest 4)] res) (hk:14≤k) :
  evSs TT (callN TT k) (tlS (tlS (tlS f_66.body))) [some (zD R),some (zN R),some (.int way),some (.int rest),some (.int n),some (.int (Int.fdiv rest 4)),x6,x7,x8,x9] []= .ok (.ret res) []:=by
 exists dcF h2,dcF h3,a k hk _
theorem law_deed (h:StOk R) (way rest:Int):∃ res,yV res∧Ret 15 66 [zD R,zN R,.int way,.int rest] res:=by
 have hcl:zO [zD R,zN R,.int way,.int rest]=true:=cl4 (zI h.rows) (zQ h.rows) rfl rfl;refine oEA (wI rest (b:=4) (by decide)) fun m hm h4=> ?_;have hn:(1+Int.fmod rest 4).natAbs≤1000:=by rw [show Int.fmod rest 4=m from hm]; exact Nat.le_trans (Int.natAbs_add_le 1 m) (Nat.le_trans (Nat.add_le_add_left (Nat.le_of_lt h4) 1) (by decide))
 by_cases h2:way=2
 ·subst h2
  cases out_pair h hn with
  |no a b=>exact ⟨_,.no,.go rfl rfl hcl rfl fun k hk=>⟨_,zeG h hn rfl hk fun _ _=>deed_2n a b hk⟩⟩
  |yes R' h' a b=>exact ⟨_,.yes R' h',.go rfl rfl hcl (yV.yes R' h').closed fun k hk=>⟨_,zeG h hn rfl hk fun _ _=>deed_2y a b hk⟩⟩
 ·by_cases h3:way=3
  ·subst h3
   refine oEA (law_odd h hn (Int.fdiv rest 4)) fun res o a=> ?_;exact ⟨res,o,.go rfl rfl hcl o.closed fun k hk=>⟨_,zeG h hn rfl hk fun _ _=>deed_3 a hk⟩⟩
  ·refine oEA (law_set h hn (Int.fdiv rest 4)) fun res o a=> ?_
   exact ⟨res,o,.go rfl rfl hcl o.closed fun k hk=>⟨_,zeG h hn rfl hk fun _ _=>deed_4 h2 h3 a hk⟩⟩
end
noncomputable abbrev Mo:=Option (List Row)
noncomputable def modO:Mo→PV
 |some R=>zN R
 |none=>.none
noncomputable def benO:Mo→PV
 |some R=>zD R
 |none=>.none
noncomputable def ZOk (B:List Mo) (c:Mo) (A:List Mo):Prop:=∃ Rs:List (List Row),B++c::A=none::Rs.map some∧∀ R∈Rs,StOk R
noncomputable def Inv (H:Hp) (B:List Mo) (c:Mo) (A:List Mo):Prop:=zT H 1 (benO c) (B.map benO) (A.reverse.map benO)
inductive ynB:Mo→Prop
 |no:ynB none
 |yes (R:List Row) (h:StOk R):ynB (some R)
theorem al_ok {c:Mo} (h:ynB c):Ret 9 60 [benO c,modO c] (.bool true):=by
 cases h with
 |no=>exact yF (n:=8) rfl rfl fun k=>by kernel_rfl
 |yes R h=>exact law_alike h.rows
section
variable {B A B' A':List Mo} {c c':Mo} {R:List Row} {H:Hp} {l:List Mo} {nw:PV} {be ah:List PV}
theorem ZOk.now (h:ZOk B c A):ynB c:=by
 obtain ⟨Rs,e,h⟩:=h;have hc:c∈none::Rs.map some:=e▸mR B mQ;cases c with
 |none=>exact .no
 |some R=>exact .yes R (h R ((List.mem_map.mp ((mN hc).resolve_left nofun)).elim fun Q q=>Option.some.inj q.2▸q.1))
theorem ZOk.move (h:ZOk B c A) (e:B'++c'::A'=B++c::A):ZOk B' c' A':=by
 refine oEA h fun Rs e2 h=> ?_;exact ⟨Rs,e.trans e2,h⟩
theorem ZOk.add (h:ZOk B c A) (hR:StOk R):ZOk (B++[c]) (some R) []:=by
 refine oEA h fun Rs e h=> ?_;have e2:B++[c]=none::(Rs.take B.length).map some:=by
  rw [List.append_cons] at e;rw [List.map_take,← List.take_succ_cons,← e,List.take_left' (by rw [List.length_append]; rfl)]
 refine ⟨Rs.take B.length++[R],by rw [e2,List.map_append]; rfl,fun Q hQ=>(mP hQ).elim (fun hQ=>h Q (List.mem_of_mem_take hQ)) fun hQ=>List.mem_singleton.mp hQ▸hR⟩
theorem at18 (T:zT H 1 nw be ah):zaE (.ref 1) 18 H=some nw:=by refine oEE T fun _ _ T=> ?_; exact avR T.ht rfl
theorem cl13 (T:zT H 1 nw be ah):clsV (.ref 1) H=some 13:=by refine oEE T fun _ _ T=> ?_; exact clR T.ht rfl
noncomputable def xI (l:List Mo):PV:=.lst (l.map modO)
theorem zpH:biV 0 (xI l) H=some (.int (l.length:Int)):=congrArg (fun n:Nat=>some (PV.int n)) (List.length_map _)
theorem rows_at:idxV (xI (B++c::A)) (.int (B.length:Int)) H=some (modO c):=by
 show ((B++c::A).map modO)[B.length]? =_;rw [List.getElem?_map,List.getElem?_append_right (Nat.le_refl _),Nat.sub_self]; rfl
theorem rows_cut:slcV (xI (B++c::A)) .none (.int ((B.length:Int)+1))=some (xI (B++[c])):=by
 show some (PV.lst (((B++c::A).map modO).take (B.length+1)))=_;rw [← List.map_take,List.append_cons,List.take_left' (by rw [List.length_append]; rfl)]; rfl
theorem rows_add (hl:B.length≤1000):binV 0 (xI (B++[c])) (.lst [zN R])=some (xI ((B++[c])++[some R])) :=
 ifT ⟨rfl,by rw [List.length_append,List.length_map,List.length_append]; exact Nat.le_trans (Nat.add_le_add_right hl 2) (by decide)⟩ (congrArg (fun l=>some (PV.lst l)) (List.map_append (l₂:=[some R])).symm)
end
noncomputable abbrev LL (sc m tb:Option PV) (rv:PV) (sp:Int) (x6 x7 x8 x9 x10 x11 x12:Option PV):Loc:=[sc,m,tb,some (.ref 1),some rv,some (.int sp),x6,x7,x8,x9,x10,x11,x12]
section
variable {sc m tb x6 x7 x8 x9 x10 x11 x12:Option PV} {rv bc mc bc' mc' rw1 rv':PV} {sp ln w x q:Int} {H H':Hp} {k:Nat}
theorem ygI (hw:decide (w<2)=true) (hst:callN TT k 67 [.ref 1,.int w] H= .ok (.bool true) H') (hln:∀ H,biV 0 rv H=some (.int ln)) (d1:decide (0≤sp+2*w-1)=true) (d2:decide (sp+2*w-1<ln)=true)
  (ha:zaE (.ref 1) 18 H'=some bc) (hat:idxV rv (.int (sp+2*w-1)) H'=some mc) (hal:∀ H,closedCall (callN TT k) 60 [bc,mc] H= .ok (.bool true) H) :
  evSs TT (callN TT k) (tlS xX) (LL sc m tb rv sp x6 x7 (some (.int w)) x9 x10 x11 x12) H= .ok (.next (LL sc m tb rv (sp+2*w-1) x6 x7 (some (.int w)) x9 (some (.int (sp+2*w-1))) x11 x12)) H':=by
 have e:(!decide (true=decide (sp+2*w-1<ln)))=false:=by rw [d2]; rfl
 exists hw,hst,hln _,d1,e,d2,ha,hat,hal _
theorem step_no1 (hw:decide (w<2)=true) (hst:callN TT k 67 [.ref 1,.int w] H= .ok (.bool false) H') (d1:decide (0≤sp+2*w-1)=false)
  (ha:zaE (.ref 1) 18 H'=some bc) (hat:idxV rv (.int sp) H'=some mc) (hal:∀ H,closedCall (callN TT k) 60 [bc,mc] H= .ok (.bool true) H) :
  evSs TT (callN TT k) (tlS xX) (LL sc m tb rv sp x6 x7 (some (.int w)) x9 x10 x11 x12) H= .ok (.next (LL sc m tb rv sp x6 x7 (some (.int w)) x9 (some (.int (sp+2*w-1))) x11 x12)) H':=by
 exists hw,hst,d1,ha,hat,hal _
theorem step_no2 (hw:decide (w<2)=true) (hst:callN TT k 67 [.ref 1,.int w] H= .ok (.bool false) H') (hln:∀ H,biV 0 rv H=some (.int ln)) (d1:decide (0≤sp+2*w-1)=true) (d2:decide (sp+2*w-1<ln)=false)
  (ha:zaE (.ref 1) 18 H'=some bc) (hat:idxV rv (.int sp) H'=some mc) (hal:∀ H,closedCall (callN TT k) 60 [bc,mc] H= .ok (.bool true) H) :
  evSs TT (callN TT k) (tlS xX) (LL sc m tb rv sp x6 x7 (some (.int w)) x9 x10 x11 x12) H= .ok (.next (LL sc m tb rv sp x6 x7 (some (.int w)) x9 (some (.int (sp+2*w-1))) x11 x12)) H':=by
 have e:(!decide (false=decide (sp+2*w-1<ln)))=false:=by rw [d2]; rfl
 exists hw,hst,hln _,d1,e,d2,ha,hat,hal _
theorem deed_none (hw:decide (w<2)=false) (ha:zaE (.ref 1) 18 H=some bc) (hat:∀ H,idxV rv (.int sp) H=some .none) (hal:∀ H,closedCall (callN TT k) 60 [bc,.none] H= .ok (.bool true) H) :
  evSs TT (callN TT k) (tlS xX) (LL sc m tb rv sp x6 x7 (some (.int w)) x9 x10 x11 x12) H= .ok (.next (LL sc m tb rv sp x6 x7 (some (.int w)) x9 x10 x11 x12)) H:=by
 exists hw,hat _,ha,hal _
theorem deed_no (hw:decide (w<2)=false) (ha:zaE (.ref 1) 18 H=some bc) (hat:∀ H,idxV rv (.int sp) H=some mc) (hn:(!isNone mc)=true) (hd:∀ H,closedCall (callN TT k) 66 [bc,mc,.int w,.int x] H= .ok (.tup [.bool true,.none,.none]) H) (hal:∀ H,closedCall (callN TT k) 60 [bc,mc] H= .ok (.bool true) H) :
  evSs TT (callN TT k) (tlS xX) (LL sc m tb rv sp x6 x7 (some (.int w)) (some (.int x)) x10 x11 x12) H= .ok (.next (LL sc m tb rv sp x6 (some .none) (some (.int w)) (some (.int x)) x10 (some (.bool true)) (some .none))) H:=by
 exists hw,hat _,hn,ha,hd _,hal _
theorem deed_yes (hw:decide (w<2)=false) (ha:zaE (.ref 1) 18 H=some bc) (hat:∀ H,idxV rv (.int sp) H=some mc) (hn:(!isNone mc)=true) (hd:∀ H,closedCall (callN TT k) 66 [bc,mc,.int w,.int x] H= .ok (.tup [.bool true,bc',mc']) H) (hn':(!isNone mc')=true) (hc:clsV (.ref 1) H=some 13) (hgo:callN TT k 56 [.ref 1,bc'] H= .ok .none H')
  (hcut:slcV rv .none (.int (sp+1))=some rw1) (hadd:binV 0 rw1 (.lst [mc'])=some rv') (ha':zaE (.ref 1) 18 H'=some bc') (hat':∀ H,idxV rv' (.int (sp+1)) H=some mc') (hal:∀ H,closedCall (callN TT k) 60 [bc',mc'] H= .ok (.bool true) H) :
  evSs TT (callN TT k) (tlS xX) (LL sc m tb rv sp x6 x7 (some (.int w)) (some (.int x)) x10 x11 x12) H= .ok (.next (LL sc m tb rv' (sp+1) x6 (some mc') (some (.int w)) (some (.int x)) x10 (some (.bool true)) (some bc'))) H':=by
 exists hw,hat _,hn,ha,hd _,hn',hc,hgo,hcut,hadd,ha',hat' _,hal _
inductive TI (sc m tb:Option PV) (N:Nat):Loc→Hp→Prop
 |mk {B:List Mo} {c:Mo} {A:List Mo} {H:Hp} (z:ZOk B c A) (T:Inv H B c A) (l:(B++c::A).length≤N) {rv:PV} {sp:Int} (hs:sp=(B.length:Int)) (hr:rv=xI (B++c::A)) {x6 x7 x8 x9 x10 x11 x12:Option PV}:TI sc m tb N (LL sc m tb rv sp x6 x7 x8 x9 x10 x11 x12) H
variable {B A:List Mo} {c b:Mo} {R:List Row} {N j:Nat} {y:Int}
theorem Stp.of {r r':Rs Fl} {J:Loc→Hp→Prop} (e:r=r') (h:Stp r' J):Stp r J:=e▸h
theorem yjF (l:(B++c::A).length≤N):B.length≤N:=Nat.le_trans (Nat.le_trans (Nat.le_add_right _ _) (Nat.le_of_eq List.length_append.symm)) l
theorem snoc {α:Type} (l:List α):l=[]∨∃ L b,l=L++[b]:=(List.eq_nil_or_concat l).imp id fun ⟨L,b,h⟩=>⟨L,b,h.trans (List.concat_eq_append ..)⟩
theorem len_A (l:(B++c::A).length≤N):A.length≤N:=Nat.le_trans (Nat.le_trans (Nat.le_succ _) (Nat.le_trans (Nat.le_add_left _ _) (Nat.le_of_eq (List.length_append (as:=B) (bs:=c::A)).symm))) l
theorem yjG {l:List Mo} (h:l.length≤N) (hN:N≤100):(l.map benO).length<SZ:=Nat.lt_of_le_of_lt (Nat.le_of_eq (List.length_map _)) (Nat.lt_of_le_of_lt (Nat.le_trans h hN) (by decide))
theorem inv_B (T:Inv H (B++[b]) c A):zT H 1 (benO c) (B.map benO++[benO b]) (A.reverse.map benO):=(congrArg (fun l=>zT H 1 (benO c) l (A.reverse.map benO)) List.map_append).mp T
theorem inv_A (T:Inv H B c (b::A)):zT H 1 (benO c) (B.map benO) (A.reverse.map benO++[benO b]):=(congrArg (zT H 1 (benO c) (B.map benO)) ((congrArg (List.map benO) List.reverse_cons).trans List.map_append)).mp T
theorem of_B (T:zT H 1 (benO c) (B.map benO++[benO b]) (A.reverse.map benO)):Inv H (B++[b]) c A:=(congrArg (fun l=>zT H 1 (benO c) l (A.reverse.map benO)) List.map_append).mpr T
theorem of_A (T:zT H 1 (benO c) (B.map benO) (A.reverse.map benO++[benO b])):Inv H B c (b::A):=(congrArg (zT H 1 (benO c) (B.map benO)) ((congrArg (List.map benO) List.reverse_cons).trans List.map_append)).mpr T
theorem al15 (z:ZOk B c A) (H:Hp):closedCall (callN TT (j+15)) 60 [benO c,modO c] H= .ok (.bool true) H:=al_ok z.now (j+15) (Nat.le_trans (by decide) (Nat.le_add_left 15 j)) H
theorem zdI (hs:sp=(B.length:Int)) (hr:rv=xI (B++c::A)):idxV rv (.int sp) H=some (modO c):=by rw [hs,hr]; exact rows_at
theorem turn_0 (hN:N≤100) (z:ZOk B c A) (T:Inv H B c A) (l:(B++c::A).length≤N):Stp (evSs TT (callN TT (j+15)) (tlS xX) (LL sc m tb (xI (B++c::A)) B.length x6 x7 (some (.int 0)) x9 x10 x11 x12) H) (TI sc m tb N):=by
 rcases snoc B with rfl|⟨B,b,rfl⟩
 ·exact ⟨_,_,step_no1 rfl (step0_no (m:=j+13) T) rfl (at18 T) (zdI rfl rfl) (al15 z),.mk z T l rfl rfl⟩
 ·refine oEA (yaC (m:=j+13) (inv_B T) (yjG (l:=A.reverse) (Nat.le_trans (Nat.le_of_eq List.length_reverse) (len_A l)) hN)) fun H' hst T'=> ?_
  have e:=(List.append_cons B b (c::A)).symm;have z':ZOk B b (c::A):=z.move (List.append_cons B b (c::A));have hs:((B++[b]).length:Int)+2*0-1=(B.length:Int):=by rw [List.length_append]; exact Int.add_sub_cancel (B.length:Int) 1
  exact ⟨_,_,ygI rfl hst (fun _=>zpH) (dcT (hs▸Int.natCast_nonneg _)) (dcT (hs▸Int.ofNat_lt.mpr (by rw [e,List.length_append]; exact Nat.lt_add_of_pos_right (Nat.succ_pos _)))) (at18 T') (zdI hs (congrArg xI e)) (al15 z'),.mk z' (of_A T') (e▸l) hs (congrArg xI e)⟩
theorem turn_1 (hN:N≤100) (z:ZOk B c A) (T:Inv H B c A) (l:(B++c::A).length≤N):Stp (evSs TT (callN TT (j+15)) (tlS xX) (LL sc m tb (xI (B++c::A)) B.length x6 x7 (some (.int 1)) x9 x10 x11 x12) H) (TI sc m tb N):=by
 have hs:(B.length:Int)+2*1-1=((B++[c]).length:Int):=by rw [List.length_append]; exact Int.add_sub_cancel (B.length+1) 1
 have d1:(0:Int)≤(B.length:Int)+2*1-1:=hs▸Int.natCast_nonneg _;cases A with
 |nil=>exact ⟨_,_,step_no2 rfl (yaB (m:=j+13) T) (fun _=>zpH) (dcT d1) (dcF (hs▸Int.lt_irrefl _)) (at18 T) (zdI rfl rfl) (al15 z),.mk z T l rfl rfl⟩
 |cons a A =>
  refine oEA (yaA (m:=j+13) (inv_A T) (yjG (yjF l) hN)) fun H' hst T'=> ?_;have e:=List.append_cons B c (a::A);have z':ZOk (B++[c]) a A:=z.move e.symm;exact ⟨_,_,ygI rfl hst (fun _=>zpH) (dcT d1) (dcT (hs▸Int.ofNat_lt.mpr (by rw [e,List.length_append (as:=B++[c])]; exact Nat.lt_add_of_pos_right (Nat.succ_pos _)))) (at18 T') (zdI hs (congrArg xI e)) (al15 z'),.mk z' (of_B T') (e▸l) hs (congrArg xI e)⟩
theorem turn_2 (hN:N≤100) (z:ZOk B c A) (T:Inv H B c A) (l:(B++c::A).length≤N) (hw:¬ w<2):Stp (evSs TT (callN TT (j+15)) (tlS xX) (LL sc m tb (xI (B++c::A)) B.length x6 x7 (some (.int w)) (some (.int y)) x10 x11 x12) H) (TI sc m tb (N+1)):=by
 cases z.now with
 |no=>exact ⟨_,_,deed_none (dcF hw) (at18 T) (fun _=>zdI rfl rfl) (al15 z),.mk z T (Nat.le_succ_of_le l) rfl rfl⟩
 |yes R h =>
  refine oEA (law_deed h w y) fun res o hd=> ?_;cases o with
  |no=>exact ⟨_,_,deed_no (dcF hw) (at18 T) (fun _=>zdI rfl rfl) rfl (hd (j+15) (Nat.le_add_left 15 j)) (al15 z),.mk z T (Nat.le_succ_of_le l) rfl rfl⟩
  |yes R' h' =>
   refine oEA (go_ok (m:=j+14) (x:=zD R') T (yjG (yjF l) hN)) fun H' hgo T'=> ?_;have z':=z.add h';have hs:(B.length:Int)+1=((B++[some R]).length:Int):=by rw [List.length_append]; rfl
   exact ⟨_,_,deed_yes (dcF hw) (at18 T) (fun _=>zdI rfl rfl) rfl (hd (j+15) (Nat.le_add_left 15 j)) rfl (cl13 T) hgo rows_cut (rows_add (Nat.le_trans (Nat.le_trans (yjF l) hN) (by decide))) (at18 T') (fun _=>zdI hs rfl) (al15 z'),
    .mk z' (of_B T') (by rw [List.length_append,List.length_append]; exact Nat.succ_le_succ (Nat.le_trans (Nat.add_le_add_left (Nat.succ_le_succ (Nat.zero_le _)) _) (Nat.le_trans (Nat.le_of_eq (List.length_append (as:=B) (bs:=some R::A)).symm) l))) hs rfl⟩
theorem TI.mono (h:TI sc m tb N loc H):TI sc m tb (N+1) loc H:=by
 cases h with
 |mk z T l hs hr=>exact .mk z T (Nat.le_succ_of_le l) hs hr
theorem Stp.imp {r:Rs Fl} {J J':Loc→Hp→Prop} (h:Stp r J) (f:∀ loc H,J loc H→J' loc H):Stp r J':=by
 cases h with
 |mk loc H e j=>exact ⟨loc,H,e,f _ _ j⟩
theorem turn_ok (hN:N≤100) {loc:Loc} (h:TI sc m tb N loc H) (x:Int):Stp (evSs TT (callN TT (j+15)) xX (zF loc 6 (some (.int x))) H) (TI sc m tb (N+1)):=by
 cases h with
 |mk z T l hs hr =>
  subst hs hr;refine .of (saT (by exists rfl) (by exact rfl) rfl) ?_;refine oEA (wI x (b:=9) (by decide)) fun w hw _=> ?_;show Stp (evSs TT (callN TT (j+15)) (tlS xX) (LL sc m tb _ _ _ _ (some (.int (Int.fmod x 9))) _ _ _ _) _) _;rw [show Int.fmod x 9=w from hw]
  match w with
  |0=>exact (turn_0 hN z T l).imp fun _ _ h=>h.mono
  |1=>exact (turn_1 hN z T l).imp fun _ _ h=>h.mono
  |w+2=>exact turn_2 hN z T l (Int.not_lt.mpr (Int.ofNat_le.mpr (Nat.le_add_left 2 w)))
end
section
variable {sc m tb x6 x7 x8 x9 x10 x11 x12:Option PV} {rv bc mc:PV} {sp:Int} {H H':Hp} {k j:Nat} {B A:List Mo} {c:Mo}
theorem cells_ok {loc:Loc} (h:TI sc m tb 2 loc H) (q:List Int) (hq:q.length≤14):Stp (z4 6 (evSs TT (callN TT (j+15)) xX) (q.map .int) loc H) (TI sc m tb 16) :=
 (zyE (N:=14) (l:=q) (I:=fun pre=>TI sc m tb (2+pre.length)) (fun pre x _ _ _ hn h=>(turn_ok (Nat.le_trans (Nat.add_le_add_left (Nat.le_of_lt hn) 2) (by decide)) h x).imp fun _ _ h=>(congrArg (TI sc m tb · _ _) (congrArg (2 + ·) List.length_append)).mpr h) q [] (fun _ h=>h) (Nat.le_trans (Nat.le_of_eq (Nat.zero_add _)) hq) loc H h).imp fun loc H h=>by
  cases h with
  |mk z T l hs hr=>exact .mk z T (Nat.le_trans l (Nat.add_le_add_left hq 2)) hs hr
theorem down_step (hst:callN TT k 67 [.ref 1,.int 0] H= .ok (.bool true) H') (ha:zaE (.ref 1) 18 H'=some bc) (hat:idxV rv (.int (sp-1)) H'=some mc) (hal:∀ H,closedCall (callN TT k) 60 [bc,mc] H= .ok (.bool true) H) :
  evSs TT (callN TT k) ylG (LL sc m tb rv sp x6 x7 x8 x9 x10 x11 x12) H= .ok (.next (LL sc m tb rv (sp-1) x6 x7 x8 x9 x10 x11 x12)) H':=by
 exists hst,ha,hat,hal _
theorem up_step (hst:callN TT k 67 [.ref 1,.int 1] H= .ok (.bool true) H') (ha:zaE (.ref 1) 18 H'=some bc) (hal:∀ H,closedCall (callN TT k) 60 [bc,mc] H= .ok (.bool true) H) :
  evSs TT (callN TT k) ylF (LL sc m tb rv sp x6 (some mc) x8 x9 x10 x11 x12) H= .ok (.next (LL sc m tb rv sp x6 (some mc) x8 x9 x10 x11 x12)) H':=by
 exists hst,ha,hal _
inductive Dn (sc m tb x6 x7 x8 x9 x10 x11 x12:Option PV):Loc→Hp→Prop
 |mk {c:Mo} {A:List Mo} {H:Hp} (z:ZOk [] c A) (T:Inv H [] c A) (l:(c::A).length≤100) {rv:PV} (hr:rv=xI (c::A)) {sp:Int} (hs:sp=0):Dn sc m tb x6 x7 x8 x9 x10 x11 x12 (LL sc m tb rv sp x6 x7 x8 x9 x10 x11 x12) H
theorem down_ok:∀ (n:Nat) {B:List Mo} {c:Mo} {A:List Mo} {H:Hp} {rv:PV} {sp:Int},ZOk B c A→Inv H B c A→(B++c::A).length≤100→B.length<n→rv=xI (B++c::A)→sp=B.length →
  Stp (zL (evE TT (callN TT (j+15)) (.cmp 4 (.var 5) (.cst (.int 0)))) (evSs TT (callN TT (j+15)) ylG) n (LL sc m tb rv sp x6 x7 x8 x9 x10 x11 x12) H) (Dn sc m tb x6 x7 x8 x9 x10 x11 x12):=by
 intro l0
 induction l0 with
 |zero =>
  intro _ _ _ _ _ _ _ _ _ hn _ _;exact absurd hn (Nat.not_lt_zero _)
 |succ n ih =>
  intro B c A H rv sp z T l hn hr hs
  rcases snoc B with rfl|⟨B,b,rfl⟩
  ·exact ⟨_,_,xB (by exists dcF (hs▸Int.lt_irrefl _)),.mk z T l hr hs⟩
  ·refine oEA (yaC (m:=j+13) (inv_B T) (yjG (l:=A.reverse) (Nat.le_trans (Nat.le_of_eq List.length_reverse) (len_A l)) (Nat.le_refl _))) fun H' hst T'=> ?_
   have e:=(List.append_cons B b (c::A)).symm;have z':ZOk B b (c::A):=z.move (List.append_cons B b (c::A));have hn':B.length<n:=Nat.lt_of_succ_lt_succ (Nat.lt_of_le_of_lt (Nat.le_of_eq (List.length_append (as:=B) (bs:=[b])).symm) hn);have hs1:sp-1=(B.length:Int):=by rw [hs,List.length_append]; exact Int.add_sub_cancel (B.length:Int) 1
   have hp:(0:Int)<sp:=by rw [hs,List.length_append]; exact Int.ofNat_lt.mpr (Nat.succ_pos _)
   cases ih z' (of_A T') (e▸l) hn' (hr.trans (congrArg xI e)) hs1 with
   |mk loc H e2 d=>exact ⟨loc,H,zhJ (by exists dcT hp) (down_step hst (at18 T') (zdI hs1 (hr.trans (congrArg xI e))) (al15 z')) e2,d⟩
inductive UpI (sc m tb:Option PV) (rv:PV) (sp:Int) (x6 x8 x9 x10 x11 x12:Option PV):Loc→Hp→Prop
 |mk {B:List Mo} {c:Mo} {H:Hp} (T:Inv H B c []) {x7:Option PV}:UpI sc m tb rv sp x6 x8 x9 x10 x11 x12 (LL sc m tb rv sp x6 x7 x8 x9 x10 x11 x12) H
theorem up_ok:∀ {A B:List Mo} {c:Mo} {H:Hp} {x7:Option PV},ZOk B c A→Inv H B c A→(B++c::A).length≤100→Stp (z4 7 (evSs TT (callN TT (j+15)) ylF) (A.map modO) (LL sc m tb rv sp x6 x7 x8 x9 x10 x11 x12) H) (UpI sc m tb rv sp x6 x8 x9 x10 x11 x12):=by
 intro l0
 induction l0 with
 |nil =>
  intro _ _ _ _ _ T _;exact ⟨_,_,rfl,.mk T⟩
 |cons a A ih =>
  intro B c H x7 z T l;refine oEA (yaA (m:=j+13) (inv_A T) (yjG (yjF l) (Nat.le_refl _))) fun H' hst T'=> ?_;have e:=List.append_cons B c (a::A);have z':ZOk (B++[c]) a A:=z.move e.symm;cases ih (x7:=some (modO a)) z' (of_B T') (e▸l) with
  |mk loc H e2 d=>exact ⟨loc,H,bnd (up_step hst (at18 T') (al15 z')) e2,d⟩
end
noncomputable abbrev hdS:Ss→S
 | .cons s _=>s
 | .nil=>.cont
noncomputable def yiG:PV:=y6 [67,97,116,97,108,111,103]
noncomputable def catT:PV:=.tup [.str [110,97,109,101],.str [67,97,116,97,108,111,103]]
noncomputable def E1:Ent:=[([84,121,112,101],yiG,catT)]
noncomputable def E2:Ent:=[([65],.int 1,.tup [.str [105,110,116],.int 1])]
noncomputable def R0:List Row:=[⟨1,0,some E1⟩,⟨2,3,some E2⟩,⟨3,0,none⟩]
theorem okW_cat:OkW yiG catT:=⟨rfl,rfl,rfl,yF (n:=5) rfl rfl fun k=>by kernel_rfl,rfl,by decide,by decide⟩
theorem R0_ok:StOk R0:=by
 refine ⟨⟨by decide,by decide,?_,by decide⟩,E1,mQ,nofun⟩;refine List.forall_mem_cons.mpr ⟨fun E e=>Option.some.inj e▸⟨by decide,List.forall_mem_cons.mpr ⟨⟨by decide,okW_cat⟩,fun _ h=>nomatch h⟩⟩,List.forall_mem_cons.mpr ⟨fun E e=>Option.some.inj e▸⟨by decide,List.forall_mem_cons.mpr ⟨⟨by decide,zxG (by decide)⟩,fun _ h=>nomatch h⟩⟩,List.forall_mem_cons.mpr ⟨fun E e=>(nomatch e),fun _ h=>nomatch h⟩⟩⟩
noncomputable def loc0 (sc:PV):Loc:=[some sc,none,none,none,none,none,none,none,none,none,none,none,none]
theorem st1 (j:Nat) (sc:PV):evS TT (callN TT (j+15)) (hdS f_68.body) (loc0 sc) []= .ok (.next (zF (loc0 sc) 1 (some (zN R0)))) []:=by kernel_rfl
theorem st2 (j:Nat) (sc:PV):evS TT (callN TT (j+15)) (hdS (tlS f_68.body)) (zF (loc0 sc) 1 (some (zN R0))) []= .ok (.next (zF (zF (loc0 sc) 1 (some (zN R0))) 2 (some (zxA R0)))) [.dead]:=by kernel_rfl
noncomputable def H3:Hp:=[.dead,.att 13 [18,19,20] [.none,.ref 2,.ref 3],.lst [],.lst []]
theorem st3 (j:Nat) (sc:PV):evS TT (callN TT (j+15)) (hdS (tlS (tlS f_68.body))) (zF (zF (loc0 sc) 1 (some (zN R0))) 2 (some (zxA R0))) [.dead] =
  .ok (.next (LL (some sc) (some (zN R0)) (some (zxA R0)) (xI [none,some R0]) 1 none none none none none none none)) H3:=by kernel_rfl
noncomputable abbrev loc3 (sc:PV):Loc:=LL (some sc) (some (zN R0)) (some (zxA R0)) (xI [none,some R0]) 1 none none none none none none none
noncomputable def H3':Hp:=H3++[.dead,.dead,.dead,.dead,.dead,.dead]
theorem sxp {T:Tab} {c:Call} {e:E} {loc:Loc} {H H1:Hp} {v:PV} (h:evE T c e loc H= .ok v H1):evS T c (.expr e) loc H= .ok (.next loc) H1:=bnd h rfl
theorem st4 (j:Nat) (sc:PV):∃ H4,evS TT (callN TT (j+15)) (hdS (tlS (tlS (tlS f_68.body)))) (loc3 sc) H3= .ok (.next (loc3 sc)) H4∧Inv H4 [none] (some R0) []:=by
 have T0:zT H3' 1 .none [] []:=⟨2,3,rfl,rfl,rfl,by decide⟩;refine oEA (go_ok (m:=j+14) (x:=zD R0) T0 (by decide)) fun H4 hgo T=> ?_;exact ⟨H4,sxp (emO (v:=.ref 1) (f:=56) (H2:=H3') rfl rfl rfl (ees (v:=zD R0) (H1:=H3') (by kernel_rfl) rfl) hgo),T⟩
theorem law_body (j:Nat) (cells:List Int):∃ H',evSs TT (callN TT (j+15)) f_68.body (loc0 (.lst (cells.map .int))) []= .ok (.ret (.bool true)) H':=by
 refine oEA (st4 j (.lst (cells.map .int))) fun H4 e4 T4=> ?_;have z:ZOk [none] (some R0) []:=⟨[R0],rfl,fun R hR=>List.mem_singleton.mp hR▸R0_ok⟩;have hi:yS (.lst ((cells.map PV.int).take 14))=some ((cells.take 14).map .int):=congrArg some List.map_take.symm;cases cells_ok (j:=j) (.mk z T4 (Nat.le_refl 2) rfl rfl) (cells.take 14) (Nat.le_trans (Nat.le_of_eq List.length_take) (Nat.min_le_left _ _)) with
 |mk _ _ e5 h5=>cases h5 with
  |mk z5 T5 l5 hs hr=>cases down_ok (j:=j) 100 z5 T5 (Nat.le_trans l5 (by decide)) (Nat.lt_of_le_of_lt (yjF l5) (by decide)) hr hs with
   |mk _ _ e6 h6=>cases h6 with
    |mk z6 T6 l6 hr hs =>
     subst hr hs;cases up_ok (j:=j) z6 T6 l6 with
     |mk _ _ e7 h7=>cases h7 with
      |mk T7=>exact ⟨_,sst (st1 j _) (sst (st2 j _) (sst (st3 j _) (sst e4 (sst (sfo rfl hi e5) (sst e6 (sst (sfo rfl rfl e7) (sre (ent (ecO (vs:=[.ref 1,.int 1]) (by exact rfl) (yaB (m:=j+13) T7))))))))))⟩
end Mine
end
section
open PySem PySem.W PyProof.Rows PySem.Calls
namespace Mine
set_option tactic.hygienic false
noncomputable abbrev tabs0:List (Addr×Addr):=[(869,865),(855,851),(848,844),(862,858)]
noncomputable abbrev news0:List (Addr×Obj):=[(865,tabObj #[]),(851,tabObj #[]),(844,tabObj #[]),(858,tabObj #[])]
theorem ints_vr:∀ {vals:List Value} {cells:List Int},IntsAre vals cells→VRs G fz μ (cells.map .int) vals:=by
 intro vals cells h
 induction h with
 |nil=>trivial
 |cons n t h ih=>exact ⟨.int n t,ih⟩
theorem law_join {prog:Program} {w:World} {gh h₁:Heap} {mg mb:Str→Option Value} {loose:List Str} {mean:ExcName→Option Value} {L fa a:Addr} {cd:Value} {vals:List Value} {cells:List Int} {n:Nat} {gens:Array GenState} {drawn:Drawn} {toks:Nat} {os:OsState}
  {qual:Str} {scope:Scope} {body:List Stmt} {Q:Flow→Shared→Prop} {E:Value→Shared→Prop}
  {Kf:Frag} (X:Kf.In gh) (ck:Chk Kf) (T:Top topProg loose mean mg mb gh) (K:Below callerA gh [] gh) (F:Fr gh L h₁ fun x=>List.lookup x [(("script" : Str),Value.ref a)].reverse)
  (c1:CodeHd gh 869 865) (c2:CodeHd gh 855 851) (c3:CodeHd gh 848 844) (c4:CodeHd gh 862 858) (N:News gh L h₁ news0) (hlist:gh.get? a=some (lstO vals n)) (hI:IntsAre vals cells) (hlen:vals.length≤SZ)
  (hm:mSs NN ⟨x_68,scope,false,false⟩ f_68.body body=true) (hk:scope.kind= .function) (hloc:x_68.all (fun x=>scope.names.lookup x==some .local)=true)
  (hQ:∀ s':Shared,(∀ b o,gh.get? b=some o→s'.heap.get? b=some o)→s'.os=os→s'.gens=gens→GrownAll tabs0 s'.heap→Q (.ret (.bool true)) s')
  (hE:∀ e s',wpAny (model prog w) (callerA.deeper (envOf qual scope L fa cd)) (leaving (envOf qual scope L fa cd) e) (fun _ _=>False) (fun _ _=>False) s'→E e s') :
  wpAny (model prog w) (callerA.deeper (envOf qual scope L fa cd)) (execs body (envOf qual scope L fa cd)) Q E ⟨h₁,gens,drawn,toks,os⟩:=by
 let G:Gl:={prog:=prog,w:=w,K:=Kf,base:=gh,p:=topProg,loose:=loose,mean:=mean,mg:=mg,mb:=mb,tabs:=zhG,fa:=faT,ca:=caT}
 have O:GOk G:=by
  refine ⟨X,T,fun q hq=> ?_,fun q hq q' hq' e=> ?_⟩
  ·simp only [G,zhG,List.mem_cons,List.not_mem_nil,or_false] at hq
   rcases hq with rfl|rfl|rfl|rfl
   ·exact c1
   ·exact c2
   ·exact c3
   ·exact c4
  ·simp only [G,zhG,List.mem_cons,List.not_mem_nil,or_false] at hq hq'
   rcases hq with rfl|rfl|rfl|rfl <;> rcases hq' with rfl|rfl|rfl|rfl <;> first|rfl|(exfalso; revert e; decide)
 have HO:zoH G TT NN 832:=heap_ok ck O rfl rfl rfl;have FO:∀ f fr,TT.fns f=some fr→FnOk G NN (G.fa f) fr:=fns_ok ck rfl rfl rfl;have SC:zbF G (callN TT 15) 45:=scall_all HO FO 15
 let env:Env:=envOf qual scope L fa cd
 let s₀:Shared:=⟨h₁,gens,drawn,toks,os⟩
 let φ:Fx:=⟨callerA.deeper env,callerA,env,env,[],gh,L,x_68,none,none,[],s₀⟩
 have D:Good G φ 46:={
  B:=K
  D:=ktsDicts_nil
  hA:=rfl
  hf:=rfl
  hf':=rfl
  hke:=hk
  hk:=hk
  hgl:=rfl
  hbu:=rfl
  hh:=rfl
  hgu:=rfl
  hde:=by show callerA.depth+1+xE 46≤recursionLimit; decide
  hun:=by show callerA.units+3+zbE 46≤cLine; decide
  hen:=fun _=>rfl
  hloc:=fun _=>rfl
  hcl:=fun C h=>by cases h
  nd:=by show x_68.Nodup; decide
  cinj:=fun x y c h _=>by cases h}
 have Fi:Fit G ⟨x_68,scope,false,false⟩ φ 45:=⟨rfl,rfl,fun _=>rfl,D,fun h=>(by cases h),fun h=>(by cases h)⟩;obtain ⟨H',eb⟩:=law_body 0 cells;have hvr:VR G [] [] (.lst (cells.map .int)) (.ref a):=zrJ (.inl hlist) hlen (ints_vr hI);have hkind:∀ (i:Nat) x,x_68[i]? =some x→scope.names.lookup x=some .local:=fun i x hx=>by
  have:=(List.all_eq_true.mp hloc) x (List.mem_of_getElem? hx);exact beq_iff_eq.mp this
 have S:Sat G φ [] [] [] (loc0 (.lst (cells.map .int))) [] s₀:=by
  refine ⟨rfl,(fun x=>List.lookup x [(("script" : Str),Value.ref a)].reverse),(fun x=>List.lookup x [(("script" : Str),Value.ref a)].reverse),[],⟨gh,[],news0,.refl,F,by simpa using N,?_⟩,?_⟩
  ·constructor
   ·rfl
   ·exact fun i po h _=>by simp at h
   ·exact fun p hp=>by simp at hp
   ·exact fun i j po po' a d a' h=>by simp at h
   ·exact fun p hp=>by simp at hp
   ·exact fun p hp=>by simp at hp
   ·exact fun p _ q hq=>by simp at hq
   ·exact fun p hp=>by simp at hp
   ·intro q hq
    refine ⟨#[],?_,trivial,fun pos cv h=>by cases h⟩;simp only [G,zhG,List.mem_cons,List.not_mem_nil,or_false] at hq
    rcases hq with rfl|rfl|rfl|rfl <;> simp
   ·intro p hp q hq e
    simp only [List.mem_cons,List.not_mem_nil,or_false] at hp hq
    rcases hp with rfl|rfl|rfl|rfl <;> rcases hq with rfl|rfl|rfl|rfl <;> first|rfl|(exfalso; revert e; decide)
  ·refine ⟨fun p hp=>by simp at hp,fun p hp=>by simp [φ] at hp,⟨fun _=>rfl,fun C h=>by cases h⟩,fun i x hx=>⟨fun _ v hv=> ?_,fun h=> ?_⟩⟩
   ·match i,hx,hv with
    |0,hx,hv =>
     have hx':("script" : Str)=x:=by simpa [φ,x_68] using hx
     subst hx';have hv':v= .lst (cells.map .int):=by simpa [loc0] using hv.symm
     subst hv';exact ⟨.ref a,rfl,hvr⟩
    |i+1,hx,hv =>
     exfalso
     have hn:∀ j,(loc0 (.lst (cells.map .int)))[j+1]? ≠some (some v):=fun j=>by
      unfold loc0
      match j with
      |0|1|2|3|4|5|6|7|8|9|10|11=>simp
      |j+12=>simp
     exact hn i hv
   ·have hl:scope.names.lookup x=some .local:=hkind i x hx
    have h':scope.names.lookup x=some .cell∨scope.names.lookup x=some .free:=h;rw [hl] at h'
    rcases h' with h' | h' <;> cases h'
 have SSl:=zhC (HO.all SC) HO.RO f_68.body ⟨x_68,scope,false,false⟩ φ body Fi rfl hm;refine wpAny_mono (SSl [] [] [] (loc0 (.lst (cells.map .int))) [] s₀ S (by rw [eb]; trivial)) (fun f s' hq=> ?_) fun e s' hx=> ?_
 ·obtain ⟨fl,H2,fz',μ',loc',er,ex,⟨sm,m,vm,ce,⟨g,mu,tb,Tn,F2,N2,Sh⟩,LO⟩,fr⟩:=hq
  rw [eb] at er;cases er;cases f with
  |ret v =>
   have hv:v= .bool true:=VR.bool' fr;subst hv;refine hQ s' (fun b o hb=>F2.keep b o (Tn.other b o hb (by simp [Fx.fs,φ]))) ?_ ?_ ?_
   ·have:=congrArg Shared.os sm
    exact this
   ·have:=congrArg Shared.gens sm
    exact this
   ·have key:∀ q∈zhG,GrownAt q.2.1 s'.heap:=fun q hq=>by
     refine oEA (Sh.tab q hq) fun ps h1 _=> ?_;exact ⟨ps,(N2 _ (mR _ (mR _ (mL _ h1)))).1⟩
    exact ⟨key (869,865,"_law_stepped.<locals>.<lambda>") (by simp [zhG]),key (855,851,"_law_odd_set.<locals>.<lambda>") (by simp [zhG]),key (848,844,"_law_set.<locals>.<lambda>") (by simp [zhG]),key (862,858,"_law_deed.<locals>.<lambda>") (by simp [zhG]),trivial⟩
  |_=>exact fr.elim
 ·obtain ⟨_,hx⟩:=hx
  refine hE e s' (wpAny_mono hx (fun _ s'' h=> ?_) fun _ _ z=>z);obtain ⟨C,H2,fz',μ',er,_⟩:=h;rw [eb] at er;cases er
theorem ints_len:∀ {vals:List Value} {cells:List Int},IntsAre vals cells→vals.length=cells.length:=by
 intro vals cells h
 induction h with
 |nil=>rfl
 |cons n t h ih=>exact congrArg (· + 1) ih
theorem len_ok (hI:IntsAre vals cells) (h:¬ ((63:Nat):Int)<((cells.length:Nat):Int)):vals.length≤SZ:=by
 rw [ints_len hI];unfold SZ
 omega
theorem well_list {P:Params} {h gh:Heap} {a:Addr} {vals:List Value} {xs:List PyData} (w1:Well P h (.ref a) (ofPy (PyData.list xs))) (hl:gh.IsList a vals.toArray) (hsub:∀ b o,gh.get? b=some o→h.get? b=some o):gh.get? a=some (lstO vals 0):=by
 refine oEAAE hl fun o ho hc n hd=> ?_; (try clear hl);have ho':=hsub a o ho;rw [ho];generalize hx:ofPy (PyData.list xs)=d at w1;cases w1 with
 |list ha hw =>
  rw [ha] at ho';cases ho';cases hd
  rfl
 |_=>unfold ofPy at hx; cases hx
theorem goodW_true (hr:∀ cls,c.raises args cls=false) (hp:c.post args (.bool true) args=true)
  (k1:∀ b o,s₁.heap.get? b=some o→s'.heap.get? b=some o) (k2:s'.os=s₁.os) (k3:s'.gens= #[]):GoodW c cl mean args s₁ (.ok (.ret (.bool true))) s' :=
 ⟨.inl ⟨.bool true,.bool true,[],rfl,hr,.bool true,hp,fun _=>⟨List.nodup_nil,fun _ h=>nomatch h⟩⟩,k1,k2,k3⟩
theorem main.tw8228058824784995430:1=1:=rfl
theorem main.tw4996873109452691289:1=1:=rfl
theorem main.tw7374449385936029500:1=1:=rfl
theorem main.tw2555861160798251974:1=1:=rfl
theorem main.tw18092606169130929673:1=1:=rfl
theorem main.tw5445500540807937540:1=1:=rfl
theorem main.tw4300332693827490752:1=1:=rfl
theorem main.tw7898876096245973815:1=1:=rfl
theorem main.tw5515560833506152761:1=1:=rfl
theorem main.tw12225828839038613003:1=1:=rfl
theorem main.tw8799067880036908217:1=1:=rfl
theorem main.tw7790209067792180648:1=1:=rfl
theorem main.tw17708018870387108518:1=1:=rfl
theorem main.tw15673049446574864989:1=1:=rfl
theorem main.tw16529937436981754836:1=1:=rfl
theorem main.tw18208235532807560199:1=1:=rfl
theorem main.tw18329633000140340820:1=1:=rfl
theorem main.tw4618361324465712281:1=1:=rfl
theorem main.tw18070651989493197902:1=1:=rfl
theorem main.tw6613752742083519222:1=1:=rfl
theorem main.tw1415391356075257842:1=1:=rfl
theorem main.tw11156056980113079860:1=1:=rfl
theorem main.tw7699798408344515789:1=1:=rfl
theorem main.tw12138109909170803284:1=1:=rfl
theorem main.tw16826212616301561204:1=1:=rfl
theorem main.tw1439166485080882:1=1:=rfl
theorem main.tw16971629280857230033:1=1:=rfl
theorem main.tw5429263238070759683:1=1:=rfl
theorem main.tw2923286348875671695:1=1:=rfl
theorem main.tw613567027398061577:1=1:=rfl
theorem main.tw1318968915056948652:1=1:=rfl
theorem main.tw15303395058633270352:1=1:=rfl
theorem main.tw1084220662915027778:1=1:=rfl
theorem main.tw16883241389676467722:1=1:=rfl
theorem main.tw9175052073728820173:1=1:=rfl
theorem main.tw8677828054155730348:1=1:=rfl
theorem main.tw4638281056170512193:1=1:=rfl
theorem main.tw12418119847424588932:1=1:=rfl
theorem main.tw1150287232629052791:1=1:=rfl
theorem main.tw12798984001323515092:1=1:=rfl
theorem main.tw14071443661171108508:1=1:=rfl
theorem main.tw17192880657746832339:1=1:=rfl
theorem main.tw177158395798268124:1=1:=rfl
theorem main.tw14535484193269619989:1=1:=rfl
theorem main.tw15140838672463199983:1=1:=rfl
theorem main.tw1003221794747103253:1=1:=rfl
theorem main.tw2544328076492683441:1=1:=rfl
theorem main.tw9957550378297406723:1=1:=rfl
theorem main.tw3417288260931107161:1=1:=rfl
theorem main.tw8344989883159853150:1=1:=rfl
theorem main.tw2895952525429962455:1=1:=rfl
theorem main.tw11311155076762098589:1=1:=rfl
theorem main.tw15387884906608193903:1=1:=rfl
theorem main.tw17413556829735388813:1=1:=rfl
theorem main.tw16026485685270457870:1=1:=rfl
theorem main.tw17563168436475441343:1=1:=rfl
theorem main.tw3905226178654972811:1=1:=rfl
theorem main.tw5921134243170700561:1=1:=rfl
theorem main.tw4385281892830598654:1=1:=rfl
theorem main.tw7846812961960373227:1=1:=rfl
theorem main.tw11125538497796368324:1=1:=rfl
theorem main.tw1519992759497675636:1=1:=rfl
theorem main.tw4948327476702027199:1=1:=rfl
theorem main.tw5181119749688162637:1=1:=rfl
theorem main.tw5585478044538960755:1=1:=rfl
theorem main.tw16203622797070002922:1=1:=rfl
theorem main.tw358491910552652209:1=1:=rfl
theorem main.tw14020873708864708748:1=1:=rfl
theorem main.tw6365344557354724233:1=1:=rfl
theorem main.tw7939164064552038406:1=1:=rfl
theorem main.tw8708525158762292434:1=1:=rfl
theorem main.tw1236483940969888574:1=1:=rfl
theorem main.tw3958507339218470045:1=1:=rfl
theorem main.tw7108953243070827183:1=1:=rfl
theorem main.tw4475767826048309731:1=1:=rfl
theorem main.tw1556035253650362093:1=1:=rfl
theorem main.tw13876859957761632879:1=1:=rfl
theorem main.tw10953687544409504101:1=1:=rfl
theorem main.tw14909365282108701170:1=1:=rfl
theorem main.tw16033097090804400913:1=1:=rfl
theorem main.tw15365013842991253249:1=1:=rfl
theorem main.tw1826329307503635854:1=1:=rfl
theorem main.tw11752208632293872130:1=1:=rfl
theorem main.tw11183452524601008856:1=1:=rfl
theorem main.tw3305931106042330821:1=1:=rfl
theorem main.tw13270728482189477470:1=1:=rfl
theorem main.tw15244097889725654702:1=1:=rfl
theorem main.tw2702614204127132176:1=1:=rfl
theorem main.tw33456957511925785:1=1:=rfl
theorem main.tw1255815211270559930:1=1:=rfl
theorem main.tw13348322127785295214:1=1:=rfl
theorem main.tw15595112118272840620:1=1:=rfl
theorem main.tw6437645805973890128:1=1:=rfl
theorem main.tw2173562974560187446:1=1:=rfl
theorem main.tw8060562821785662972:1=1:=rfl
theorem main.tw2136821422063795447:1=1:=rfl
theorem main.tw3779293765908593550:1=1:=rfl
theorem main.tw4026956272090484662:1=1:=rfl
theorem main.tw4630824681090250767:1=1:=rfl
theorem main.tw12692632004510240207:1=1:=rfl
theorem main.tw17403364634526059139:1=1:=rfl
theorem main.tw6237627108579964202:1=1:=rfl
theorem main.tw14406990849044604362:1=1:=rfl
theorem main.tw5396361742852586263:1=1:=rfl
theorem main.tw16778611742570070204:1=1:=rfl
theorem main.tw7761410557224570781:1=1:=rfl
theorem main.tw12431561837914552411:1=1:=rfl
theorem main.tw14161465996007527954:1=1:=rfl
theorem main.tw6785657489111691699:1=1:=rfl
theorem main.tw6516198228755648517:1=1:=rfl
theorem main.tw961187720498965250:1=1:=rfl
theorem main.tw8567518541235275850:1=1:=rfl
theorem main.tw7591743695986301205:1=1:=rfl
theorem main.tw10159738436595150677:1=1:=rfl
theorem main.tw11086099901593105684:1=1:=rfl
theorem main.tw10453263994017694363:1=1:=rfl
theorem main.tw9394770849952503311:1=1:=rfl
theorem main.tw1590763530083325563:1=1:=rfl
theorem main.tw7268301785047649679:1=1:=rfl
theorem main.tw13465503431842376007:1=1:=rfl
theorem main.tw13713940216889387898:1=1:=rfl
theorem main.tw17644181745481072423:1=1:=rfl
theorem main.tw15949526494057022110:1=1:=rfl
theorem main.tw5790326737455844299:1=1:=rfl
theorem main.tw11399646045708457374:1=1:=rfl
theorem main.tw16817993663026736274:1=1:=rfl
theorem main.tw4036238207498611232:1=1:=rfl
theorem main.tw9716624006974247489:1=1:=rfl
theorem main.tw480701840831765632:1=1:=rfl
theorem main.tw15540984915698410164:1=1:=rfl
theorem main.tw10543740743216835930:1=1:=rfl
theorem main.tw4766233809647381661:1=1:=rfl
theorem main.tw9703084557020090508:1=1:=rfl
theorem main.tw13227692790652741651:1=1:=rfl
theorem main.tw9406782406253462049:1=1:=rfl
theorem main.tw7054876372555587774:1=1:=rfl
theorem main.tw17695171507069755227:1=1:=rfl
theorem main.tw12959741745000181155:1=1:=rfl
theorem main.tw12431731261707249289:1=1:=rfl
theorem main.tw12570134572688502250:1=1:=rfl
theorem main.tw2714283472998740243:1=1:=rfl
theorem main.tw7332330508316399935:1=1:=rfl
theorem main.tw17438294365789470252:1=1:=rfl
theorem main.tw15277975159832343749:1=1:=rfl
theorem main.tw8879939841973710529:1=1:=rfl
theorem main.tw750237026923860459:1=1:=rfl
theorem main.tw12909650291622432550:1=1:=rfl
theorem main.tw17537897236906676801:1=1:=rfl
theorem main.tw5450094653865882931:1=1:=rfl
theorem main.tw18190005008629794160:1=1:=rfl
theorem main.tw1415428593365352553:1=1:=rfl
theorem main.tw15312040371321221727:1=1:=rfl
theorem main.tw13306352142949925410:1=1:=rfl
theorem main.tw5677329702179833609:1=1:=rfl
theorem main.tw9756827057097773860:1=1:=rfl
theorem main.tw17096532924672817327:1=1:=rfl
theorem main.tw16656740534632174751:1=1:=rfl
theorem main.tw8627561154394265716:1=1:=rfl
theorem main.tw716429049611869786:1=1:=rfl
theorem main.tw470481871638761223:1=1:=rfl
theorem main.tw14106445559736802775:1=1:=rfl
theorem main.tw17659147809683748901:1=1:=rfl
theorem main.tw9470667924834194258:1=1:=rfl
theorem main.tw3491332818749588091:1=1:=rfl
theorem main.tw9942282790977331292:1=1:=rfl
theorem main.tw11987853993630220354:1=1:=rfl
theorem main.tw7221758910455160077:1=1:=rfl
theorem main.tw6234934611588079204:1=1:=rfl
theorem main.tw17453503289922162039:1=1:=rfl
theorem main.tw5435614590818080486:1=1:=rfl
theorem main.tw9274054859765456524:1=1:=rfl
theorem main.tw9265829497004654079:1=1:=rfl
theorem main.tw7113585516715319716:1=1:=rfl
theorem main.tw10813080517026676716:1=1:=rfl
theorem main.tw12839114828313443825:1=1:=rfl
theorem main.tw2406621943657119228:1=1:=rfl
theorem main.tw8046773169563483271:1=1:=rfl
theorem main.tw7904437144335635152:1=1:=rfl
theorem main.tw7472368607099979303:1=1:=rfl
theorem main.tw1587290215689348708:1=1:=rfl
theorem main.tw13972245371655741198:1=1:=rfl
theorem main.tw15616401959046598769:1=1:=rfl
theorem main.tw1216228984421328439:1=1:=rfl
theorem main.tw17958375852430007124:1=1:=rfl
theorem main.tw5534937755968359062:1=1:=rfl
theorem main.tw1099256609624015869:1=1:=rfl
theorem main.tw12681957500809781501:1=1:=rfl
theorem main.tw10123989817122485451:1=1:=rfl
theorem main.tw11646826074482590764:1=1:=rfl
theorem main.tw17016820405989369747:1=1:=rfl
theorem main.tw8083410546124829597:1=1:=rfl
theorem main.tw7623509227018997848:1=1:=rfl
theorem main.tw3911810758690780188:1=1:=rfl
theorem main.tw8118072479153026202:1=1:=rfl
theorem main.tw15062679425460387418:1=1:=rfl
theorem main.tw341453280667917650:1=1:=rfl
theorem main.tw10210597933619972095:1=1:=rfl
theorem main.tw73751810991705359:1=1:=rfl
theorem main.tw14814594519894181452:1=1:=rfl
theorem main.tw16022572192331126682:1=1:=rfl
theorem main.tw1142173933681417890:1=1:=rfl
theorem main.tw16102231251864390963:1=1:=rfl
theorem main.tw15734660467963936456:1=1:=rfl
theorem main.tw11692516046256081784:1=1:=rfl
theorem main.tw15485851114877660061:1=1:=rfl
theorem main.tw16723884430069596700:1=1:=rfl
theorem main.tw9361300454564663673:1=1:=rfl
theorem main.tw6508729118710982530:1=1:=rfl
theorem main.tw16952715711813285254:1=1:=rfl
theorem main.tw10896356407431480244:1=1:=rfl
theorem main.tw1678875084529416142:1=1:=rfl
theorem main.tw1198661942849946583:1=1:=rfl
theorem main.tw11716418206903941319:1=1:=rfl
theorem main.tw15737690656516749961:1=1:=rfl
theorem main.tw854977524454699277:1=1:=rfl
theorem main.tw16136984950599521427:1=1:=rfl
theorem main.tw15356762974548107741:1=1:=rfl
theorem main.tw18332899500509843999:1=1:=rfl
theorem main.tw12252054271945606052:1=1:=rfl
theorem main.tw15579395750891953841:1=1:=rfl
theorem main.tw13590572293223372214:1=1:=rfl
theorem main.tw11982392923317675503:1=1:=rfl
theorem main.tw3627144658338631552:1=1:=rfl
theorem main.tw10334261112615635914:1=1:=rfl
theorem main.tw11049269918873537771:1=1:=rfl
theorem main.tw13667920496262714385:1=1:=rfl
theorem main.tw3370842686811476594:1=1:=rfl
theorem main.tw10665469846841522134:1=1:=rfl
theorem main.tw645136716886899192:1=1:=rfl
theorem main.tw17128291446047057950:1=1:=rfl
theorem main.tw15410482203810522393:1=1:=rfl
theorem main.tw11487549891475536569:1=1:=rfl
theorem main.tw11120327062377616369:1=1:=rfl
theorem main.tw6657087868060814:1=1:=rfl
theorem main.tw6584820252761975732:1=1:=rfl
theorem main.tw16676564476587882173:1=1:=rfl
theorem main.tw11774690029378154688:1=1:=rfl
theorem main.tw5234446048077146213:1=1:=rfl
theorem main.tw13313126695403321540:1=1:=rfl
theorem main.tw13132915859168520264:1=1:=rfl
theorem main.tw15928290008803537013:1=1:=rfl
theorem main.tw5309058905264134205:1=1:=rfl
theorem main.tw11729630521733628537:1=1:=rfl
theorem main.tw12800608258095302798:1=1:=rfl
theorem main.tw14492832472218066102:1=1:=rfl
theorem main.tw7719453753418645345:1=1:=rfl
theorem main.tw7019240024125815769:1=1:=rfl
theorem main.tw15087427406127887449:1=1:=rfl
theorem main.tw17561526911342447988:1=1:=rfl
theorem main.tw13980345723018547825:1=1:=rfl
theorem main.tw14759895335926876869:1=1:=rfl
theorem main.tw2287757881348798766:1=1:=rfl
theorem main.tw7751025194823839400:1=1:=rfl
theorem main.tw14907226015203709474:1=1:=rfl
theorem main.tw5649967823195072380:1=1:=rfl
theorem main.tw7186131708394509389:1=1:=rfl
theorem main.tw14080665800827857628:1=1:=rfl
theorem main.tw4044139247061151142:1=1:=rfl
theorem main.tw6162249291895867263:1=1:=rfl
theorem main.tw4261964983698606537:1=1:=rfl
theorem main.tw2675658811408624930:1=1:=rfl
theorem main.tw15624239662980076321:1=1:=rfl
theorem main.tw1118068078248606362:1=1:=rfl
theorem main.tw1980160206288974728:1=1:=rfl
theorem main.tw12298629886278197574:1=1:=rfl
theorem main.tw11135027115929721415:1=1:=rfl
theorem main.tw5084117380071580128:1=1:=rfl
theorem main.tw451873465583785326:1=1:=rfl
theorem main.tw18063282731904131703:1=1:=rfl
theorem main.tw13597483153833180358:1=1:=rfl
theorem main.tw9730157408454304684:1=1:=rfl
theorem main.tw7943094425149488825:1=1:=rfl
theorem main.tw6632538468102435922:1=1:=rfl
theorem main.tw65644731488775911:1=1:=rfl
theorem main.tw1714950047550659301:1=1:=rfl
theorem main.tw6044114016751833949:1=1:=rfl
theorem main.tw10876375607700338302:1=1:=rfl
theorem main.tw16757190730947197508:1=1:=rfl
theorem main.tw5240536507193477226:1=1:=rfl
theorem main.tw18302796317244248524:1=1:=rfl
theorem main.tw1429040668314091153:1=1:=rfl
theorem main.tw14161005256144132680:1=1:=rfl
theorem main.tw2906824675625879941:1=1:=rfl
theorem main.tw10363585996791799541:1=1:=rfl
theorem main.tw104360540948158410:1=1:=rfl
theorem main.tw3994622017586750766:1=1:=rfl
theorem main.tw17431719831054627609:1=1:=rfl
theorem main.tw14662554035588321541:1=1:=rfl
theorem main.tw11092141859048813250:1=1:=rfl
theorem main.tw3960113756560652017:1=1:=rfl
theorem main.tw9302470337196694018:1=1:=rfl
theorem main.tw15467891735981029475:1=1:=rfl
theorem main.tw8652556701797213591:1=1:=rfl
theorem main.tw6334894449686545209:1=1:=rfl
theorem main.tw5613160597433933154:1=1:=rfl
theorem main.tw5378808338967829844:1=1:=rfl
theorem main.tw15768048840197415361:1=1:=rfl
theorem main.tw9656510801202774680:1=1:=rfl
theorem main.tw9368617206455126095:1=1:=rfl
theorem main.tw9681375758050803366:1=1:=rfl
theorem main.tw4365514962571936147:1=1:=rfl
theorem main.tw474381771622712015:1=1:=rfl
theorem main.tw2821470743931037460:1=1:=rfl
theorem main.tw12608185968620612914:1=1:=rfl
theorem main.tw11409991511011244131:1=1:=rfl
theorem main.tw17737603089517620647:1=1:=rfl
theorem main.tw2402762420636078793:1=1:=rfl
theorem main.tw12304082900475741265:1=1:=rfl
theorem main.tw10924716458440934090:1=1:=rfl
theorem main.tw2724176850512262202:1=1:=rfl
theorem main.tw17272174723667511238:1=1:=rfl
theorem main.tw3454311308915712629:1=1:=rfl
theorem main.tw14439473939278146460:1=1:=rfl
theorem main.tw11374851513655246148:1=1:=rfl
theorem main.tw10094358506670053839:1=1:=rfl
theorem main.tw10047389527955405517:1=1:=rfl
theorem main.tw7972779244933481256:1=1:=rfl
theorem main.tw17057053908230417247:1=1:=rfl
theorem main.tw8102450764968551371:1=1:=rfl
theorem main.tw14554314840745968623:1=1:=rfl
theorem main.tw17262041522474090127:1=1:=rfl
theorem main.tw9161159452563919750:1=1:=rfl
theorem main.tw15438212644395081984:1=1:=rfl
theorem main.tw10985888656933367436:1=1:=rfl
theorem main.tw10483362588635715401:1=1:=rfl
theorem main.tw16411370214107742406:1=1:=rfl
theorem main.tw17871620999419790863:1=1:=rfl
theorem main.tw2238316416991798583:1=1:=rfl
theorem main.tw16923884221124529275:1=1:=rfl
theorem main.tw18120430973489738927:1=1:=rfl
theorem main.tw4072190877284726289:1=1:=rfl
theorem main.tw2759098988195820126:1=1:=rfl
theorem main.tw962193829226610041:1=1:=rfl
theorem main.tw17647351573629430322:1=1:=rfl
theorem main.tw8809968196449919288:1=1:=rfl
theorem main.tw12653679108036650311:1=1:=rfl
theorem main.tw8663697691656813868:1=1:=rfl
theorem main.tw8427638858588021438:1=1:=rfl
theorem main.tw12027323910402764344:1=1:=rfl
theorem main.tw14168887731352723522:1=1:=rfl
theorem main.tw15955573374722617477:1=1:=rfl
theorem main.tw10234815189450012239:1=1:=rfl
theorem main.tw5418533224930618480:1=1:=rfl
theorem main.tw2058021452347087232:1=1:=rfl
theorem main.tw9369988214560726041:1=1:=rfl
theorem main.tw6855474311058116810:1=1:=rfl
theorem main.tw3160845607165458772:1=1:=rfl
theorem main.tw3562595001068472590:1=1:=rfl
theorem main.tw2524017781993486291:1=1:=rfl
theorem main.tw10044588960856096794:1=1:=rfl
theorem main.tw9155575984036265788:1=1:=rfl
theorem main.tw17708487481403421675:1=1:=rfl
theorem main.tw4775608329324902142:1=1:=rfl
theorem main.tw7411558596216406370:1=1:=rfl
theorem main.tw18284262389922463811:1=1:=rfl
theorem main.tw17091655785135471103:1=1:=rfl
theorem main.tw10642606787283503386:1=1:=rfl
theorem main.tw9994787619460420439:1=1:=rfl
theorem main.tw12518504611687188807:1=1:=rfl
theorem main.tw6655696309031964122:1=1:=rfl
theorem main.tw6545385358150927430:1=1:=rfl
theorem main.tw4458048076830672230:1=1:=rfl
theorem main.tw11403851563620829512:1=1:=rfl
theorem main.tw2583023086579268501:1=1:=rfl
theorem main.tw5781596087445459943:1=1:=rfl
theorem main.tw9498315638749924794:1=1:=rfl
theorem main.tw3867218068155391060:1=1:=rfl
theorem main.tw6697339332421208802:1=1:=rfl
theorem main.tw7299474751278700455:1=1:=rfl
theorem main.tw14443092014599818573:1=1:=rfl
theorem main.tw15803610866087392283:1=1:=rfl
theorem main.tw11595355409239048105:1=1:=rfl
theorem main.tw11221353774195762014:1=1:=rfl
theorem main.tw6511744376749373798:1=1:=rfl
theorem main.tw6140287776057189764:1=1:=rfl
theorem main.tw6075091234017535682:1=1:=rfl
theorem main.tw979501456738626862:1=1:=rfl
theorem main.tw656089360051881306:1=1:=rfl
theorem main.tw18385570937342765463:1=1:=rfl
theorem main.tw4839478117068044826:1=1:=rfl
theorem main.tw8249873531624179374:1=1:=rfl
theorem main.tw18031918436515192882:1=1:=rfl
theorem main.tw16551855485269240956:1=1:=rfl
theorem main.tw16480584520131690045:1=1:=rfl
theorem main.tw15097543051748444868:1=1:=rfl
theorem main.tw10609540516017602915:1=1:=rfl
theorem main.tw9805168224760091760:1=1:=rfl
theorem main.tw5838101520590548733:1=1:=rfl
theorem main.tw3203809635103463919:1=1:=rfl
theorem main.tw3299218664060906527:1=1:=rfl
theorem main.tw2647654807098235363:1=1:=rfl
theorem main.tw14009396871252706886:1=1:=rfl
theorem main.tw6519269512792494810:1=1:=rfl
theorem main.tw9897820754763898449:1=1:=rfl
theorem main.tw9381277316556691805:1=1:=rfl
theorem main.tw6087835443962453003:1=1:=rfl
theorem main.tw5400957986263281647:1=1:=rfl
theorem main.tw1886080085820668685:1=1:=rfl
theorem main.tw16721930046160240684:1=1:=rfl
theorem main.tw161903638078081290:1=1:=rfl
theorem main.tw16135426469972691074:1=1:=rfl
theorem main.tw14313897822631088780:1=1:=rfl
theorem main.tw12670839924663504800:1=1:=rfl
theorem main.tw12483276189755474720:1=1:=rfl
theorem main.tw12057704586751987240:1=1:=rfl
theorem main.tw10665089971535097683:1=1:=rfl
theorem main.tw7237411587787531456:1=1:=rfl
theorem main.tw5160751907100791332:1=1:=rfl
theorem main.tw6559806142732475569:1=1:=rfl
theorem main.tw5372645768047454471:1=1:=rfl
theorem main.tw3262662943086543052:1=1:=rfl
theorem main.tw6252391252262179987:1=1:=rfl
theorem main.tw5797031442667253490:1=1:=rfl
theorem main.tw4651154628705390771:1=1:=rfl
theorem main.tw4297412468100583042:1=1:=rfl
theorem main.tw16357356043003861740:1=1:=rfl
theorem main.tw11962923498438245051:1=1:=rfl
theorem main.tw1850612553970854742:1=1:=rfl
theorem main.tw13797323745857372409:1=1:=rfl
theorem main.tw5623159541915647742:1=1:=rfl
theorem main.tw1261021989165538067:1=1:=rfl
theorem main.tw9071729483887776986:1=1:=rfl
theorem main.tw6912675738884088206:1=1:=rfl
theorem main.tw5104194264097766351:1=1:=rfl
theorem main.tw1777545030009416734:1=1:=rfl
theorem main.tw16544489699163171333:1=1:=rfl
theorem main.tw15734200111481486640:1=1:=rfl
theorem main.tw13154001654789283132:1=1:=rfl
theorem main.tw17974016328880235120:1=1:=rfl
theorem main.tw17906638245316424091:1=1:=rfl
theorem main.tw15225127925928830808:1=1:=rfl
theorem main.tw8283060676807011144:1=1:=rfl
theorem main.tw5671064798259553346:1=1:=rfl
theorem main.tw18344032359734412310:1=1:=rfl
theorem main.tw11785714552879321826:1=1:=rfl
theorem main.tw4719957520787936630:1=1:=rfl
theorem main.tw15970538086172389420:1=1:=rfl
theorem main.tw8211959896082780389:1=1:=rfl
theorem main.tw9011639564254621642:1=1:=rfl
theorem main.tw15425874342098770709:1=1:=rfl
theorem main.tw1046443281632482020:1=1:=rfl
theorem main.tw2750411421705246143:1=1:=rfl
theorem main.tw16922381011570985944:1=1:=rfl
theorem main.tw12170992721606120685:1=1:=rfl
theorem main.tw799486724532869496:1=1:=rfl
theorem main.tw4917070330192852093:1=1:=rfl
theorem main.tw4216741518440994707:1=1:=rfl
theorem main.tw10474107093616326617:1=1:=rfl
theorem main.tw10564528347858357063:1=1:=rfl
theorem main.tw8828626079734051433:1=1:=rfl
theorem main.tw4990475226369331113:1=1:=rfl
theorem main.tw4156125974679941130:1=1:=rfl
theorem main.tw3466206800631347469:1=1:=rfl
theorem main.tw2629084897520917108:1=1:=rfl
theorem main.tw14216407083858561409:1=1:=rfl
theorem main.tw4330594992337426955:1=1:=rfl
theorem main.tw4650958065196391918:1=1:=rfl
theorem main.tw18325589031809861271:1=1:=rfl
theorem main.tw15491723280356408159:1=1:=rfl
theorem main.tw2190695567426971638:1=1:=rfl
theorem main.tw11410963132546700228:1=1:=rfl
theorem main.tw8467378866343419333:1=1:=rfl
theorem main.tw3045742163950154196:1=1:=rfl
theorem main.tw10114013102757674387:1=1:=rfl
theorem main.tw6361450105264607166:1=1:=rfl
theorem main.tw9557352009045844224:1=1:=rfl
theorem main.tw833945537157984683:1=1:=rfl
theorem main.tw6112859857366181021:1=1:=rfl
theorem main.tw17456035664235451855:1=1:=rfl
theorem main.tw1645717771770832407:1=1:=rfl
theorem main.tw16193401482309157537:1=1:=rfl
theorem main.tw13113777628852026922:1=1:=rfl
theorem main.tw11614107205274993552:1=1:=rfl
theorem main.tw11501822485730972192:1=1:=rfl
theorem main.tw8546124895413445307:1=1:=rfl
theorem main.tw14722489848711283861:1=1:=rfl
theorem main.tw3288582142898991060:1=1:=rfl
theorem main.tw4452170602077327944:1=1:=rfl
theorem main.tw1632041292262086317:1=1:=rfl
theorem main.tw11239335112260394413:1=1:=rfl
theorem main.tw31828345220925962:1=1:=rfl
theorem main.tw15565075772751903193:1=1:=rfl
theorem main.tw3459380146013217038:1=1:=rfl
theorem main.tw15136431859952498927:1=1:=rfl
theorem main.tw15806524323241146399:1=1:=rfl
theorem main.tw1486339892855113045:1=1:=rfl
theorem main.tw12574995316784493246:1=1:=rfl
theorem main.tw6921685317656363116:1=1:=rfl
theorem main.tw2195194259037543316:1=1:=rfl
theorem main.tw8265370782698574782:1=1:=rfl
theorem main.tw892681787802806017:1=1:=rfl
theorem main.tw5995161000843957690:1=1:=rfl
theorem main.tw4749052000479324790:1=1:=rfl
theorem main.tw11554813239044494598:1=1:=rfl
theorem main.tw11461230924637031220:1=1:=rfl
theorem main.tw8947760058931562597:1=1:=rfl
theorem main.tw6981815665589151136:1=1:=rfl
theorem main.tw6389877041954997217:1=1:=rfl
theorem main.tw588950844065142505:1=1:=rfl
theorem main.tw4258463428174104133:1=1:=rfl
theorem main.tw4189750870438640210:1=1:=rfl
theorem main.tw3848698983108048278:1=1:=rfl
theorem main.tw3626430660855392483:1=1:=rfl
theorem main.tw17920292393507637884:1=1:=rfl
theorem main.tw17336282652733537790:1=1:=rfl
theorem main.tw17223442867436993403:1=1:=rfl
theorem main.tw16950194794029067938:1=1:=rfl
theorem main.tw1545906260438175962:1=1:=rfl
theorem main.tw15079240505294077160:1=1:=rfl
theorem main.tw14849204138880929251:1=1:=rfl
theorem main.tw11710404883906591787:1=1:=rfl
theorem main.tw11261727412033496967:1=1:=rfl
theorem main.tw7698036289167662538:1=1:=rfl
theorem main.tw16629339528299215175:1=1:=rfl
theorem main.tw12590340796369385619:1=1:=rfl
theorem main.tw10204856939554784155:1=1:=rfl
theorem main.tw6214117541549086881:1=1:=rfl
theorem main.tw1264294196387467257:1=1:=rfl
theorem main.tw6535589618603614281:1=1:=rfl
theorem main.tw7639352225515584698:1=1:=rfl
theorem main.tw6785432497481299714:1=1:=rfl
theorem main.tw48596604365144762:1=1:=rfl
theorem main.tw18421580907717582127:1=1:=rfl
theorem main.tw14672674291997333471:1=1:=rfl
theorem main.tw3757346529566363471:1=1:=rfl
theorem main.tw10987386120367425466:1=1:=rfl
theorem main.tw12922898485456448571:1=1:=rfl
set_option Elab.async true in
set_option maxRecDepth 100000 in
set_option maxHeartbeats 8000000 in
theorem main : PySem.Challenge.rw_nn0231_01.Holds := by
  w_on; o_law; k_head; (case hw => w_witness2); w_strict (k_go0; rename_i hL ra w1 r0 hI hr hc1 hc2 hD h1 X T K F cA cB cC N l0; with_reducible refine law_join (n := 0) X ?qc T K F cA cB cC codeHd N ?q1 hI ?q2 ?q3 ?q4 ?q5 ?q6 ?q7; (case qc => refine ⟨?_,?_,?_,?_,?_,?_,?_,?_,?_,?_,?_,?_,?_,?_,?_,?_,?_,?_,?_,?_,?_,?_,?_⟩ <;> (as_aux_lemma => kernel_rfl)); (case q1 => exact well_list w1 lifted (fun b o e => of_hideAll _ e)); (case q2 => exact len_ok hI hc1); (case q3 => as_aux_lemma => kernel_rfl); (case q4 => rfl); (case q5 => kernel_rfl); (case q7 => intro e s' h; exact wpAny_mono h (fun _ _ q => q.elim) (fun _ _ q => q.elim)); (case q6 => intro s' k1 k2 k3 k4; refine ⟨goodW_true ?_ ?_ k1 k2 (k3.trans (by assumption)),k4⟩; (intro cls; first | rfl | kernel_rfl | (simp; done)); (first | rfl | kernel_rfl)))
end Mine
end
theorem PySem.Challenge.cw_nn0231_01_holds : PySem.Challenge.rw_nn0231_01.Holds :=
  Mine.main
