import PyProof.Rows.All
import Wide.All
import OpenK.AllK
import Wide.FinOn
import PyProof.ExcAttrAll.Exception
import PySem.Challenge.RW_nt0373_01

set_option Elab.async false

local macro_rules | `(tactic| cases $h:term) => `(tactic| first
  | (exfalso; injection $h; done)
  | subst $h
  | injection $h with q r s <;> cases q <;> cases r <;> cases s
  | injection $h with q r <;> cases q <;> cases r
  | injection $h with q <;> cases q
  | (have q := $h; subst q))

section
namespace Mine
theorem Xaa {p0:Prop} {p1:Prop} {P:Prop} (H:p0∧p1) (K:p0→p1→P):P:=K H.1 H.2
theorem Xaaa {p0:Prop} {p1:Prop} {p2:Prop} {P:Prop} (H:p0∧p1∧p2) (K:p0→p1→p2→P):P:=K H.1 H.2.1 H.2.2
theorem Xaaaa {p0:Prop} {p1:Prop} {p2:Prop} {p3:Prop} {P:Prop} (H:p0∧p1∧p2∧p3) (K:p0→p1→p2→p3→P):P:=K H.1 H.2.1 H.2.2.1 H.2.2.2
theorem Xaaaaa {p0:Prop} {p1:Prop} {p2:Prop} {p3:Prop} {p4:Prop} {P:Prop} (H:p0∧p1∧p2∧p3∧p4) (K:p0→p1→p2→p3→p4→P):P:=K H.1 H.2.1 H.2.2.1 H.2.2.2.1 H.2.2.2.2
theorem Xaaaaea {α:Type} {p0:Prop} {p1:Prop} {p2:Prop} {p3:Prop} {p4:α→Prop} {P:Prop} (H:p0∧p1∧p2∧p3∧∃ a,p4 a) (K:p0→p1→p2→p3→∀ a,p4 a→P):P:=H.2.2.2.2.elim fun a H1=>K H.1 H.2.1 H.2.2.1 H.2.2.2.1 a H1
theorem Xaaaaeea {α β:Type} {p0:Prop} {p1:Prop} {p2:Prop} {p3:Prop} {p4:α→β→Prop} {P:Prop} (H:p0∧p1∧p2∧p3∧∃ a,∃ b,p4 a b) (K:p0→p1→p2→p3→∀ a,∀ b,p4 a b→P):P:=H.2.2.2.2.elim fun a H1=>H1.elim fun b H2=>K H.1 H.2.1 H.2.2.1 H.2.2.2.1 a b H2
theorem Xaeeaa {α β:Type} {p0:Prop} {p1:α→β→Prop} {p2:α→β→Prop} {P:Prop} (H:p0∧∃ a,∃ b,p1 a b∧p2 a b) (K:p0→∀ a,∀ b,p1 a b→p2 a b→P):P:=H.2.elim fun a H1=>H1.elim fun b H2=>K H.1 a b H2.1 H2.2
theorem Xaeeaaa {α β:Type} {p0:Prop} {p1:α→β→Prop} {p2:α→β→Prop} {p3:α→β→Prop} {P:Prop} (H:p0∧∃ a,∃ b,p1 a b∧p2 a b∧p3 a b) (K:p0→∀ a,∀ b,p1 a b→p2 a b→p3 a b→P):P:=H.2.elim fun a H1=>H1.elim fun b H2=>K H.1 a b H2.1 H2.2.1 H2.2.2
theorem Xaeeaaaaa {α β:Type} {p0:Prop} {p1:α→β→Prop} {p2:α→β→Prop} {p3:α→β→Prop} {p4:α→β→Prop} {p5:α→β→Prop} {P:Prop} (H:p0∧∃ a,∃ b,p1 a b∧p2 a b∧p3 a b∧p4 a b∧p5 a b) (K:p0→∀ a,∀ b,p1 a b→p2 a b→p3 a b→p4 a b→p5 a b→P):P:=H.2.elim fun a H1=>H1.elim fun b H2=>K H.1 a b H2.1 H2.2.1 H2.2.2.1 H2.2.2.2.1 H2.2.2.2.2
theorem Xaeeaaaaeea {α β γ δ:Type} {p0:Prop} {p1:α→β→Prop} {p2:α→β→Prop} {p3:α→β→Prop} {p4:α→β→Prop} {p5:α→β→γ→δ→Prop} {P:Prop} (H:p0∧∃ a,∃ b,p1 a b∧p2 a b∧p3 a b∧p4 a b∧∃ c,∃ d,p5 a b c d) (K:p0→∀ a,∀ b,p1 a b→p2 a b→p3 a b→p4 a b→∀ c,∀ d,p5 a b c d→P):P:=H.2.elim fun a H1=>H1.elim fun b H2=>H2.2.2.2.2.elim fun c H3=>H3.elim fun d H4=>K H.1 a b H2.1 H2.2.1 H2.2.2.1 H2.2.2.2.1 c d H4
theorem Xaeeeeeeeaaaaaaaaa {α β γ δ ε ζ η:Type} {p0:Prop} {p1:α→β→γ→δ→ε→ζ→η→Prop} {p2:α→β→γ→δ→ε→ζ→η→Prop} {p3:α→β→γ→δ→ε→ζ→η→Prop} {p4:α→β→γ→δ→ε→ζ→η→Prop} {p5:α→β→γ→δ→ε→ζ→η→Prop} {p6:α→β→γ→δ→ε→ζ→η→Prop} {p7:α→β→γ→δ→ε→ζ→η→Prop} {p8:α→β→γ→δ→ε→ζ→η→Prop} {p9:α→β→γ→δ→ε→ζ→η→Prop} {P:Prop} (H:p0∧∃ a,∃ b,∃ c,∃ d,∃ e,∃ f,∃ g,p1 a b c d e f g∧p2 a b c d e f g∧p3 a b c d e f g∧p4 a b c d e f g∧p5 a b c d e f g∧p6 a b c d e f g∧p7 a b c d e f g∧p8 a b c d e f g∧p9 a b c d e f g) (K:p0→∀ a,∀ b,∀ c,∀ d,∀ e,∀ f,∀ g,p1 a b c d e f g→p2 a b c d e f g→p3 a b c d e f g→p4 a b c d e f g→p5 a b c d e f g→p6 a b c d e f g→p7 a b c d e f g→p8 a b c d e f g→p9 a b c d e f g→P):P:=H.2.elim fun a H1=>H1.elim fun b H2=>H2.elim fun c H3=>H3.elim fun d H4=>H4.elim fun e H5=>H5.elim fun f H6=>H6.elim fun g H7=>K H.1 a b c d e f g H7.1 H7.2.1 H7.2.2.1 H7.2.2.2.1 H7.2.2.2.2.1 H7.2.2.2.2.2.1 H7.2.2.2.2.2.2.1 H7.2.2.2.2.2.2.2.1 H7.2.2.2.2.2.2.2.2
theorem Xea {α:Type} {p0:α→Prop} {P:Prop} (H:∃ a,p0 a) (K:∀ a,p0 a→P):P:=H.elim fun a H1=>K a H1
theorem Xeaa {α:Type} {p0:α→Prop} {p1:α→Prop} {P:Prop} (H:∃ a,p0 a∧p1 a) (K:∀ a,p0 a→p1 a→P):P:=H.elim fun a H1=>K a H1.1 H1.2
theorem Xeaaa {α:Type} {p0:α→Prop} {p1:α→Prop} {p2:α→Prop} {P:Prop} (H:∃ a,p0 a∧p1 a∧p2 a) (K:∀ a,p0 a→p1 a→p2 a→P):P:=H.elim fun a H1=>K a H1.1 H1.2.1 H1.2.2
theorem Xeaaaa {α:Type} {p0:α→Prop} {p1:α→Prop} {p2:α→Prop} {p3:α→Prop} {P:Prop} (H:∃ a,p0 a∧p1 a∧p2 a∧p3 a) (K:∀ a,p0 a→p1 a→p2 a→p3 a→P):P:=H.elim fun a H1=>K a H1.1 H1.2.1 H1.2.2.1 H1.2.2.2
theorem Xeaaaaa {α:Type} {p0:α→Prop} {p1:α→Prop} {p2:α→Prop} {p3:α→Prop} {p4:α→Prop} {P:Prop} (H:∃ a,p0 a∧p1 a∧p2 a∧p3 a∧p4 a) (K:∀ a,p0 a→p1 a→p2 a→p3 a→p4 a→P):P:=H.elim fun a H1=>K a H1.1 H1.2.1 H1.2.2.1 H1.2.2.2.1 H1.2.2.2.2
theorem Xeaaaaaaa {α:Type} {p0:α→Prop} {p1:α→Prop} {p2:α→Prop} {p3:α→Prop} {p4:α→Prop} {p5:α→Prop} {p6:α→Prop} {P:Prop} (H:∃ a,p0 a∧p1 a∧p2 a∧p3 a∧p4 a∧p5 a∧p6 a) (K:∀ a,p0 a→p1 a→p2 a→p3 a→p4 a→p5 a→p6 a→P):P:=H.elim fun a H1=>K a H1.1 H1.2.1 H1.2.2.1 H1.2.2.2.1 H1.2.2.2.2.1 H1.2.2.2.2.2.1 H1.2.2.2.2.2.2
theorem Xeaaaeea {α β γ:Type} {p0:α→Prop} {p1:α→Prop} {p2:α→Prop} {p3:α→β→γ→Prop} {P:Prop} (H:∃ a,p0 a∧p1 a∧p2 a∧∃ b,∃ c,p3 a b c) (K:∀ a,p0 a→p1 a→p2 a→∀ b,∀ c,p3 a b c→P):P:=H.elim fun a H1=>H1.2.2.2.elim fun b H2=>H2.elim fun c H3=>K a H1.1 H1.2.1 H1.2.2.1 b c H3
theorem Xeaaea {α β:Type} {p0:α→Prop} {p1:α→Prop} {p2:α→β→Prop} {P:Prop} (H:∃ a,p0 a∧p1 a∧∃ b,p2 a b) (K:∀ a,p0 a→p1 a→∀ b,p2 a b→P):P:=H.elim fun a H1=>H1.2.2.elim fun b H2=>K a H1.1 H1.2.1 b H2
theorem Xeaaeaaa {α β:Type} {p0:α→Prop} {p1:α→Prop} {p2:α→β→Prop} {p3:α→β→Prop} {p4:α→β→Prop} {P:Prop} (H:∃ a,p0 a∧p1 a∧∃ b,p2 a b∧p3 a b∧p4 a b) (K:∀ a,p0 a→p1 a→∀ b,p2 a b→p3 a b→p4 a b→P):P:=H.elim fun a H1=>H1.2.2.elim fun b H2=>K a H1.1 H1.2.1 b H2.1 H2.2.1 H2.2.2
theorem Xeaeaaa {α β:Type} {p0:α→Prop} {p1:α→β→Prop} {p2:α→β→Prop} {p3:α→β→Prop} {P:Prop} (H:∃ a,p0 a∧∃ b,p1 a b∧p2 a b∧p3 a b) (K:∀ a,p0 a→∀ b,p1 a b→p2 a b→p3 a b→P):P:=H.elim fun a H1=>H1.2.elim fun b H2=>K a H1.1 b H2.1 H2.2.1 H2.2.2
theorem Xeea {α β:Type} {p0:α→β→Prop} {P:Prop} (H:∃ a,∃ b,p0 a b) (K:∀ a,∀ b,p0 a b→P):P:=H.elim fun a H1=>H1.elim fun b H2=>K a b H2
theorem Xeeaa {α β:Type} {p0:α→β→Prop} {p1:α→β→Prop} {P:Prop} (H:∃ a,∃ b,p0 a b∧p1 a b) (K:∀ a,∀ b,p0 a b→p1 a b→P):P:=H.elim fun a H1=>H1.elim fun b H2=>K a b H2.1 H2.2
theorem Xeeaaa {α β:Type} {p0:α→β→Prop} {p1:α→β→Prop} {p2:α→β→Prop} {P:Prop} (H:∃ a,∃ b,p0 a b∧p1 a b∧p2 a b) (K:∀ a,∀ b,p0 a b→p1 a b→p2 a b→P):P:=H.elim fun a H1=>H1.elim fun b H2=>K a b H2.1 H2.2.1 H2.2.2
theorem Xeeaaaa {α β:Type} {p0:α→β→Prop} {p1:α→β→Prop} {p2:α→β→Prop} {p3:α→β→Prop} {P:Prop} (H:∃ a,∃ b,p0 a b∧p1 a b∧p2 a b∧p3 a b) (K:∀ a,∀ b,p0 a b→p1 a b→p2 a b→p3 a b→P):P:=H.elim fun a H1=>H1.elim fun b H2=>K a b H2.1 H2.2.1 H2.2.2.1 H2.2.2.2
theorem Xeeaaaaaa {α β:Type} {p0:α→β→Prop} {p1:α→β→Prop} {p2:α→β→Prop} {p3:α→β→Prop} {p4:α→β→Prop} {p5:α→β→Prop} {P:Prop} (H:∃ a,∃ b,p0 a b∧p1 a b∧p2 a b∧p3 a b∧p4 a b∧p5 a b) (K:∀ a,∀ b,p0 a b→p1 a b→p2 a b→p3 a b→p4 a b→p5 a b→P):P:=H.elim fun a H1=>H1.elim fun b H2=>K a b H2.1 H2.2.1 H2.2.2.1 H2.2.2.2.1 H2.2.2.2.2.1 H2.2.2.2.2.2
theorem Xeeaaaaaaa {α β:Type} {p0:α→β→Prop} {p1:α→β→Prop} {p2:α→β→Prop} {p3:α→β→Prop} {p4:α→β→Prop} {p5:α→β→Prop} {p6:α→β→Prop} {P:Prop} (H:∃ a,∃ b,p0 a b∧p1 a b∧p2 a b∧p3 a b∧p4 a b∧p5 a b∧p6 a b) (K:∀ a,∀ b,p0 a b→p1 a b→p2 a b→p3 a b→p4 a b→p5 a b→p6 a b→P):P:=H.elim fun a H1=>H1.elim fun b H2=>K a b H2.1 H2.2.1 H2.2.2.1 H2.2.2.2.1 H2.2.2.2.2.1 H2.2.2.2.2.2.1 H2.2.2.2.2.2.2
theorem Xeeaaaaaaaaaaa {α β:Type} {p0:α→β→Prop} {p1:α→β→Prop} {p2:α→β→Prop} {p3:α→β→Prop} {p4:α→β→Prop} {p5:α→β→Prop} {p6:α→β→Prop} {p7:α→β→Prop} {p8:α→β→Prop} {p9:α→β→Prop} {p10:α→β→Prop} {P:Prop} (H:∃ a,∃ b,p0 a b∧p1 a b∧p2 a b∧p3 a b∧p4 a b∧p5 a b∧p6 a b∧p7 a b∧p8 a b∧p9 a b∧p10 a b) (K:∀ a,∀ b,p0 a b→p1 a b→p2 a b→p3 a b→p4 a b→p5 a b→p6 a b→p7 a b→p8 a b→p9 a b→p10 a b→P):P:=H.elim fun a H1=>H1.elim fun b H2=>K a b H2.1 H2.2.1 H2.2.2.1 H2.2.2.2.1 H2.2.2.2.2.1 H2.2.2.2.2.2.1 H2.2.2.2.2.2.2.1 H2.2.2.2.2.2.2.2.1 H2.2.2.2.2.2.2.2.2.1 H2.2.2.2.2.2.2.2.2.2.1 H2.2.2.2.2.2.2.2.2.2.2
theorem Xeeea {α β γ:Type} {p0:α→β→γ→Prop} {P:Prop} (H:∃ a,∃ b,∃ c,p0 a b c) (K:∀ a,∀ b,∀ c,p0 a b c→P):P:=H.elim fun a H1=>H1.elim fun b H2=>H2.elim fun c H3=>K a b c H3
theorem Xeeeaa {α β γ:Type} {p0:α→β→γ→Prop} {p1:α→β→γ→Prop} {P:Prop} (H:∃ a,∃ b,∃ c,p0 a b c∧p1 a b c) (K:∀ a,∀ b,∀ c,p0 a b c→p1 a b c→P):P:=H.elim fun a H1=>H1.elim fun b H2=>H2.elim fun c H3=>K a b c H3.1 H3.2
theorem Xeeeaaa {α β γ:Type} {p0:α→β→γ→Prop} {p1:α→β→γ→Prop} {p2:α→β→γ→Prop} {P:Prop} (H:∃ a,∃ b,∃ c,p0 a b c∧p1 a b c∧p2 a b c) (K:∀ a,∀ b,∀ c,p0 a b c→p1 a b c→p2 a b c→P):P:=H.elim fun a H1=>H1.elim fun b H2=>H2.elim fun c H3=>K a b c H3.1 H3.2.1 H3.2.2
theorem Xeeeaaaa {α β γ:Type} {p0:α→β→γ→Prop} {p1:α→β→γ→Prop} {p2:α→β→γ→Prop} {p3:α→β→γ→Prop} {P:Prop} (H:∃ a,∃ b,∃ c,p0 a b c∧p1 a b c∧p2 a b c∧p3 a b c) (K:∀ a,∀ b,∀ c,p0 a b c→p1 a b c→p2 a b c→p3 a b c→P):P:=H.elim fun a H1=>H1.elim fun b H2=>H2.elim fun c H3=>K a b c H3.1 H3.2.1 H3.2.2.1 H3.2.2.2
theorem Xeeeaaaaa {α β γ:Type} {p0:α→β→γ→Prop} {p1:α→β→γ→Prop} {p2:α→β→γ→Prop} {p3:α→β→γ→Prop} {p4:α→β→γ→Prop} {P:Prop} (H:∃ a,∃ b,∃ c,p0 a b c∧p1 a b c∧p2 a b c∧p3 a b c∧p4 a b c) (K:∀ a,∀ b,∀ c,p0 a b c→p1 a b c→p2 a b c→p3 a b c→p4 a b c→P):P:=H.elim fun a H1=>H1.elim fun b H2=>H2.elim fun c H3=>K a b c H3.1 H3.2.1 H3.2.2.1 H3.2.2.2.1 H3.2.2.2.2
theorem Xeeeaaaaaa {α β γ:Type} {p0:α→β→γ→Prop} {p1:α→β→γ→Prop} {p2:α→β→γ→Prop} {p3:α→β→γ→Prop} {p4:α→β→γ→Prop} {p5:α→β→γ→Prop} {P:Prop} (H:∃ a,∃ b,∃ c,p0 a b c∧p1 a b c∧p2 a b c∧p3 a b c∧p4 a b c∧p5 a b c) (K:∀ a,∀ b,∀ c,p0 a b c→p1 a b c→p2 a b c→p3 a b c→p4 a b c→p5 a b c→P):P:=H.elim fun a H1=>H1.elim fun b H2=>H2.elim fun c H3=>K a b c H3.1 H3.2.1 H3.2.2.1 H3.2.2.2.1 H3.2.2.2.2.1 H3.2.2.2.2.2
theorem Xeeeaaaaaaa {α β γ:Type} {p0:α→β→γ→Prop} {p1:α→β→γ→Prop} {p2:α→β→γ→Prop} {p3:α→β→γ→Prop} {p4:α→β→γ→Prop} {p5:α→β→γ→Prop} {p6:α→β→γ→Prop} {P:Prop} (H:∃ a,∃ b,∃ c,p0 a b c∧p1 a b c∧p2 a b c∧p3 a b c∧p4 a b c∧p5 a b c∧p6 a b c) (K:∀ a,∀ b,∀ c,p0 a b c→p1 a b c→p2 a b c→p3 a b c→p4 a b c→p5 a b c→p6 a b c→P):P:=H.elim fun a H1=>H1.elim fun b H2=>H2.elim fun c H3=>K a b c H3.1 H3.2.1 H3.2.2.1 H3.2.2.2.1 H3.2.2.2.2.1 H3.2.2.2.2.2.1 H3.2.2.2.2.2.2
theorem Xeeeea {α β γ δ:Type} {p0:α→β→γ→δ→Prop} {P:Prop} (H:∃ a,∃ b,∃ c,∃ d,p0 a b c d) (K:∀ a,∀ b,∀ c,∀ d,p0 a b c d→P):P:=H.elim fun a H1=>H1.elim fun b H2=>H2.elim fun c H3=>H3.elim fun d H4=>K a b c d H4
theorem Xeeeeaaaa {α β γ δ:Type} {p0:α→β→γ→δ→Prop} {p1:α→β→γ→δ→Prop} {p2:α→β→γ→δ→Prop} {p3:α→β→γ→δ→Prop} {P:Prop} (H:∃ a,∃ b,∃ c,∃ d,p0 a b c d∧p1 a b c d∧p2 a b c d∧p3 a b c d) (K:∀ a,∀ b,∀ c,∀ d,p0 a b c d→p1 a b c d→p2 a b c d→p3 a b c d→P):P:=H.elim fun a H1=>H1.elim fun b H2=>H2.elim fun c H3=>H3.elim fun d H4=>K a b c d H4.1 H4.2.1 H4.2.2.1 H4.2.2.2
theorem Xeeeeaaaaa {α β γ δ:Type} {p0:α→β→γ→δ→Prop} {p1:α→β→γ→δ→Prop} {p2:α→β→γ→δ→Prop} {p3:α→β→γ→δ→Prop} {p4:α→β→γ→δ→Prop} {P:Prop} (H:∃ a,∃ b,∃ c,∃ d,p0 a b c d∧p1 a b c d∧p2 a b c d∧p3 a b c d∧p4 a b c d) (K:∀ a,∀ b,∀ c,∀ d,p0 a b c d→p1 a b c d→p2 a b c d→p3 a b c d→p4 a b c d→P):P:=H.elim fun a H1=>H1.elim fun b H2=>H2.elim fun c H3=>H3.elim fun d H4=>K a b c d H4.1 H4.2.1 H4.2.2.1 H4.2.2.2.1 H4.2.2.2.2
theorem Xeeeeeeeea {α β γ δ ε ζ η θ:Type} {p0:α→β→γ→δ→ε→ζ→η→θ→Prop} {P:Prop} (H:∃ a,∃ b,∃ c,∃ d,∃ e,∃ f,∃ g,∃ h,p0 a b c d e f g h) (K:∀ a,∀ b,∀ c,∀ d,∀ e,∀ f,∀ g,∀ h,p0 a b c d e f g h→P):P:=H.elim fun a H1=>H1.elim fun b H2=>H2.elim fun c H3=>H3.elim fun d H4=>H4.elim fun e H5=>H5.elim fun f H6=>H6.elim fun g H7=>H7.elim fun h H8=>K a b c d e f g h H8
theorem Xeeeeeeeeeeeea {α β γ δ ε ζ η θ ι κ μ ν:Type} {p0:α→β→γ→δ→ε→ζ→η→θ→ι→κ→μ→ν→Prop} {P:Prop} (H:∃ a,∃ b,∃ c,∃ d,∃ e,∃ f,∃ g,∃ h,∃ i,∃ j,∃ k,∃ l,p0 a b c d e f g h i j k l) (K:∀ a,∀ b,∀ c,∀ d,∀ e,∀ f,∀ g,∀ h,∀ i,∀ j,∀ k,∀ l,p0 a b c d e f g h i j k l→P):P:=H.elim fun a H1=>H1.elim fun b H2=>H2.elim fun c H3=>H3.elim fun d H4=>H4.elim fun e H5=>H5.elim fun f H6=>H6.elim fun g H7=>H7.elim fun h H8=>H8.elim fun i H9=>H9.elim fun j H10=>H10.elim fun k H11=>H11.elim fun l H12=>K a b c d e f g h i j k l H12
theorem Xeeeeaa {α β γ δ:Type} {p0:α→β→γ→δ→Prop} {p1:α→β→γ→δ→Prop} {P:Prop} (H:∃ a,∃ b,∃ c,∃ d,p0 a b c d∧p1 a b c d) (K:∀ a,∀ b,∀ c,∀ d,p0 a b c d→p1 a b c d→P):P:=H.elim fun a H1=>H1.elim fun b H2=>H2.elim fun c H3=>H3.elim fun d H4=>K a b c d H4.1 H4.2
theorem nsm {α:Type} {x:Option α} {a:α} {P:Prop} (h:x=none) (e:x=some a):P:=by rw [h] at e; cases e
theorem ssm {α:Type} {x:Option α} {a b:α} (h:x=some a) (e:x=some b):a=b:=Option.some.inj (h.symm.trans e)
end Mine
end
section
set_option tactic.hygienic false
open PySem
namespace Mine
inductive D where
  | null
  | bool (b:Bool)
  | int (i:Int)
  | str (s:List Nat)
  | tup (l:List D)
  | lst (l:List D)
  | dcI (l:List (Int × D))
  | dcS (l:List (List Nat × D))

mutual
noncomputable def toP:D→PyData
  | .null=>.none
  | .bool b=>.bool b
  | .int i=>.int i
  | .str s=>.str ⟨s.toArray⟩
  | .tup l=>.tuple (toPs l)
  | .lst l=>.list (toPs l)
  | .dcI _=>.none
  | .dcS _=>.none
noncomputable def toPs:List D→List PyData
  | []=>[]
  | d :: l=>toP d :: toPs l
end
noncomputable def D.eqv (a b:D):Bool:=PyData.eqv (toP a) (toP b)
noncomputable def okE:Nat→D→Bool
  | _,.null=>true
  | _,.bool _=>true
  | _,.int _=>true
  | _,.str s=>s.all (· < 0x110000)
  | n + 1,.tup l=>l.all (okE n)
  | n + 1,.lst l=>l.all (okE n)
  | _,_=>false

inductive V where
  | d (x:D)
  | box
  | bxl
  | rd
  | own (l:List D)
  | raw (v:Value)

structure Rd where
  text:List Nat
  at':Int
  groups:Int
  back:Int

structure Store where
  box:Option (List Int × Int):=.none
  rd:Option Rd:=.none

inductive R (α:Type) where
  | ok (a:α) (σ:Store)
  | exc (k t:List Nat) (σ:Store)
  | bad

noncomputable def R.bind {α β:Type}:R α→(α→Store→R β)→R β
  | .ok a σ,f=>f a σ
  | .exc k t σ,_=>.exc k t σ
  | .bad,_=>.bad

inductive Op where
  | add | sub | mul | fdiv | mod
inductive Cm where
  | eq | ne | lt | le | gt | ge | isIn | notIn | is | isNot
inductive Bi where
  | len | ord | chr | int | max | min | tuple | list | sorted | any

set_option genInjectivity false
set_option genSizeOfSpec false
mutual
inductive E where
  | loc (k:Nat)
  | cst (d:D)
  | glob (g:Nat)
  | bin (o:Op) (a b:E)
  | neg (a:E)
  | not (a:E)
  | bop (isAnd:Bool) (es:Es)
  | ite (c a b:E)
  | cmp (o:Cm) (a b:E)
  | chain (o p:Cm) (a b c:E)
  | attr (a:E) (j:Nat)
  | sub (a i:E)
  | slc (a lo hi:E)
  | slcFrom (a lo:E)
  | slcTo (a hi:E)
  | tup (es:Es)
  | lst (es:Es)
  | dct (ks:List D) (es:Es)
  | call (f:Nat) (es:Es)
  | bi (b:Bi) (es:Es)
  | meth (f:Nat) (a:E) (es:Es)
  | cnt (a b:E)
  | get (a b:E)
  | popBox (a:E)
  | boxLen (a:E)
  | comp (elt:E) (tg:List Nat) (it:It) (conds:Es)
  | oLen (k:Nat)
  | oIdx (k:Nat) (i:E)
  | oNe (k:Nat)
  | heard (e:E)
  | mkRd (e:E)
inductive Es where
  | nil
  | cons (e:E) (es:Es)
inductive It where
  | val (e:E)
  | range (e:E)
  | zip (a b:E)
end

mutual
inductive S where
  | expr (e:E)
  | ret (e:E)
  | asg (k:Nat) (e:E)
  | asgT (ks:List Nat) (e:E)
  | own (k:Nat) (es:Es)
  | own2 (k j:Nat) (n:Nat)
  | append (k:Nat) (e:E)
  | extend (k:Nat) (e:E)
  | popTo (j k:Nat)
  | setSlice (k:Nat) (lo hi e:E)
  | setAttr (a:E) (j:Nat) (e:E)
  | addAttr (a:E) (j:Nat) (e:E)
  | setBox (a e:E)
  | mkBox (k:Nat) (e:E) (i:Int)
  | iff (c:E) (a b:Ss)
  | whl (c:E) (b:Ss)
  | forr (tg:List Nat) (it:It) (b:Ss)
  | freeze (k:Nat)
inductive Ss where
  | nil
  | cons (s:S) (ss:Ss)
end

set_option genInjectivity true
set_option genSizeOfSpec true
noncomputable def LIM:Nat:=100000

noncomputable abbrev Ro:=List (Option V)
noncomputable def Ro.get (ρ:Ro) (k:Nat):Option V:=(ρ[k]?).join
noncomputable def Ro.put (ρ:Ro) (k:Nat) (v:V):Ro:=ρ.set k (some v)

noncomputable def ofOpt {α:Type} (σ:Store):Option α→R α
  | some a=>.ok a σ
  | none=>.bad

noncomputable def strLe:List Nat→List Nat→Bool
  | [],_=>true
  | _ :: _,[]=>false
  | a :: l,b :: m=>if a < b then true else if a=b then strLe l m else false

noncomputable def cntSub (c:Nat) (b:List Nat):Nat:=(Builtin.Str.occurrences ⟨b.toArray⟩ ⟨#[c]⟩ 0 b.length (b.length + 1)).length

noncomputable def D.asInt:D→Option Int
  | .int i=>some i
  | _=>none
noncomputable def D.asBool:D→Option Bool
  | .bool b=>some b
  | _=>none
noncomputable def D.asStr:D→Option (List Nat)
  | .str s=>some s
  | _=>none
noncomputable def D.asDcS:D→Option (List (List Nat × D))
  | .dcS l=>some l
  | _=>none
noncomputable def D.asTup:D→Option (List D)
  | .tup l=>some l
  | _=>none

noncomputable def D.asLst:D→Option (List D)
  | .lst l=>some l
  | _=>none
noncomputable def D.asDcI:D→Option (List (Int × D))
  | .dcI l=>some l
  | _=>none
noncomputable def D.isNl:D→Bool
  | .null=>true
  | _=>false
theorem D.asInt_inv {x:D} {a:Int} (h:x.asInt=some a):x=.int a:=by cases x <;> cases h; rfl
theorem D.asStr_inv {x:D} {a:List Nat} (h:x.asStr=some a):x=.str a:=by cases x <;> cases h; rfl
theorem D.asTup_inv {x:D} {a:List D} (h:x.asTup=some a):x=.tup a:=by cases x <;> cases h; rfl
theorem D.asLst_inv {x:D} {a:List D} (h:x.asLst=some a):x=.lst a:=by cases x <;> cases h; rfl
theorem D.asDcI_inv {x:D} {a:List (Int × D)} (h:x.asDcI=some a):x=.dcI a:=by cases x <;> cases h; rfl
theorem D.isNl_inv {x:D} (h:x.isNl=true):x=.null:=by cases x <;> first | rfl | cases h
noncomputable def one {α:Type} (l:List α):Option α:=match l with
  | [a]=>some a
  | _=>none
theorem one_inv {α:Type} {l:List α} {a:α} (h:one l=some a):l=[a]:=by
  match l,h with
  | [_],rfl=>rfl
noncomputable def two {α:Type} (l:List α):Option (α × α):=match l with
  | [a,b]=>some (a,b)
  | _=>none
theorem two_inv {α:Type} {l:List α} {p:α × α} (h:two l=some p):l=[p.1,p.2]:=by
  match l,h with
  | [_,_],rfl=>rfl
noncomputable def int2 {β:Type} (x y:D) (f:Int→Int→Option β):Option β:=x.asInt.bind fun a=>y.asInt.bind fun b=>f a b
theorem int2_inv {β:Type} {x y:D} {f:Int→Int→Option β} {d:β} (h:int2 x y f=some d):∃ a b,x=.int a∧y=.int b∧f a b=some d :=
  (Option.bind_eq_some_iff.mp h).elim fun a p=>(Option.bind_eq_some_iff.mp p.2).elim fun b q=>⟨a,b,D.asInt_inv p.1,D.asInt_inv q.1,q.2⟩

noncomputable def eqD (x y:D):Option Bool:=(x.asStr.bind fun a=>y.asStr.map fun b=>a == b).or (if okE 16 x && okE 16 y then some (D.eqv x y) else none)
theorem eqDi {a b:Int}:eqD (.int a) (.int b)=some (a == b):=rfl
theorem eqDs {a b:List Nat}:eqD (.str a) (.str b)=some (a == b):=rfl

noncomputable def inD (x y:D):Option Bool:=match y with
  | .tup l=>match x with
    | .int a=>if l.all (fun d=>d.asInt.isSome) then some (l.any fun d=>decide (d.asInt=some a)) else none
    | .str a=>if l.all (fun d=>d.asStr.isSome) then some (l.any fun d=>decide (d.asStr=some a)) else none
    | _=>none
  | .dcI l=>x.asInt.map fun a=>(l.lookup a).isSome
  | .dcS l=>x.asStr.map fun a=>(l.lookup a).isSome
  | .str b=>x.asStr.bind fun s=>(one s).map fun c=>decide (c ∈ b)
  | _=>none

noncomputable def cmpD (o:Cm) (x y:D):Option Bool:=match o with
  | .eq=>eqD x y
  | .ne=>(eqD x y).map not
  | .lt=>int2 x y fun a b=>some (decide (a < b))
  | .le=>match x with
    | .int a=>y.asInt.map fun b=>decide (a ≤ b)
    | .str a=>y.asStr.map fun b=>strLe a b
    | _=>none
  | .gt=>int2 x y fun a b=>some (decide (b < a))
  | .ge=>int2 x y fun a b=>some (decide (b ≤ a))
  | .isIn=>inD x y
  | .notIn=>(inD x y).map not
  | .is=>if y.isNl then some x.isNl else none
  | .isNot=>if y.isNl then some (!x.isNl) else none
theorem Ca {x y:D}:cmpD .eq x y=eqD x y:=rfl
theorem Cb {x y:D}:cmpD .ne x y=(eqD x y).map not:=rfl
theorem Cc {a b:Int}:cmpD .lt (.int a) (.int b)=some (decide (a < b)):=rfl
theorem Cd {a b:Int}:cmpD .le (.int a) (.int b)=some (decide (a ≤ b)):=rfl
theorem Ce {a b:Int}:cmpD .gt (.int a) (.int b)=some (decide (b < a)):=rfl
theorem Cf {a b:Int}:cmpD .ge (.int a) (.int b)=some (decide (b ≤ a)):=rfl
theorem Cg {x y:D}:cmpD .isIn x y=inD x y:=rfl
theorem Ch {x y:D}:cmpD .notIn x y=(inD x y).map not:=rfl
theorem Ci {x:D}:cmpD .is x .null=some x.isNl:=rfl
theorem Cj {x:D}:cmpD .isNot x .null=some (!x.isNl):=rfl

noncomputable def binD (o:Op) (x y:D):Option D:=match o with
  | .add=>match x with
    | .int a=>y.asInt.map fun b=>.int (a + b)
    | .str a=>y.asStr.bind fun b=>if a.length + b.length ≤ LIM then some (.str (a++b)) else none
    | .tup a=>y.asTup.bind fun b=>if a.length + b.length ≤ LIM then some (.tup (a++b)) else none
    | .lst a=>y.asLst.bind fun b=>if a.length + b.length ≤ LIM then some (.lst (a++b)) else none
    | _=>none
  | .sub=>int2 x y fun a b=>some (.int (a - b))
  | .mul=>match x with
    | .int a=>y.asInt.bind fun b=>if a.natAbs < 4294967296 then some (.int (a * b)) else none
    | .lst l=>(one l).bind fun a=>y.asInt.bind fun n=>if 0 ≤ n∧n ≤ LIM then some (.lst (List.replicate n.toNat a)) else none
    | _=>none
  | .fdiv=>int2 x y fun a b=>if 0 < b∧b < 1000000 then some (.int (a / b)) else none
  | .mod=>int2 x y fun a b=>if 0 < b then some (.int (a % b)) else none
theorem Ba {a b:Int}:binD .add (.int a) (.int b)=some (.int (a + b)):=rfl
theorem Bb {a b:Int}:binD .sub (.int a) (.int b)=some (.int (a - b)):=rfl
theorem Bc {a b:Int}:binD .mul (.int a) (.int b)=if a.natAbs < 4294967296 then some (.int (a * b)) else none:=rfl
theorem Bd {a b:Int}:binD .fdiv (.int a) (.int b)=if 0 < b∧b < 1000000 then some (.int (a / b)) else none:=rfl
theorem Be {a b:Int}:binD .mod (.int a) (.int b)=if 0 < b then some (.int (a % b)) else none:=rfl
theorem Bf {a b:List Nat}:binD .add (.str a) (.str b)=if a.length + b.length ≤ LIM then some (.str (a++b)) else none:=rfl
theorem Bg {a b:List D}:binD .add (.tup a) (.tup b)=if a.length + b.length ≤ LIM then some (.tup (a++b)) else none:=rfl
theorem Bh {a b:List D}:binD .add (.lst a) (.lst b)=if a.length + b.length ≤ LIM then some (.lst (a++b)) else none:=rfl
theorem Bk {a:D} {n:Int}:binD .mul (.lst [a]) (.int n)=if 0 ≤ n∧n ≤ LIM then some (.lst (List.replicate n.toNat a)) else none:=rfl

theorem iteS {α:Type} {c:Prop} [Decidable c] {a b:α} (h:(if c then some a else none)=some b):c∧a=b:=by
  by_cases q:c
  · cases ssm (if_pos q) h; exact ⟨q,rfl⟩
  · exact nsm (if_neg q) h
theorem iteO {α:Type} {c:Prop} [Decidable c] {x:Option α} {b:α} (h:(if c then x else none)=some b):c∧x=some b:=by
  by_cases q:c
  · rw [if_pos q] at h; exact ⟨q,h⟩
  · exact nsm (if_neg q) h
noncomputable def idx {α:Type} (l:List α) (i:Int):Option α:=if 0 ≤ i then l[i.toNat]? else none

noncomputable def subD (x y:D):Option D:=match x with
  | .tup l=>y.asInt.bind fun i=>if i < 1000000 then idx l i else none
  | .lst l=>y.asInt.bind fun i=>if i < 1000000 then idx l i else none
  | .str l=>y.asInt.bind fun i=>if i < 1000000 then (idx l i).map fun c=>.str [c] else none
  | .dcI l=>y.asInt.bind fun i=>l.lookup i
  | .dcS l=>y.asStr.bind fun s=>l.lookup s
  | _=>none
theorem subDt {l:List D} {i:Int}:subD (.tup l) (.int i)=if i < 1000000 then idx l i else none:=rfl
theorem subDl {l:List D} {i:Int}:subD (.lst l) (.int i)=if i < 1000000 then idx l i else none:=rfl

noncomputable def slice {α:Type} (l:List α) (lo hi:Int):List α:=(l.take hi.toNat).drop lo.toNat

noncomputable def slcD (x:D) (lo hi:Int):Option D:=x.asStr.bind fun l=>if 0 ≤ lo∧0 ≤ hi∧lo ≤ 1000000∧hi ≤ 1000000∧l.length ≤ LIM then some (.str (slice l lo hi)) else none
noncomputable def slcFromD (x:D) (lo:Int):Option D:=x.asTup.bind fun l=>if lo=1∧l.length ≤ LIM then some (.tup (l.drop 1)) else none
noncomputable def slcToD (x:D) (hi:Int):Option D:=x.asLst.bind fun l=>if 0 ≤ hi∧hi ≤ 1000000∧l.length ≤ LIM then some (.lst (l.take hi.toNat)) else none

noncomputable def asPair (d:D):Option (Int × Int):=d.asTup.bind fun l=>(two l).bind fun p=>int2 p.1 p.2 fun a b=>some (a,b)
noncomputable def pairD (p:Int × Int):D:=.tup [.int p.1,.int p.2]
noncomputable def pLt (p q:Int × Int):Bool:=if p.1=q.1 then decide (p.2 < q.2) else decide (p.1 < q.1)
noncomputable def runK {α:Type} (f:Nat→Nat→Bool):PySem.W.KasT α→α
  | .ret a=>a
  | .ask i j k=>runK f (k (f i j))
noncomputable def getP (l:List (Int × Int)) (i:Nat):Int × Int:=l.getD i (0,0)
noncomputable def sortP (l:List (Int × Int)):List (Int × Int) :=
  if l.length < 2 then l else (runK (fun i j=>pLt (getP l i) (getP l j)) (PySem.W.kas_sort l.length)).toList.map (getP l)

noncomputable def itemsD:D→Option (List D)
  | .tup l=>some l
  | .lst l=>some l
  | .str l=>some (l.map fun c=>.str [c])
  | .dcI l=>some (l.map fun p=>.int p.1)
  | _=>none

noncomputable def lenD:D→Option D
  | .str l=>if l.length ≤ LIM then some (.int l.length) else none
  | .tup l=>if l.length ≤ LIM then some (.int l.length) else none
  | .lst l=>if l.length ≤ LIM then some (.int l.length) else none
  | _=>none
noncomputable def intD:D→Option D
  | .int i=>some (.int i)
  | .str l=>if l.length ≤ 100 then (PySem.intText? ⟨l.toArray⟩).map .int else none
  | _=>none
noncomputable def srtD (l:List D):Option D:=if l.length ≤ 4 then (l.mapM asPair).map fun ps=>.lst ((sortP ps).map pairD) else none
noncomputable def biD (b:Bi) (l:List D):Option D:=match b with
  | .len=>(one l).bind lenD
  | .ord=>(one l).bind fun d=>d.asStr.bind fun s=>(one s).map fun c=>.int (c:Nat)
  | .chr=>(one l).bind fun d=>d.asInt.bind fun i=>if 0 ≤ i∧i < 0x110000 then some (.str [i.toNat]) else none
  | .int=>(one l).bind intD
  | .max=>(two l).bind fun p=>int2 p.1 p.2 fun a b=>some (.int (max a b))
  | .min=>(two l).bind fun p=>int2 p.1 p.2 fun a b=>some (.int (min a b))
  | .tuple=>(one l).bind fun d=>d.asLst.bind fun l=>if l.length ≤ LIM then some (.tup l) else none
  | .list=>(one l).bind fun d=>d.asDcI.bind fun l=>if l.length ≤ LIM then some (.lst (l.map fun p=>.int p.1)) else none
  | .sorted=>(one l).bind fun d=>match d with
    | .lst l=>srtD l
    | .tup l=>srtD l
    | _=>none
  | .any=>(one l).bind fun d=>d.asLst.bind fun l=>(l.mapM D.asBool).map fun bs=>.bool (bs.any id)
theorem Ia {l:List Nat}:biD .len [.str l]=if l.length ≤ LIM then some (.int l.length) else none:=rfl
theorem Ib {l:List D}:biD .len [.tup l]=if l.length ≤ LIM then some (.int l.length) else none:=rfl
theorem Ic {l:List D}:biD .len [.lst l]=if l.length ≤ LIM then some (.int l.length) else none:=rfl
theorem Id {c:Nat}:biD .ord [.str [c]]=some (.int c):=rfl
theorem Ie {i:Int}:biD .chr [.int i]=if 0 ≤ i∧i < 0x110000 then some (.str [i.toNat]) else none:=rfl
theorem If {a b:Int}:biD .max [.int a,.int b]=some (.int (max a b)):=rfl
theorem Ig {a b:Int}:biD .min [.int a,.int b]=some (.int (min a b)):=rfl
theorem Ih {l:List D}:biD .tuple [.lst l]=if l.length ≤ LIM then some (.tup l) else none:=rfl
theorem Ii {l:List (Int × D)}:biD .list [.dcI l]=if l.length ≤ LIM then some (.lst (l.map fun p=>.int p.1)) else none:=rfl
theorem Ij {l:List D}:biD .sorted [.lst l]=if l.length ≤ 4 then (l.mapM asPair).map fun ps=>.lst ((sortP ps).map pairD) else none:=rfl
theorem Ik {l:List D}:biD .sorted [.tup l]=if l.length ≤ 4 then (l.mapM asPair).map fun ps=>.lst ((sortP ps).map pairD) else none:=rfl
theorem Il {l:List D}:biD .any [.lst l]=(l.mapM D.asBool).map fun bs=>.bool (bs.any id):=rfl

noncomputable def rdGet (r:Rd):Nat→Option D
  | 0=>some (.str r.text)
  | 1=>some (.int r.at')
  | 2=>some (.int r.groups)
  | 3=>some (.int r.back)
  | _=>none
theorem rdGet_inv {r:Rd} {j:Nat} {d:D} (h:rdGet r j=some d):(j=0∧d=.str r.text)∨(j=1∧d=.int r.at')∨(j=2∧d=.int r.groups)∨(j=3∧d=.int r.back) :=
  match j,h with
  | 0,h=>.inl ⟨rfl,(Option.some.inj h).symm⟩
  | 1,h=>.inr (.inl ⟨rfl,(Option.some.inj h).symm⟩)
  | 2,h=>.inr (.inr (.inl ⟨rfl,(Option.some.inj h).symm⟩))
  | 3,h=>.inr (.inr (.inr ⟨rfl,(Option.some.inj h).symm⟩))
noncomputable def rdSet (r:Rd) (i:Int):Nat→Option Rd
  | 1=>some { r with at':=i }
  | 2=>some { r with groups:=i }
  | 3=>some { r with back:=i }
  | _=>none
theorem rdSet_inv {r r':Rd} {i:Int} {j:Nat} (h:rdSet r i j=some r'):(j=1∧r'={ r with at':=i })∨(j=2∧r'={ r with groups:=i })∨(j=3∧r'={ r with back:=i }) :=
  match j,h with
  | 1,h=>.inl ⟨rfl,(Option.some.inj h).symm⟩
  | 2,h=>.inr (.inl ⟨rfl,(Option.some.inj h).symm⟩)
  | 3,h=>.inr (.inr ⟨rfl,(Option.some.inj h).symm⟩)
noncomputable def rdPut (r:Rd) (j:Nat) (d:D):Option Rd:=d.asInt.bind fun i=>rdSet r i j

noncomputable abbrev Hd:=Nat→List V→Store→R D

noncomputable def pairsT (ks:List Nat) (x:D):Option (List (Nat × D)):=match one ks with
  | some k=>some [(k,x)]
  | none=>x.asTup.bind fun l=>if ks.length=l.length then some (ks.zip l) else none
theorem pairsT1 {k:Nat} {x:D}:pairsT [k] x=some [(k,x)]:=rfl
theorem pairsT2 {a b:Nat} {ks:List Nat} {l:List D}:pairsT (a :: b :: ks) (.tup l)=if (a :: b :: ks).length=l.length then some ((a :: b :: ks).zip l) else none:=rfl
noncomputable def bindT (ρ:Ro) (ks:List Nat) (d:D):Option Ro:=(pairsT ks d).map fun ps=>ps.foldl (fun r p=>r.put p.1 (.d p.2)) ρ

inductive Fl where
  | nxt
  | ret (d:D)

noncomputable def compF (bnd:D→Option Ro) (cond:Ro→Store→R Bool) (elt:Ro→Store→R D):List D→List D→Store→R D
  | [],acc,σ=>if acc.length ≤ LIM then .ok (.lst acc) σ else .bad
  | x :: xs,acc,σ=>match bnd x with
    | none=>.bad
    | some ρ=>(cond ρ σ).bind fun c σ₁=>match c with
      | true=>(elt ρ σ₁).bind fun y σ₂=>compF bnd cond elt xs (acc++[y]) σ₂
      | false=>compF bnd cond elt xs acc σ₁

noncomputable def forF (bnd:Ro→D→Option Ro) (body:Ro→Store→R (Ro × Fl)):List D→Ro→Store→R (Ro × Fl)
  | [],ρ,σ=>.ok (ρ,.nxt) σ
  | x :: xs,ρ,σ=>match bnd ρ x with
    | none=>.bad
    | some ρ₁=>(body ρ₁ σ).bind fun r σ₁=>match r.2 with
      | .nxt=>forF bnd body xs r.1 σ₁
      | .ret d=>.ok (r.1,.ret d) σ₁

noncomputable def whlF (cond:Ro→Store→R Bool) (body:Ro→Store→R (Ro × Fl)):Nat→Ro→Store→R (Ro × Fl)
  | 0,_,_=>.bad
  | n + 1,ρ,σ=>(cond ρ σ).bind fun c σ₁=>match c with
    | false=>.ok (ρ,.nxt) σ₁
    | true=>(body ρ σ₁).bind fun r σ₂=>match r.2 with
      | .nxt=>whlF cond body n r.1 σ₂
      | .ret d=>.ok (r.1,.ret d) σ₂

noncomputable def toD:R V→R D
  | .ok (.d x) σ=>.ok x σ
  | .ok _ _=>.bad
  | .exc k t σ=>.exc k t σ
  | .bad=>.bad
noncomputable def toB:R V→R Bool
  | .ok (.d (.bool b)) σ=>.ok b σ
  | .ok _ _=>.bad
  | .exc k t σ=>.exc k t σ
  | .bad=>.bad
noncomputable def unV:List V→Option (List D)
  | []=>some []
  | .d x :: l=>(unV l).map (x :: ·)
  | _ :: _=>none
noncomputable def toDs:R (List V)→R (List D)
  | .ok l σ=>ofOpt σ (unV l)
  | .exc k t σ=>.exc k t σ
  | .bad=>.bad
noncomputable def ofD:R D→R V
  | .ok x σ=>.ok (.d x) σ
  | .exc k t σ=>.exc k t σ
  | .bad=>.bad

noncomputable def noExc:R D→R V
  | .ok x σ=>.ok (.d x) σ
  | _=>.bad

noncomputable def mkDct (ks:List D) (l:List D):Option D :=
  if ks.length=l.length then
    match ks.mapM D.asInt with
    | some is=>if is.Nodup then some (.dcI (is.zip l)) else none
    | none=>match ks.mapM D.asStr with
      | some ss=>if ss.Nodup then some (.dcS (ss.zip l)) else none
      | none=>none
  else none

noncomputable def attrV (x:V) (j:Nat) (σ:Store):R V:=match x,σ.rd with
  | .rd,some r=>ofOpt σ ((rdGet r j).map V.d)
  | _,_=>.bad
noncomputable def subV (x:V) (y:D) (σ:Store):R V:=match x with
  | .d x=>ofOpt σ ((subD x y).map V.d)
  | .box=>match y with
    | .int i=>if i=0 then .ok .bxl σ else if i=1 then ofOpt σ (σ.box.map fun p=>.d (.int p.2)) else .bad
    | _=>.bad
  | _=>.bad
noncomputable def heardR:R D→R V
  | .ok d σ=>.ok (.d d) σ
  | .exc k _ σ=>.ok (.d (.str k)) σ
  | .bad=>.bad
noncomputable def mkRdV (x:D) (σ:Store):R V:=match x,σ.rd with
  | .str s,none=>if s.length ≤ LIM then .ok .rd { σ with rd:=some ⟨s,0,0,0⟩ } else .bad
  | _,_=>.bad
noncomputable def popV (x:V) (σ:Store):R V:=match x,σ.box with
  | .bxl,some (n :: l,i)=>if l.length ≤ LIM then .ok (.d (.int n)) { σ with box:=some (l,i) } else .bad
  | _,_=>.bad
noncomputable def boxLenV (x:V) (σ:Store):R V:=match x,σ.box with
  | .bxl,some p=>if p.1.length ≤ LIM then .ok (.d (.int p.1.length)) σ else .bad
  | _,_=>.bad
noncomputable def cntV (x:List Nat) (y:D):Option D:=y.asStr.bind fun s=>(one s).map fun c=>.int (cntSub c x)
noncomputable def getV (x:List (List Nat × D)) (y:D):Option D:=y.asStr.map fun s=>(x.lookup s).getD .null
noncomputable def oIdxV (l:List D) (y:D):Option D:=y.asInt.bind fun i=>if i < 1000000 then idx l i else none
noncomputable def ownOf (v:Option V):Option (List D):=match v with
  | some (.own l)=>some l
  | _=>none
noncomputable def oLenV (v:Option V):Option D:=(ownOf v).bind fun l=>if l.length ≤ LIM then some (.int l.length) else none
noncomputable def oNeV (v:Option V):Option D:=(ownOf v).bind fun l=>if l.all (okE 15) then some (.bool (!l.isEmpty)) else none
noncomputable def locV (v:Option V):Option V:=match v with
  | some (.own _)=>none
  | v=>v
noncomputable def rangeItems (d:D):Option (List D):=d.asInt.bind fun n=>if 0 ≤ n∧n ≤ LIM then some ((List.range n.toNat).map fun (i:Nat)=>D.int (i:Int)) else none
theorem rangeI {n:Int}:rangeItems (.int n)=if 0 ≤ n∧n ≤ LIM then some ((List.range n.toNat).map fun (i:Nat)=>D.int (i:Int)) else none:=rfl
noncomputable def zipItems (a b:D):Option (List D):=a.asTup.bind fun l=>b.asTup.bind fun m=>if l.length ≤ LIM then some ((l.zip m).map fun p=>D.tup [p.1,p.2]) else none
theorem itemsT {l:List D}:itemsD (.tup l)=some l:=rfl
theorem itemsL {l:List D}:itemsD (.lst l)=some l:=rfl
theorem itemsI {l:List (Int × D)}:itemsD (.dcI l)=some (l.map fun p=>.int p.1):=rfl
theorem subVd {x y:D} {σ:Store}:subV (.d x) y σ=ofOpt σ ((subD x y).map V.d):=rfl
theorem subV0 {i:Int} {σ:Store}:subV .box (.int i) σ=if i=0 then .ok .bxl σ else if i=1 then ofOpt σ (σ.box.map fun p=>.d (.int p.2)) else .bad:=rfl
theorem ownOfo {l:List D}:ownOf (some (.own l))=some l:=rfl
theorem ownOf_inv {v:Option V} {l:List D} (h:ownOf v=some l):v=some (.own l):=by
  cases v with
  | none=>cases h
  | some v=>cases v <;> first | (cases h; rfl) | cases h

section
variable (G:Nat→D) (H:Hd)

mutual
noncomputable def evE:E→Ro→Store→R V
  | .loc k,ρ,σ=>ofOpt σ (locV (ρ.get k))
  | .cst d,_,σ=>.ok (.d d) σ
  | .glob g,_,σ=>.ok (.d (G g)) σ
  | .bin o a b,ρ,σ=>(toD (evE a ρ σ)).bind fun x σ₁=>(toD (evE b ρ σ₁)).bind fun y σ₂=>ofOpt σ₂ ((binD o x y).map V.d)
  | .neg a,ρ,σ=>(toD (evE a ρ σ)).bind fun x σ₁=>ofOpt σ₁ (x.asInt.map fun i=>V.d (.int (-i)))
  | .not a,ρ,σ=>(toB (evE a ρ σ)).bind fun x σ₁=>.ok (.d (.bool (!x))) σ₁
  | .bop isAnd es,ρ,σ=>(evBs isAnd es ρ σ).bind fun b σ₁=>.ok (.d (.bool b)) σ₁
  | .ite c a b,ρ,σ=>(toB (evE c ρ σ)).bind fun t σ₁=>match t with
    | true=>evE a ρ σ₁
    | false=>evE b ρ σ₁
  | .cmp o a b,ρ,σ=>(toD (evE a ρ σ)).bind fun x σ₁=>(toD (evE b ρ σ₁)).bind fun y σ₂=>ofOpt σ₂ ((cmpD o x y).map fun t=>V.d (.bool t))
  | .chain o p a b c,ρ,σ=>(toD (evE a ρ σ)).bind fun x σ₁=>(toD (evE b ρ σ₁)).bind fun y σ₂=>(ofOpt σ₂ (cmpD o x y)).bind fun t σ₃=>match t with
    | false=>.ok (.d (.bool false)) σ₃
    | true=>(toD (evE c ρ σ₃)).bind fun z σ₄=>ofOpt σ₄ ((cmpD p y z).map fun t=>V.d (.bool t))
  | .attr a j,ρ,σ=>(evE a ρ σ).bind fun x σ₁=>attrV x j σ₁
  | .sub a i,ρ,σ=>(evE a ρ σ).bind fun x σ₁=>(toD (evE i ρ σ₁)).bind fun y σ₂=>subV x y σ₂
  | .slc a lo hi,ρ,σ=>(toD (evE a ρ σ)).bind fun x σ₁=>(toD (evE lo ρ σ₁)).bind fun y σ₂=>(toD (evE hi ρ σ₂)).bind fun z σ₃=>match y,z with
    | .int l,.int h=>ofOpt σ₃ ((slcD x l h).map V.d)
    | _,_=>.bad
  | .slcFrom a lo,ρ,σ=>(toD (evE a ρ σ)).bind fun x σ₁=>(toD (evE lo ρ σ₁)).bind fun y σ₂=>match y with
    | .int l=>ofOpt σ₂ ((slcFromD x l).map V.d)
    | _=>.bad
  | .slcTo a hi,ρ,σ=>(toD (evE a ρ σ)).bind fun x σ₁=>(toD (evE hi ρ σ₁)).bind fun z σ₂=>match z with
    | .int h=>ofOpt σ₂ ((slcToD x h).map V.d)
    | _=>.bad
  | .tup es,ρ,σ=>(toDs (evVs es ρ σ)).bind fun l σ₁=>if l.length ≤ LIM then .ok (.d (.tup l)) σ₁ else .bad
  | .lst es,ρ,σ=>(toDs (evVs es ρ σ)).bind fun l σ₁=>if l.length ≤ LIM then .ok (.d (.lst l)) σ₁ else .bad
  | .dct ks es,ρ,σ=>(toDs (evVs es ρ σ)).bind fun l σ₁=>ofOpt σ₁ ((mkDct ks l).map V.d)
  | .call f es,ρ,σ=>(evVs es ρ σ).bind fun vs σ₁=>ofD (H f vs σ₁)
  | .bi b es,ρ,σ=>(toDs (evVs es ρ σ)).bind fun l σ₁=>ofOpt σ₁ ((biD b l).map V.d)
  | .meth f a es,ρ,σ=>(evE a ρ σ).bind fun x σ₁=>match x with
    | .rd=>(evVs es ρ σ₁).bind fun vs σ₂=>ofD (H f (.rd :: vs) σ₂)
    | _=>.bad
  | .cnt a b,ρ,σ=>(toD (evE a ρ σ)).bind fun x σ₁=>(ofOpt σ₁ x.asStr).bind fun x σ₁=>(toD (evE b ρ σ₁)).bind fun y σ₂=>ofOpt σ₂ ((cntV x y).map V.d)
  | .get a b,ρ,σ=>(toD (evE a ρ σ)).bind fun x σ₁=>(ofOpt σ₁ x.asDcS).bind fun x σ₁=>(toD (evE b ρ σ₁)).bind fun y σ₂=>ofOpt σ₂ ((getV x y).map V.d)
  | .popBox a,ρ,σ=>(evE a ρ σ).bind fun x σ₁=>popV x σ₁
  | .boxLen a,ρ,σ=>(evE a ρ σ).bind fun x σ₁=>boxLenV x σ₁
  | .comp elt tg it conds,ρ,σ=>(evIt it ρ σ).bind fun xs σ₁ =>
      noExc (compF (bindT ρ tg) (fun ρ σ=>evBs true conds ρ σ) (fun ρ σ=>toD (evE elt ρ σ)) xs [] σ₁)
  | .oLen k,ρ,σ=>ofOpt σ ((oLenV (ρ.get k)).map V.d)
  | .oIdx k i,ρ,σ=>(ofOpt σ (ownOf (ρ.get k))).bind fun l σ=>(toD (evE i ρ σ)).bind fun y σ₁=>ofOpt σ₁ ((oIdxV l y).map V.d)
  | .oNe k,ρ,σ=>ofOpt σ ((oNeV (ρ.get k)).map V.d)
  | .heard e,ρ,σ=>heardR (toD (evE e ρ σ))
  | .mkRd e,ρ,σ=>(toD (evE e ρ σ)).bind fun x σ₁=>mkRdV x σ₁
noncomputable def evVs:Es→Ro→Store→R (List V)
  | .nil,_,σ=>.ok [] σ
  | .cons e es,ρ,σ=>(evE e ρ σ).bind fun v σ₁=>(evVs es ρ σ₁).bind fun vs σ₂=>.ok (v :: vs) σ₂
noncomputable def evBs (isAnd:Bool):Es→Ro→Store→R Bool
  | .nil,_,σ=>.ok isAnd σ
  | .cons e es,ρ,σ=>(toB (evE e ρ σ)).bind fun b σ₁=>if b=isAnd then evBs isAnd es ρ σ₁ else .ok b σ₁
noncomputable def evIt:It→Ro→Store→R (List D)
  | .val e,ρ,σ=>(toD (evE e ρ σ)).bind fun x σ₁=>ofOpt σ₁ (itemsD x)
  | .range e,ρ,σ=>(toD (evE e ρ σ)).bind fun x σ₁=>ofOpt σ₁ (rangeItems x)
  | .zip a b,ρ,σ=>(toD (evE a ρ σ)).bind fun x σ₁=>(toD (evE b ρ σ₁)).bind fun y σ₂=>ofOpt σ₂ (zipItems x y)
end

noncomputable def setSl (l:List D) (lo hi:Int) (d:D):Option (List D):=d.asLst.bind fun m=>if 0 ≤ lo∧lo ≤ hi∧hi ≤ l.length∧l.length ≤ LIM∧m.length ≤ LIM then some (l.take lo.toNat++m++l.drop hi.toNat) else none
noncomputable def setAttrS (x:V) (j:Nat) (d:D) (σ:Store):Option Store:=match x,σ.rd with
  | .rd,some r=>(rdPut r j d).map fun r'=>{ σ with rd:=some r' }
  | _,_=>none
noncomputable def attrInt (x:V) (j:Nat) (σ:Store):Option Int:=match x,σ.rd with
  | .rd,some r=>(rdGet r j).bind D.asInt
  | _,_=>none
noncomputable def addD (a:Int) (d:D):Option D:=d.asInt.map fun b=>.int (a + b)
noncomputable def setBoxS (x:V) (d:D) (σ:Store):Option Store:=match x,d,σ.box with
  | .box,.int i,some p=>some { σ with box:=some (p.1,i) }
  | _,_,_=>none
noncomputable def mkBoxS (d:D) (i:Int) (σ:Store):Option Store:=match d,σ.box with
  | .lst l,none=>(l.mapM D.asInt).map fun is=>{ σ with box:=some (is,i) }
  | _,_=>none

mutual
noncomputable def evS (N:Nat):S→Ro→Store→R (Ro × Fl)
  | .expr e,ρ,σ=>(toD (evE G H e ρ σ)).bind fun _ σ₁=>.ok (ρ,.nxt) σ₁
  | .ret e,ρ,σ=>(toD (evE G H e ρ σ)).bind fun d σ₁=>.ok (ρ,.ret d) σ₁
  | .asg k e,ρ,σ=>(evE G H e ρ σ).bind fun v σ₁=>.ok (ρ.put k v,.nxt) σ₁
  | .asgT ks e,ρ,σ=>(toD (evE G H e ρ σ)).bind fun d σ₁=>(ofOpt σ₁ (bindT ρ ks d)).bind fun ρ' σ₂=>.ok (ρ',.nxt) σ₂
  | .own k es,ρ,σ=>(toDs (evVs G H es ρ σ)).bind fun l σ₁=>if l.length ≤ LIM then .ok (ρ.put k (.own l),.nxt) σ₁ else .bad
  | .own2 k j n,ρ,σ=>.ok ((ρ.put k (.own [])).put j (.own (List.replicate n (.bool false))),.nxt) σ
  | .append k e,ρ,σ=>(ofOpt σ (ownOf (ρ.get k))).bind fun l σ=>(toD (evE G H e ρ σ)).bind fun d σ₁ =>
    if l.length ≤ LIM then .ok (ρ.put k (.own (l++[d])),.nxt) σ₁ else .bad
  | .extend k e,ρ,σ=>(ofOpt σ (ownOf (ρ.get k))).bind fun l σ=>(toD (evE G H e ρ σ)).bind fun d σ₁=>match d.asTup with
    | some m=>if l.length ≤ LIM∧m.length ≤ LIM then .ok (ρ.put k (.own (l++m)),.nxt) σ₁ else .bad
    | none=>.bad
  | .popTo j k,ρ,σ=>match ownOf (ρ.get k) with
    | some l=>match l.getLast? with
      | some d=>if l.length ≤ LIM then .ok ((ρ.put k (.own l.dropLast)).put j (.d d),.nxt) σ else .bad
      | none=>.bad
    | none=>.bad
  | .setSlice k lo hi e,ρ,σ=>(toD (evE G H e ρ σ)).bind fun d σ₁=>(ofOpt σ₁ (ownOf (ρ.get k))).bind fun l σ₁=>(toD (evE G H lo ρ σ₁)).bind fun x σ₂=>(toD (evE G H hi ρ σ₂)).bind fun y σ₃ =>
    match x,y with
    | .int a,.int b=>(ofOpt σ₃ (setSl l a b d)).bind fun l' σ₄=>.ok (ρ.put k (.own l'),.nxt) σ₄
    | _,_=>.bad
  | .setAttr a j e,ρ,σ=>(toD (evE G H e ρ σ)).bind fun d σ₁=>(evE G H a ρ σ₁).bind fun x σ₂=>match setAttrS x j d σ₂ with
    | some σ₃=>.ok (ρ,.nxt) σ₃
    | none=>.bad
  | .addAttr a j e,ρ,σ=>(evE G H a ρ σ).bind fun x σ₁=>(ofOpt σ₁ (attrInt x j σ₁)).bind fun o σ₁=>(toD (evE G H e ρ σ₁)).bind fun d σ₂ =>
    match (addD o d).bind fun d'=>setAttrS x j d' σ₂ with
    | some σ₃=>.ok (ρ,.nxt) σ₃
    | none=>.bad
  | .setBox a e,ρ,σ=>(toD (evE G H e ρ σ)).bind fun d σ₁=>(evE G H a ρ σ₁).bind fun x σ₂=>match setBoxS x d σ₂ with
    | some σ₃=>.ok (ρ,.nxt) σ₃
    | none=>.bad
  | .mkBox k e i,ρ,σ=>(toD (evE G H e ρ σ)).bind fun d σ₁=>match mkBoxS d i σ₁ with
    | some σ₂=>.ok (ρ.put k .box,.nxt) σ₂
    | none=>.bad
  | .iff c a b,ρ,σ=>(toB (evE G H c ρ σ)).bind fun t σ₁=>match t with
    | true=>evSs N a ρ σ₁
    | false=>evSs N b ρ σ₁
  | .whl c b,ρ,σ=>whlF (fun ρ σ=>toB (evE G H c ρ σ)) (fun ρ σ=>evSs N b ρ σ) N ρ σ
  | .forr tg it b,ρ,σ=>(evIt G H it ρ σ).bind fun xs σ₁=>forF (fun ρ d=>bindT ρ tg d) (fun ρ σ=>evSs N b ρ σ) xs ρ σ₁
  | .freeze k,ρ,σ=>match ownOf (ρ.get k) with
    | some l=>.ok (ρ.put k (.d (.lst l)),.nxt) σ
    | none=>.bad
noncomputable def evSs (N:Nat):Ss→Ro→Store→R (Ro × Fl)
  | .nil,ρ,σ=>.ok (ρ,.nxt) σ
  | .cons s ss,ρ,σ=>(evS N s ρ σ).bind fun r σ₁=>match r.2 with
    | .nxt=>evSs N ss r.1 σ₁
    | .ret d=>.ok (r.1,.ret d) σ₁
end
end

structure Fn where
  np:Nat
  ns:Nat
  body:Ss
  kind:Nat:=0

noncomputable def R.noRd {α:Type}:R α→R α
  | .ok a σ=>.ok a { σ with rd:=none }
  | .exc k t σ=>.exc k t { σ with rd:=none }
  | .bad=>.bad

noncomputable def outF (F:Fn) (r:R (Ro × Fl)):R D :=
  let r':=r.bind fun x σ=>match x.2 with
    | .nxt=>.ok .null σ
    | .ret d=>.ok d σ
  if F.kind=2 then r'.noRd else r'

noncomputable def callN (G:Nat→D) (T:Nat→Fn) (N:Nat):Nat→Hd
  | 0,_,_,_=>.bad
  | n + 1,f,vs,σ =>
    if (T f).kind=1 then match vs with
      | [.d (.str t)]=>.exc [83,121,110,116,97,120,69,114,114,111,114] t σ
      | _=>.bad
    else if vs.length=(T f).np∧((T f).kind=2→σ.rd.isNone) then
      outF (T f) (evSs G (callN G T N n) N (T f).body (vs.map some++List.replicate ((T f).ns - (T f).np) none) σ)
    else .bad
end Mine
end
section
namespace Mine
section
variable {G:Nat→D} {H:Hd} {N:Nat} {ρ:Ro} {σ:Store} {k j g f n:Nat} {d:D} {o p:Cm} {e a b c i lo hi elt:E} {es conds:Es} {isAnd:Bool} {tg ks:List Nat} {it:It} {s:S} {ss:Ss} {bi:Bi} {op:Op} {z:Int} {ds:List D} {at' bt:Ss}
theorem xEa:evE G H (.loc k) ρ σ=ofOpt σ (locV (ρ.get k)):=rfl
theorem xEb:evE G H (.cst d) ρ σ=.ok (.d d) σ:=rfl
theorem xEc:evE G H (.glob g) ρ σ=.ok (.d (G g)) σ:=rfl
theorem xEd:evE G H (.bin op a b) ρ σ=(toD (evE G H a ρ σ)).bind fun x σ₁=>(toD (evE G H b ρ σ₁)).bind fun y σ₂=>ofOpt σ₂ ((binD op x y).map V.d):=rfl
theorem xEf:evE G H (.not a) ρ σ=(toB (evE G H a ρ σ)).bind fun x σ₁=>.ok (.d (.bool (!x))) σ₁:=rfl
theorem xEg:evE G H (.bop isAnd es) ρ σ=(evBs G H isAnd es ρ σ).bind fun b σ₁=>.ok (.d (.bool b)) σ₁:=rfl
theorem xEh:evE G H (.ite c a b) ρ σ=(toB (evE G H c ρ σ)).bind fun t σ₁=>match t with
    | true=>evE G H a ρ σ₁
    | false=>evE G H b ρ σ₁:=rfl
theorem xEi:evE G H (.cmp o a b) ρ σ=(toD (evE G H a ρ σ)).bind fun x σ₁=>(toD (evE G H b ρ σ₁)).bind fun y σ₂=>ofOpt σ₂ ((cmpD o x y).map fun t=>V.d (.bool t)):=rfl
theorem xEj:evE G H (.chain o p a b c) ρ σ=(toD (evE G H a ρ σ)).bind fun x σ₁=>(toD (evE G H b ρ σ₁)).bind fun y σ₂=>(ofOpt σ₂ (cmpD o x y)).bind fun t σ₃=>match t with
    | false=>.ok (.d (.bool false)) σ₃
    | true=>(toD (evE G H c ρ σ₃)).bind fun z σ₄=>ofOpt σ₄ ((cmpD p y z).map fun t=>V.d (.bool t)):=rfl
theorem xEl:evE G H (.sub a i) ρ σ=(evE G H a ρ σ).bind fun x σ₁=>(toD (evE G H i ρ σ₁)).bind fun y σ₂=>subV x y σ₂:=rfl
theorem xEn:evE G H (.slcFrom a lo) ρ σ=(toD (evE G H a ρ σ)).bind fun x σ₁=>(toD (evE G H lo ρ σ₁)).bind fun y σ₂=>match y with
    | .int l=>ofOpt σ₂ ((slcFromD x l).map V.d)
    | _=>.bad:=rfl
theorem xEo:evE G H (.slcTo a hi) ρ σ=(toD (evE G H a ρ σ)).bind fun x σ₁=>(toD (evE G H hi ρ σ₁)).bind fun z σ₂=>match z with
    | .int h=>ofOpt σ₂ ((slcToD x h).map V.d)
    | _=>.bad:=rfl
theorem xEp:evE G H (.tup es) ρ σ=(toDs (evVs G H es ρ σ)).bind fun l σ₁=>if l.length ≤ LIM then .ok (.d (.tup l)) σ₁ else .bad:=rfl
theorem xEq:evE G H (.lst es) ρ σ=(toDs (evVs G H es ρ σ)).bind fun l σ₁=>if l.length ≤ LIM then .ok (.d (.lst l)) σ₁ else .bad:=rfl
theorem xEr:evE G H (.dct ds es) ρ σ=(toDs (evVs G H es ρ σ)).bind fun l σ₁=>ofOpt σ₁ ((mkDct ds l).map V.d):=rfl
theorem xEs:evE G H (.call f es) ρ σ=(evVs G H es ρ σ).bind fun vs σ₁=>ofD (H f vs σ₁):=rfl
theorem xEt:evE G H (.bi bi es) ρ σ=(toDs (evVs G H es ρ σ)).bind fun l σ₁=>ofOpt σ₁ ((biD bi l).map V.d):=rfl
theorem xEx:evE G H (.popBox a) ρ σ=(evE G H a ρ σ).bind fun x σ₁=>popV x σ₁:=rfl
theorem xEy:evE G H (.boxLen a) ρ σ=(evE G H a ρ σ).bind fun x σ₁=>boxLenV x σ₁:=rfl
theorem xEz:evE G H (.comp elt tg it conds) ρ σ=(evIt G H it ρ σ).bind fun xs σ₁ =>
      noExc (compF (bindT ρ tg) (fun ρ σ=>evBs G H true conds ρ σ) (fun ρ σ=>toD (evE G H elt ρ σ)) xs [] σ₁):=rfl
theorem xEA:evE G H (.oLen k) ρ σ=ofOpt σ ((oLenV (ρ.get k)).map V.d):=rfl
theorem xEB:evE G H (.oIdx k i) ρ σ=(ofOpt σ (ownOf (ρ.get k))).bind fun l σ=>(toD (evE G H i ρ σ)).bind fun y σ₁=>ofOpt σ₁ ((oIdxV l y).map V.d):=rfl
theorem xEC:evE G H (.oNe k) ρ σ=ofOpt σ ((oNeV (ρ.get k)).map V.d):=rfl
theorem xED:evE G H (.heard e) ρ σ=heardR (toD (evE G H e ρ σ)):=rfl
theorem xVa:evVs G H .nil ρ σ=.ok [] σ:=rfl
theorem xVb:evVs G H (.cons e es) ρ σ=(evE G H e ρ σ).bind fun v σ₁=>(evVs G H es ρ σ₁).bind fun vs σ₂=>.ok (v :: vs) σ₂:=rfl
theorem xBa:evBs G H isAnd .nil ρ σ=.ok isAnd σ:=rfl
theorem xBb:evBs G H isAnd (.cons e es) ρ σ=(toB (evE G H e ρ σ)).bind fun b σ₁=>if b=isAnd then evBs G H isAnd es ρ σ₁ else .ok b σ₁:=rfl
theorem xIa:evIt G H (.val e) ρ σ=(toD (evE G H e ρ σ)).bind fun x σ₁=>ofOpt σ₁ (itemsD x):=rfl
theorem xIb:evIt G H (.range e) ρ σ=(toD (evE G H e ρ σ)).bind fun x σ₁=>ofOpt σ₁ (rangeItems x):=rfl
theorem xIc:evIt G H (.zip a b) ρ σ=(toD (evE G H a ρ σ)).bind fun x σ₁=>(toD (evE G H b ρ σ₁)).bind fun y σ₂=>ofOpt σ₂ (zipItems x y):=rfl
theorem xSa:evS G H N (.expr e) ρ σ=(toD (evE G H e ρ σ)).bind fun _ σ₁=>.ok (ρ,.nxt) σ₁:=rfl
theorem xSb:evS G H N (.ret e) ρ σ=(toD (evE G H e ρ σ)).bind fun d σ₁=>.ok (ρ,.ret d) σ₁:=rfl
theorem xSc:evS G H N (.asg k e) ρ σ=(evE G H e ρ σ).bind fun v σ₁=>.ok (ρ.put k v,.nxt) σ₁:=rfl
theorem xSd:evS G H N (.asgT ks e) ρ σ=(toD (evE G H e ρ σ)).bind fun d σ₁=>(ofOpt σ₁ (bindT ρ ks d)).bind fun ρ' σ₂=>.ok (ρ',.nxt) σ₂:=rfl
theorem xSe:evS G H N (.own k es) ρ σ=(toDs (evVs G H es ρ σ)).bind fun l σ₁=>if l.length ≤ LIM then .ok (ρ.put k (.own l),.nxt) σ₁ else .bad:=rfl
theorem xSf:evS G H N (.own2 k j n) ρ σ=.ok ((ρ.put k (.own [])).put j (.own (List.replicate n (.bool false))),.nxt) σ:=rfl
theorem xSg:evS G H N (.append k e) ρ σ=(ofOpt σ (ownOf (ρ.get k))).bind fun l σ=>(toD (evE G H e ρ σ)).bind fun d σ₁ =>
    if l.length ≤ LIM then .ok (ρ.put k (.own (l++[d])),.nxt) σ₁ else .bad:=rfl
theorem xSi:evS G H N (.popTo j k) ρ σ=match ownOf (ρ.get k) with
    | some l=>match l.getLast? with
      | some d=>if l.length ≤ LIM then .ok ((ρ.put k (.own l.dropLast)).put j (.d d),.nxt) σ else .bad
      | none=>.bad
    | none=>.bad:=rfl
theorem xSj:evS G H N (.setSlice k lo hi e) ρ σ=(toD (evE G H e ρ σ)).bind fun d σ₁=>(ofOpt σ₁ (ownOf (ρ.get k))).bind fun l σ₁=>(toD (evE G H lo ρ σ₁)).bind fun x σ₂=>(toD (evE G H hi ρ σ₂)).bind fun y σ₃ =>
    match x,y with
    | .int a,.int b=>(ofOpt σ₃ (setSl l a b d)).bind fun l' σ₄=>.ok (ρ.put k (.own l'),.nxt) σ₄
    | _,_=>.bad:=rfl
theorem xSk:evS G H N (.setAttr a j e) ρ σ=(toD (evE G H e ρ σ)).bind fun d σ₁=>(evE G H a ρ σ₁).bind fun x σ₂=>match setAttrS x j d σ₂ with
    | some σ₃=>.ok (ρ,.nxt) σ₃
    | none=>.bad:=rfl
theorem xSm:evS G H N (.setBox a e) ρ σ=(toD (evE G H e ρ σ)).bind fun d σ₁=>(evE G H a ρ σ₁).bind fun x σ₂=>match setBoxS x d σ₂ with
    | some σ₃=>.ok (ρ,.nxt) σ₃
    | none=>.bad:=rfl
theorem xSn:evS G H N (.mkBox k e z) ρ σ=(toD (evE G H e ρ σ)).bind fun d σ₁=>match mkBoxS d z σ₁ with
    | some σ₂=>.ok (ρ.put k .box,.nxt) σ₂
    | none=>.bad:=rfl
theorem xSo:evS G H N (.iff c at' bt) ρ σ=(toB (evE G H c ρ σ)).bind fun t σ₁=>match t with
    | true=>evSs G H N at' ρ σ₁
    | false=>evSs G H N bt ρ σ₁:=rfl
theorem xSp:evS G H N (.whl c bt) ρ σ=whlF (fun ρ σ=>toB (evE G H c ρ σ)) (fun ρ σ=>evSs G H N bt ρ σ) N ρ σ:=rfl
theorem xSq:evS G H N (.forr tg it bt) ρ σ=(evIt G H it ρ σ).bind fun xs σ₁=>forF (fun ρ d=>bindT ρ tg d) (fun ρ σ=>evSs G H N bt ρ σ) xs ρ σ₁:=rfl
theorem xSr:evS G H N (.freeze k) ρ σ=match ownOf (ρ.get k) with
    | some l=>.ok (ρ.put k (.d (.lst l)),.nxt) σ
    | none=>.bad:=rfl
theorem xTa:evSs G H N .nil ρ σ=.ok (ρ,.nxt) σ:=rfl
theorem xTb:evSs G H N (.cons s ss) ρ σ=(evS G H N s ρ σ).bind fun r σ₁=>match r.2 with
    | .nxt=>evSs G H N ss r.1 σ₁
    | .ret d=>.ok (r.1,.ret d) σ₁:=rfl
end
end Mine
end
section
set_option tactic.hygienic false
namespace Mine
section
variable {G:Nat→D} {H:Hd} {N:Nat} {ρ ρ':Ro} {σ σ₁ σ₂ σ₃:Store} {k f:Nat} {d x y:D} {o p:Cm} {e a b c i:E} {es:Es} {tg:List Nat} {it:It} {s:S} {ss:Ss} {bi:Bi} {op:Op} {v:V} {vs:List V} {l m:List D} {t u:Bool} {q:R (Ro × Fl)} {r:R V} {xs:List D} {n:Int}

theorem rbin (h1:evE G H a ρ σ=.ok (.d x) σ₁) (h2:evE G H b ρ σ₁=.ok (.d y) σ₂) (h:binD op x y=some d):evE G H (.bin op a b) ρ σ=.ok (.d d) σ₂:=by
  show (toD (evE G H a ρ σ)).bind _=_
  rw [h1]
  show (toD (evE G H b ρ σ₁)).bind _=_
  rw [h2]
  show ofOpt σ₂ ((binD op x y).map V.d)=_
  rw [h]; rfl
theorem rcmp (h1:evE G H a ρ σ=.ok (.d x) σ₁) (h2:evE G H b ρ σ₁=.ok (.d y) σ₂) (h:cmpD o x y=some t):evE G H (.cmp o a b) ρ σ=.ok (.d (.bool t)) σ₂:=by
  show (toD (evE G H a ρ σ)).bind _=_
  rw [h1]
  show (toD (evE G H b ρ σ₁)).bind _=_
  rw [h2]
  show ofOpt σ₂ ((cmpD o x y).map fun t=>V.d (.bool t))=_
  rw [h]; rfl
theorem rsub (h1:evE G H a ρ σ=.ok v σ₁) (h2:evE G H i ρ σ₁=.ok (.d y) σ₂) (h:subV v y σ₂=r):evE G H (.sub a i) ρ σ=r:=by
  show (evE G H a ρ σ).bind _=_
  rw [h1]
  show (toD (evE G H i ρ σ₁)).bind _=_
  rw [h2]; exact h
theorem rsubD (h:subD x y=some d):subV (.d x) y σ=.ok (.d d) σ:=by
  show ofOpt σ ((subD x y).map V.d)=_
  rw [h]; rfl
theorem rite1 (h1:evE G H c ρ σ=.ok (.d (.bool true)) σ₁) (h:evE G H a ρ σ₁=r):evE G H (.ite c a b) ρ σ=r:=by
  show (toB (evE G H c ρ σ)).bind _=_
  rw [h1]; exact h
theorem rite0 (h1:evE G H c ρ σ=.ok (.d (.bool false)) σ₁) (h:evE G H b ρ σ₁=r):evE G H (.ite c a b) ρ σ=r:=by
  show (toB (evE G H c ρ σ)).bind _=_
  rw [h1]; exact h
theorem rnot (h1:evE G H a ρ σ=.ok (.d (.bool t)) σ₁):evE G H (.not a) ρ σ=.ok (.d (.bool (!t))) σ₁:=by
  show (toB (evE G H a ρ σ)).bind _=_
  rw [h1]; rfl
theorem rbop (h1:evBs G H t es ρ σ=.ok u σ₁):evE G H (.bop t es) ρ σ=.ok (.d (.bool u)) σ₁:=by
  show (evBs G H t es ρ σ).bind _=_
  rw [h1]; rfl
theorem rb1 (h1:evE G H e ρ σ=.ok (.d (.bool t)) σ₁) (h:evBs G H t es ρ σ₁=.ok u σ₂):evBs G H t (.cons e es) ρ σ=.ok u σ₂:=by
  show (toB (evE G H e ρ σ)).bind _=_
  rw [h1]
  show (if t=t then evBs G H t es ρ σ₁ else _)=_
  rw [if_pos rfl]; exact h
theorem rb0 (h1:evE G H e ρ σ=.ok (.d (.bool (!t))) σ₁):evBs G H t (.cons e es) ρ σ=.ok (!t) σ₁:=by
  show (toB (evE G H e ρ σ)).bind _=_
  rw [h1]
  cases t <;> rfl
theorem rvs (h1:evE G H e ρ σ=.ok v σ₁) (h2:evVs G H es ρ σ₁=.ok vs σ₂):evVs G H (.cons e es) ρ σ=.ok (v :: vs) σ₂:=by
  show (evE G H e ρ σ).bind _=_
  rw [h1]
  show (evVs G H es ρ σ₁).bind _=_
  rw [h2]; rfl
theorem rcall (h1:evVs G H es ρ σ=.ok vs σ₁) (h:H f vs σ₁=.ok d σ₂):evE G H (.call f es) ρ σ=.ok (.d d) σ₂:=by
  show (evVs G H es ρ σ).bind _=_
  rw [h1]
  show ofD (H f vs σ₁)=_
  rw [h]; rfl
theorem rbi (h1:evVs G H es ρ σ=.ok vs σ₁) (h2:unV vs=some l) (h:biD bi l=some d):evE G H (.bi bi es) ρ σ=.ok (.d d) σ₁:=by
  show (toDs (evVs G H es ρ σ)).bind _=_
  rw [h1]
  show (ofOpt σ₁ (unV vs)).bind _=_
  rw [h2]
  show ofOpt σ₁ ((biD bi l).map V.d)=_
  rw [h]; rfl
theorem rtup (h1:evVs G H es ρ σ=.ok vs σ₁) (h2:unV vs=some l) (h:l.length ≤ LIM):evE G H (.tup es) ρ σ=.ok (.d (.tup l)) σ₁:=by
  show (toDs (evVs G H es ρ σ)).bind _=_
  rw [h1]
  show (ofOpt σ₁ (unV vs)).bind _=_
  rw [h2]
  exact if_pos h
theorem rlst (h1:evVs G H es ρ σ=.ok vs σ₁) (h2:unV vs=some l) (h:l.length ≤ LIM):evE G H (.lst es) ρ σ=.ok (.d (.lst l)) σ₁:=by
  show (toDs (evVs G H es ρ σ)).bind _=_
  rw [h1]
  show (ofOpt σ₁ (unV vs)).bind _=_
  rw [h2]
  exact if_pos h
theorem rasg (h1:evE G H e ρ σ=.ok v σ₁) (h:evSs G H N ss (ρ.put k v) σ₁=q):evSs G H N (.cons (.asg k e) ss) ρ σ=q:=by
  show ((evE G H e ρ σ).bind _).bind _=_
  rw [h1]; exact h
theorem rasgT (h1:evE G H e ρ σ=.ok (.d x) σ₁) (h2:bindT ρ tg x=some ρ') (h:evSs G H N ss ρ' σ₁=q):evSs G H N (.cons (.asgT tg e) ss) ρ σ=q:=by
  show ((toD (evE G H e ρ σ)).bind _).bind _=_
  rw [h1]
  show ((ofOpt σ₁ (bindT ρ tg x)).bind _).bind _=_
  rw [h2]; exact h
theorem rret (h1:evE G H e ρ σ=.ok (.d x) σ₁):evSs G H N (.cons (.ret e) ss) ρ σ=.ok (ρ,.ret x) σ₁:=by
  show ((toD (evE G H e ρ σ)).bind _).bind _=_
  rw [h1]; rfl
theorem rapp (h0:ρ.get k=some (.own l)) (h1:evE G H e ρ σ=.ok (.d x) σ₁) (h2:l.length ≤ LIM) (h:evSs G H N ss (ρ.put k (.own (l++[x]))) σ₁=q):evSs G H N (.cons (.append k e) ss) ρ σ=q:=by
  show ((ofOpt σ (ownOf (ρ.get k))).bind _ |>.bind _)=_
  rw [h0]
  show ((toD (evE G H e ρ σ)).bind _).bind _=_
  rw [h1]
  show (R.bind (if l.length ≤ LIM then _ else _) _)=_
  rw [if_pos h2]; exact h
theorem riff1 {A B:Ss} (h1:evE G H c ρ σ=.ok (.d (.bool true)) σ₁) (h2:evSs G H N A ρ σ₁=.ok (ρ',.nxt) σ₂) (h:evSs G H N ss ρ' σ₂=q):evSs G H N (.cons (.iff c A B) ss) ρ σ=q:=by
  show ((toB (evE G H c ρ σ)).bind _).bind _=_
  rw [h1]
  show (evSs G H N A ρ σ₁).bind _=_
  rw [h2]; exact h
theorem riffr {A B:Ss} (h1:evE G H c ρ σ=.ok (.d (.bool true)) σ₁) (h2:evSs G H N A ρ σ₁=.ok (ρ',.ret x) σ₂):evSs G H N (.cons (.iff c A B) ss) ρ σ=.ok (ρ',.ret x) σ₂:=by
  show ((toB (evE G H c ρ σ)).bind _).bind _=_
  rw [h1]
  show (evSs G H N A ρ σ₁).bind _=_
  rw [h2]; rfl
theorem riff0 {A B:Ss} (h1:evE G H c ρ σ=.ok (.d (.bool false)) σ₁) (h2:evSs G H N B ρ σ₁=.ok (ρ',.nxt) σ₂) (h:evSs G H N ss ρ' σ₂=q):evSs G H N (.cons (.iff c A B) ss) ρ σ=q:=by
  show ((toB (evE G H c ρ σ)).bind _).bind _=_
  rw [h1]
  show (evSs G H N B ρ σ₁).bind _=_
  rw [h2]; exact h
theorem roNe (h:oNeV (ρ.get k)=some d):evE G H (.oNe k) ρ σ=.ok (.d d) σ:=by
  show ofOpt σ ((oNeV (ρ.get k)).map V.d)=_
  rw [h]; rfl
theorem roLen (h:oLenV (ρ.get k)=some d):evE G H (.oLen k) ρ σ=.ok (.d d) σ:=by
  show ofOpt σ ((oLenV (ρ.get k)).map V.d)=_
  rw [h]; rfl
theorem roIdx (h0:ρ.get k=some (.own l)) (h1:evE G H i ρ σ=.ok (.d (.int n)) σ₁) (h2:n < 1000000) (h:idx l n=some d):evE G H (.oIdx k i) ρ σ=.ok (.d d) σ₁:=by
  show (ofOpt σ (ownOf (ρ.get k))).bind _=_
  rw [h0]
  show (toD (evE G H i ρ σ)).bind _=_
  rw [h1]
  show ofOpt σ₁ ((if n < 1000000 then idx l n else none).map V.d)=_
  rw [if_pos h2,h]; rfl
theorem rpop {j:Nat} (h0:ρ.get k=some (.own l)) (h1:l.getLast?=some d) (h2:l.length ≤ LIM) (h:evSs G H N ss ((ρ.put k (.own l.dropLast)).put j (.d d)) σ=q):evSs G H N (.cons (.popTo j k) ss) ρ σ=q:=by
  show (evS G H N (.popTo j k) ρ σ).bind _=_
  rw [xSi,h0]
  show R.bind (match l.getLast? with
      | some d=>if l.length ≤ LIM then R.ok ((ρ.put k (.own l.dropLast)).put j (.d d),Fl.nxt) σ else R.bad
      | none=>R.bad) _=_
  rw [h1]
  show R.bind (if l.length ≤ LIM then _ else _) _=_
  rw [if_pos h2]; exact h
theorem rslc {e lo hi:E} {l':List D} {n m:Int} (h0:ρ.get k=some (.own l)) (h1:evE G H e ρ σ=.ok (.d d) σ₁) (h2:evE G H lo ρ σ₁=.ok (.d (.int n)) σ₂) (h3:evE G H hi ρ σ₂=.ok (.d (.int m)) σ₃) (h4:setSl l n m d=some l') (h:evSs G H N ss (ρ.put k (.own l')) σ₃=q):evSs G H N (.cons (.setSlice k lo hi e) ss) ρ σ=q:=by
  show ((toD (evE G H e ρ σ)).bind _).bind _=_
  rw [h1]
  show ((ofOpt σ₁ (ownOf (ρ.get k))).bind _).bind _=_
  rw [h0]
  show ((toD (evE G H lo ρ σ₁)).bind _).bind _=_
  rw [h2]
  show ((toD (evE G H hi ρ σ₂)).bind _).bind _=_
  rw [h3]
  show ((ofOpt σ₃ (setSl l n m d)).bind _).bind _=_
  rw [h4]; exact h
theorem rn (h1:evS G H N s ρ σ=.ok (ρ',.nxt) σ₁) (h:evSs G H N ss ρ' σ₁=q):evSs G H N (.cons s ss) ρ σ=q:=by
  show (evS G H N s ρ σ).bind _=_
  rw [h1]; exact h
theorem rforr {b:Ss} (h1:evIt G H it ρ σ=.ok xs σ₁) (h2:forF (fun ρ d=>bindT ρ tg d) (fun ρ σ=>evSs G H N b ρ σ) xs ρ σ₁=.ok (ρ',.nxt) σ₂) (h:evSs G H N ss ρ' σ₂=q):evSs G H N (.cons (.forr tg it b) ss) ρ σ=q:=by
  refine rn ?_ h
  show (evIt G H it ρ σ).bind _=_
  rw [h1]; exact h2
theorem rcomp {elt:E} (h1:evIt G H it ρ σ=.ok xs σ₁) (h2:compF (bindT ρ tg) (fun ρ σ=>evBs G H true es ρ σ) (fun ρ σ=>toD (evE G H elt ρ σ)) xs [] σ₁=.ok d σ₂):evE G H (.comp elt tg it es) ρ σ=.ok (.d d) σ₂:=by
  show (evIt G H it ρ σ).bind _=_
  rw [h1]
  show noExc (compF _ _ _ xs [] σ₁)=_
  rw [h2]; rfl
theorem rrange (h1:evE G H e ρ σ=.ok (.d (.int n)) σ₁) (h:0 ≤ n∧n ≤ LIM):evIt G H (.range e) ρ σ=.ok ((List.range n.toNat).map fun (i:Nat)=>D.int (i:Int)) σ₁:=by
  show (toD (evE G H e ρ σ)).bind _=_
  rw [h1]
  show ofOpt σ₁ (if 0 ≤ n∧n ≤ LIM then _ else none)=_
  rw [if_pos h]; rfl
theorem rval (h1:evE G H e ρ σ=.ok (.d x) σ₁) (h:itemsD x=some xs):evIt G H (.val e) ρ σ=.ok xs σ₁:=by
  show (toD (evE G H e ρ σ)).bind _=_
  rw [h1]
  show ofOpt σ₁ (itemsD x)=_
  rw [h]; rfl
theorem rzip (h1:evE G H a ρ σ=.ok (.d x) σ₁) (h2:evE G H b ρ σ₁=.ok (.d y) σ₂) (h:zipItems x y=some xs):evIt G H (.zip a b) ρ σ=.ok xs σ₂:=by
  show (toD (evE G H a ρ σ)).bind _=_
  rw [h1]
  show (toD (evE G H b ρ σ₁)).bind _=_
  rw [h2]
  show ofOpt σ₂ (zipItems x y)=_
  rw [h]; rfl
theorem rslcF (h1:evE G H a ρ σ=.ok (.d x) σ₁) (h2:evE G H b ρ σ₁=.ok (.d (.int n)) σ₂) (h:slcFromD x n=some d):evE G H (.slcFrom a b) ρ σ=.ok (.d d) σ₂:=by
  show (toD (evE G H a ρ σ)).bind _=_
  rw [h1]
  show (toD (evE G H b ρ σ₁)).bind _=_
  rw [h2]
  show ofOpt σ₂ ((slcFromD x n).map V.d)=_
  rw [h]; rfl
theorem rslcT (h1:evE G H a ρ σ=.ok (.d x) σ₁) (h2:evE G H b ρ σ₁=.ok (.d (.int n)) σ₂) (h:slcToD x n=some d):evE G H (.slcTo a b) ρ σ=.ok (.d d) σ₂:=by
  show (toD (evE G H a ρ σ)).bind _=_
  rw [h1]
  show (toD (evE G H b ρ σ₁)).bind _=_
  rw [h2]
  show ofOpt σ₂ ((slcToD x n).map V.d)=_
  rw [h]; rfl
theorem rsetB (h1:evE G H e ρ σ=.ok (.d d) σ₁) (h2:evE G H a ρ σ₁=.ok v σ₂) (h3:setBoxS v d σ₂=some σ₃) (h:evSs G H N ss ρ σ₃=q):evSs G H N (.cons (.setBox a e) ss) ρ σ=q:=by
  show ((toD (evE G H e ρ σ)).bind _).bind _=_
  rw [h1]
  show ((evE G H a ρ σ₁).bind _).bind _=_
  rw [h2]
  show R.bind (match setBoxS v d σ₂ with
    | some σ₃=>R.ok (ρ,Fl.nxt) σ₃
    | none=>R.bad) _=_
  rw [h3]; exact h
end
end Mine
end
section
set_option tactic.hygienic false
open PySem
namespace Mine
noncomputable def g_LETTERS:D:=.lst [.tup [.int 170,.int 170],.tup [.int 181,.int 181],.tup [.int 186,.int 186],.tup [.int 192,.int 214],.tup [.int 216,.int 246],.tup [.int 248,.int 705],.tup [.int 880,.int 883],.tup [.int 886,.int 887],.tup [.int 891,.int 893],.tup [.int 902,.int 902],.tup [.int 904,.int 906],.tup [.int 908,.int 908],.tup [.int 910,.int 929],.tup [.int 931,.int 1013],.tup [.int 1015,.int 1153],.tup [.int 1162,.int 1315],.tup [.int 1329,.int 1366],.tup [.int 1377,.int 1415],.tup [.int 1488,.int 1514],.tup [.int 1569,.int 1594],.tup [.int 1601,.int 1610],.tup [.int 2308,.int 2361],.tup [.int 4256,.int 4293],.tup [.int 4304,.int 4346],.tup [.int 7680,.int 7835],.tup [.int 7840,.int 7929],.tup [.int 8544,.int 8578],.tup [.int 12353,.int 12438],.tup [.int 12449,.int 12538],.tup [.int 12549,.int 12588],.tup [.int 19968,.int 40891],.tup [.int 44032,.int 55203]]
noncomputable def g_PARTS:D:=.lst [.tup [.int 768,.int 879],.tup [.int 1632,.int 1641],.tup [.int 2406,.int 2415],.tup [.int 8204,.int 8205],.tup [.int 8255,.int 8256],.tup [.int 8276,.int 8276]]
noncomputable def g_GREAT:D:=.lst [.tup [.int 65,.int 90,.int 32],.tup [.int 192,.int 214,.int 32],.tup [.int 216,.int 222,.int 32],.tup [.int 902,.int 902,.int 38],.tup [.int 904,.int 906,.int 37],.tup [.int 908,.int 908,.int 64],.tup [.int 910,.int 911,.int 63],.tup [.int 913,.int 929,.int 32],.tup [.int 931,.int 939,.int 32],.tup [.int 1024,.int 1039,.int 80],.tup [.int 1040,.int 1071,.int 32],.tup [.int 1329,.int 1366,.int 48]]
noncomputable def g_TURNS:D:=.lst [.tup [.int 256,.int 303],.tup [.int 306,.int 311],.tup [.int 313,.int 328],.tup [.int 330,.int 375],.tup [.int 377,.int 382],.tup [.int 984,.int 1007],.tup [.int 1120,.int 1153],.tup [.int 1162,.int 1215],.tup [.int 1232,.int 1319],.tup [.int 7680,.int 7829],.tup [.int 7840,.int 7935]]
noncomputable def g_GREAT_ALONE:D:=.dcI [(376,.int 255),(304,.int 105)]
noncomputable def g_SMALL_ALONE:D:=.dcI [(255,.int 376),(181,.int 924),(305,.int 73),(383,.int 83),(962,.int 931)]
noncomputable def g_GREAT_WIDE:D:=.dcI [(223,.str [83,83]),(329,.str [700,78]),(912,.str [921,776,769]),(944,.str [933,776,769]),(1415,.str [1333,1362])]
noncomputable def g_GREATEST:D:=.int 65535
noncomputable def g_DIGITS:D:=.tup [.tup [.int 48,.int 57]]
noncomputable def g_WORDS:D:=.tup [.tup [.int 48,.int 57],.tup [.int 65,.int 90],.tup [.int 95,.int 95],.tup [.int 97,.int 122]]
noncomputable def g_SPACES:D:=.tup [.tup [.int 9,.int 13],.tup [.int 32,.int 32],.tup [.int 160,.int 160],.tup [.int 5760,.int 5760],.tup [.int 6158,.int 6158],.tup [.int 8192,.int 8202],.tup [.int 8232,.int 8233],.tup [.int 8239,.int 8239],.tup [.int 8287,.int 8287],.tup [.int 12288,.int 12288],.tup [.int 65279,.int 65279]]
noncomputable def g_SPECIAL:D:=.str [94,36,92,46,42,43,63,40,41,91,93,123,125,124]
noncomputable def g_CONTROLS:D:=.dcS [([102],.int 12),([110],.int 10),([114],.int 13),([116],.int 9),([118],.int 11)]
noncomputable def g_PLAIN:D:=.dcS [([42],.tup [.int 0,.null]),([43],.tup [.int 1,.null]),([63],.tup [.int 0,.int 1])]
noncomputable def g_ENDS:D:=.tup [.str [],.str [124],.str [41]]
noncomputable def g_ASSERTIONS:D:=.tup [.tup [.str [94],.tup [.str [115,116,97,114,116]]],.tup [.str [36],.tup [.str [101,110,100]]],.tup [.str [92,98],.tup [.str [98,111,117,110,100,97,114,121],.bool false]],.tup [.str [92,66],.tup [.str [98,111,117,110,100,97,114,121],.bool true]]]
noncomputable def gT:Nat→D
  | 0=>g_LETTERS
  | 1=>g_PARTS
  | 2=>g_GREAT
  | 3=>g_TURNS
  | 4=>g_GREAT_ALONE
  | 5=>g_SMALL_ALONE
  | 6=>g_GREAT_WIDE
  | 7=>g_GREATEST
  | 8=>g_DIGITS
  | 9=>g_WORDS
  | 10=>g_SPACES
  | 11=>g_SPECIAL
  | 12=>g_CONTROLS
  | 13=>g_PLAIN
  | 14=>g_ENDS
  | 15=>g_ASSERTIONS
  | _=>.null
noncomputable def f_is_among:Ss:=(.cons (.forr [2,3] (.val (.loc 1)) (.cons (.iff (.chain .le .le (.loc 2) (.loc 0) (.loc 3)) (.cons (.ret (.cst (.bool true))) .nil) .nil) .nil)) (.cons (.ret (.cst (.bool false))) .nil))
noncomputable def f_is_digit:Ss:=(.cons (.ret (.chain .le .le (.cst (.int 48)) (.loc 0) (.cst (.int 57)))) .nil)
noncomputable def f_hex_value:Ss:=(.cons (.iff (.chain .le .le (.cst (.int 48)) (.loc 0) (.cst (.int 57))) (.cons (.ret (.bin .sub (.loc 0) (.cst (.int 48)))) .nil) .nil) (.cons (.iff (.chain .le .le (.cst (.int 65)) (.loc 0) (.cst (.int 70))) (.cons (.ret (.bin .sub (.loc 0) (.cst (.int 55)))) .nil) .nil) (.cons (.ret (.ite (.chain .le .le (.cst (.int 97)) (.loc 0) (.cst (.int 102))) (.bin .sub (.loc 0) (.cst (.int 87))) (.neg (.cst (.int 1))))) .nil)))
noncomputable def f_is_id_start:Ss:=(.cons (.iff (.cmp .lt (.loc 0) (.cst (.int 128))) (.cons (.ret (.bop false (.cons (.chain .le .le (.cst (.int 65)) (.loc 0) (.cst (.int 90))) (.cons (.chain .le .le (.cst (.int 97)) (.loc 0) (.cst (.int 122))) (.cons (.cmp .eq (.loc 0) (.cst (.int 36))) (.cons (.cmp .eq (.loc 0) (.cst (.int 95))) .nil)))))) .nil) .nil) (.cons (.ret (.call 0 (.cons (.loc 0) (.cons (.glob 0) .nil)))) .nil))
noncomputable def f_is_id_part:Ss:=(.cons (.ret (.bop false (.cons (.call 3 (.cons (.loc 0) .nil)) (.cons (.call 1 (.cons (.loc 0) .nil)) (.cons (.bop true (.cons (.cmp .gt (.loc 0) (.cst (.int 127))) (.cons (.call 0 (.cons (.loc 0) (.cons (.glob 1) .nil))) .nil))) .nil))))) .nil)
noncomputable def f_code_at:Ss:=(.cons (.ret (.ite (.cmp .lt (.loc 1) (.bi .len (.cons (.loc 0) .nil))) (.bi .ord (.cons (.sub (.loc 0) (.loc 1)) .nil)) (.neg (.cst (.int 1))))) .nil)
noncomputable def f_hex_at:Ss:=(.cons (.asg 3 (.cst (.int 0))) (.cons (.forr [4] (.range (.loc 2)) (.cons (.asg 5 (.call 2 (.cons (.call 5 (.cons (.loc 0) (.cons (.bin .add (.loc 1) (.loc 4)) .nil))) .nil))) (.cons (.iff (.cmp .lt (.loc 5) (.cst (.int 0))) (.cons (.ret (.neg (.cst (.int 1)))) .nil) .nil) (.cons (.asg 3 (.bin .add (.bin .mul (.loc 3) (.cst (.int 16))) (.loc 5))) .nil)))) (.cons (.ret (.loc 3)) .nil)))
noncomputable def f_small_code:Ss:=(.cons (.iff (.cmp .isIn (.loc 0) (.glob 4)) (.cons (.ret (.sub (.glob 4) (.loc 0))) .nil) .nil) (.cons (.forr [1,2,3] (.val (.glob 2)) (.cons (.iff (.chain .le .le (.loc 1) (.loc 0) (.loc 2)) (.cons (.ret (.bin .add (.loc 0) (.loc 3))) .nil) .nil) .nil)) (.cons (.forr [1,2] (.val (.glob 3)) (.cons (.iff (.bop true (.cons (.chain .le .le (.loc 1) (.loc 0) (.loc 2)) (.cons (.cmp .eq (.bin .mod (.bin .sub (.loc 0) (.loc 1)) (.cst (.int 2))) (.cst (.int 0))) .nil))) (.cons (.ret (.bin .add (.loc 0) (.cst (.int 1)))) .nil) .nil) .nil)) (.cons (.ret (.loc 0)) .nil))))
noncomputable def f_great_code:Ss:=(.cons (.iff (.cmp .isIn (.loc 0) (.glob 5)) (.cons (.ret (.sub (.glob 5) (.loc 0))) .nil) .nil) (.cons (.forr [1,2,3] (.val (.glob 2)) (.cons (.iff (.chain .le .le (.loc 1) (.bin .sub (.loc 0) (.loc 3)) (.loc 2)) (.cons (.ret (.bin .sub (.loc 0) (.loc 3))) .nil) .nil) .nil)) (.cons (.forr [1,2] (.val (.glob 3)) (.cons (.iff (.bop true (.cons (.chain .le .le (.loc 1) (.loc 0) (.loc 2)) (.cons (.cmp .eq (.bin .mod (.bin .sub (.loc 0) (.loc 1)) (.cst (.int 2))) (.cst (.int 1))) .nil))) (.cons (.ret (.bin .sub (.loc 0) (.cst (.int 1)))) .nil) .nil) .nil)) (.cons (.ret (.loc 0)) .nil))))
noncomputable def f_merged:Ss:=(.cons (.own 1 .nil) (.cons (.forr [2,3] (.val (.bi .sorted (.cons (.loc 0) .nil))) (.cons (.iff (.bop true (.cons (.oNe 1) (.cons (.cmp .le (.loc 2) (.bin .add (.sub (.oIdx 1 (.bin .sub (.oLen 1) (.cst (.int 1)))) (.cst (.int 1))) (.cst (.int 1)))) .nil))) (.cons (.popTo 4 1) (.cons (.append 1 (.tup (.cons (.sub (.loc 4) (.cst (.int 0))) (.cons (.bi .max (.cons (.sub (.loc 4) (.cst (.int 1))) (.cons (.loc 3) .nil))) .nil)))) .nil)) (.cons (.append 1 (.tup (.cons (.loc 2) (.cons (.loc 3) .nil)))) .nil)) .nil)) (.cons (.freeze 1) (.cons (.ret (.bi .tuple (.cons (.loc 1) .nil))) .nil))))
noncomputable def f_inverted:Ss:=(.cons (.own 1 .nil) (.cons (.asg 2 (.cst (.int 0))) (.cons (.forr [3,4] (.val (.loc 0)) (.cons (.iff (.cmp .gt (.loc 3) (.loc 2)) (.cons (.append 1 (.tup (.cons (.loc 2) (.cons (.bin .sub (.loc 3) (.cst (.int 1))) .nil)))) .nil) .nil) (.cons (.asg 2 (.bin .add (.loc 4) (.cst (.int 1)))) .nil))) (.cons (.iff (.cmp .le (.loc 2) (.glob 7)) (.cons (.append 1 (.tup (.cons (.loc 2) (.cons (.glob 7) .nil)))) .nil) .nil) (.cons (.freeze 1) (.cons (.ret (.bi .tuple (.cons (.loc 1) .nil))) .nil))))))
noncomputable def f_has:Ss:=(.cons (.asg 2 (.cst (.int 0))) (.cons (.asg 3 (.bi .len (.cons (.loc 0) .nil))) (.cons (.whl (.cmp .lt (.loc 2) (.loc 3)) (.cons (.asg 4 (.bin .fdiv (.bin .add (.loc 2) (.loc 3)) (.cst (.int 2)))) (.cons (.iff (.cmp .lt (.sub (.sub (.loc 0) (.loc 4)) (.cst (.int 1))) (.loc 1)) (.cons (.asg 2 (.bin .add (.loc 4) (.cst (.int 1)))) .nil) (.cons (.asg 3 (.loc 4)) .nil)) .nil))) (.cons (.ret (.bop true (.cons (.cmp .lt (.loc 2) (.bi .len (.cons (.loc 0) .nil))) (.cons (.cmp .le (.sub (.sub (.loc 0) (.loc 2)) (.cst (.int 0))) (.loc 1)) .nil)))) .nil))))
noncomputable def f_is_word:Ss:=(.cons (.ret (.call 11 (.cons (.glob 9) (.cons (.loc 0) .nil)))) .nil)
noncomputable def f_named_lot:Ss:=(.cons (.asg 1 (.dct [.str [100],.str [119],.str [115]] (.cons (.glob 8) (.cons (.glob 9) (.cons (.glob 10) .nil))))) (.cons (.iff (.cmp .isIn (.loc 0) (.loc 1)) (.cons (.ret (.sub (.loc 1) (.loc 0))) .nil) .nil) (.cons (.asg 2 (.get (.dct [.str [68],.str [87],.str [83]] (.cons (.cst (.str [100])) (.cons (.cst (.str [119])) (.cons (.cst (.str [115])) .nil)))) (.loc 0))) (.cons (.ret (.ite (.cmp .is (.loc 2) (.cst (.null))) (.cst (.null)) (.call 10 (.cons (.sub (.loc 1) (.loc 2)) .nil)))) .nil))))
noncomputable def f_canon:Ss:=(.cons (.iff (.cmp .isIn (.loc 0) (.glob 6)) (.cons (.ret (.loc 0)) .nil) .nil) (.cons (.asg 1 (.call 8 (.cons (.loc 0) .nil))) (.cons (.ret (.ite (.bop true (.cons (.cmp .gt (.loc 0) (.cst (.int 127))) (.cons (.cmp .lt (.loc 1) (.cst (.int 128))) .nil))) (.loc 0) (.loc 1))) .nil)))
noncomputable def f_has_folded:Ss:=(.cons (.asg 2 (.call 14 (.cons (.loc 1) .nil))) (.cons (.asg 3 (.bin .add (.lst (.cons (.loc 1) (.cons (.loc 2) (.cons (.call 7 (.cons (.loc 2) .nil)) .nil)))) (.comp (.loc 4) [4] (.val (.glob 5)) (.cons (.cmp .eq (.sub (.glob 5) (.loc 4)) (.loc 2)) .nil)))) (.cons (.ret (.bi .any (.cons (.comp (.bop true (.cons (.cmp .eq (.call 14 (.cons (.loc 5) .nil)) (.loc 2)) (.cons (.call 11 (.cons (.loc 0) (.cons (.loc 5) .nil))) .nil))) [5] (.val (.loc 3)) .nil) .nil))) .nil)))
noncomputable def f_fail:Ss:=.nil
noncomputable def f_parse_flags:Ss:=(.cons (.forr [1] (.val (.loc 0)) (.cons (.iff (.bop false (.cons (.cmp .notIn (.loc 1) (.tup (.cons (.cst (.str [103])) (.cons (.cst (.str [105])) (.cons (.cst (.str [109])) .nil))))) (.cons (.cmp .gt (.cnt (.loc 0) (.loc 1)) (.cst (.int 1))) .nil))) (.cons (.expr (.call 16 (.cons (.cst (.str [105,110,118,97,108,105,100,32,102,108,97,103,115])) .nil))) .nil) .nil) .nil)) (.cons (.ret (.tup (.cons (.cmp .isIn (.cst (.str [103])) (.loc 0)) (.cons (.cmp .isIn (.cst (.str [105])) (.loc 0)) (.cons (.cmp .isIn (.cst (.str [109])) (.loc 0)) .nil))))) .nil))
noncomputable def f_is_decimal:Ss:=(.cons (.ret (.bop true (.cons (.cmp .eq (.bi .len (.cons (.loc 0) .nil)) (.cst (.int 1))) (.cons (.chain .le .le (.cst (.str [48])) (.loc 0) (.cst (.str [57]))) .nil)))) .nil)
noncomputable def f_sign:Ss:=(.cons (.ret (.slc (.attr (.loc 0) 0) (.attr (.loc 0) 1) (.bin .add (.attr (.loc 0) 1) (.cst (.int 1))))) .nil)
noncomputable def f_take:Ss:=(.cons (.asg 1 (.meth 19 (.loc 0) .nil)) (.cons (.addAttr (.loc 0) 1 (.cst (.int 1))) (.cons (.ret (.loc 1)) .nil)))
noncomputable def f_skip:Ss:=(.cons (.iff (.cmp .ne (.slc (.attr (.loc 0) 0) (.attr (.loc 0) 1) (.bin .add (.attr (.loc 0) 1) (.bi .len (.cons (.loc 1) .nil)))) (.loc 1)) (.cons (.ret (.cst (.bool false))) .nil) .nil) (.cons (.addAttr (.loc 0) 1 (.bi .len (.cons (.loc 1) .nil))) (.cons (.ret (.cst (.bool true))) .nil)))
noncomputable def f_disjunction:Ss:=(.cons (.own 1 (.cons (.meth 23 (.loc 0) .nil) .nil)) (.cons (.whl (.meth 21 (.loc 0) (.cons (.cst (.str [124])) .nil)) (.cons (.append 1 (.meth 23 (.loc 0) .nil)) .nil)) (.cons (.freeze 1) (.cons (.ret (.ite (.cmp .eq (.bi .len (.cons (.loc 1) .nil)) (.cst (.int 1))) (.sub (.loc 1) (.cst (.int 0))) (.tup (.cons (.cst (.str [97,108,116])) (.cons (.bi .tuple (.cons (.loc 1) .nil)) .nil))))) .nil))))
noncomputable def f_alternative:Ss:=(.cons (.own 1 .nil) (.cons (.whl (.cmp .notIn (.meth 19 (.loc 0) .nil) (.glob 14)) (.cons (.append 1 (.meth 24 (.loc 0) .nil)) .nil)) (.cons (.freeze 1) (.cons (.ret (.tup (.cons (.cst (.str [115,101,113])) (.cons (.bi .tuple (.cons (.loc 1) .nil)) .nil)))) .nil))))
noncomputable def f_term:Ss:=(.cons (.forr [1,2] (.val (.glob 15)) (.cons (.iff (.meth 21 (.loc 0) (.cons (.loc 1) .nil)) (.cons (.ret (.loc 2)) .nil) .nil) .nil)) (.cons (.iff (.meth 21 (.loc 0) (.cons (.cst (.str [40,63,61])) .nil)) (.cons (.ret (.tup (.cons (.cst (.str [108,111,111,107])) (.cons (.cst (.bool false)) (.cons (.meth 25 (.loc 0) .nil) .nil))))) .nil) .nil) (.cons (.iff (.meth 21 (.loc 0) (.cons (.cst (.str [40,63,33])) .nil)) (.cons (.ret (.tup (.cons (.cst (.str [108,111,111,107])) (.cons (.cst (.bool true)) (.cons (.meth 25 (.loc 0) .nil) .nil))))) .nil) .nil) (.cons (.asg 3 (.bin .add (.attr (.loc 0) 2) (.cst (.int 1)))) (.cons (.asg 4 (.meth 28 (.loc 0) .nil)) (.cons (.asg 5 (.meth 26 (.loc 0) .nil)) (.cons (.iff (.cmp .is (.loc 5) (.cst (.null))) (.cons (.ret (.loc 4)) .nil) .nil) (.cons (.ret (.tup (.cons (.cst (.str [114,101,112,101,97,116])) (.cons (.sub (.loc 5) (.cst (.int 0))) (.cons (.sub (.loc 5) (.cst (.int 1))) (.cons (.meth 21 (.loc 0) (.cons (.cst (.str [63])) .nil)) (.cons (.loc 4) (.cons (.loc 3) (.cons (.bin .add (.attr (.loc 0) 2) (.cst (.int 1))) .nil))))))))) .nil))))))))
noncomputable def f_within:Ss:=(.cons (.asg 1 (.meth 22 (.loc 0) .nil)) (.cons (.iff (.not (.meth 21 (.loc 0) (.cons (.cst (.str [41])) .nil))) (.cons (.expr (.call 16 (.cons (.cst (.str [117,110,116,101,114,109,105,110,97,116,101,100,32,103,114,111,117,112])) .nil))) .nil) .nil) (.cons (.ret (.loc 1)) .nil)))
noncomputable def f_often:Ss:=(.cons (.iff (.cmp .isIn (.meth 19 (.loc 0) .nil) (.glob 13)) (.cons (.ret (.sub (.glob 13) (.meth 20 (.loc 0) .nil))) .nil) .nil) (.cons (.iff (.not (.meth 21 (.loc 0) (.cons (.cst (.str [123])) .nil))) (.cons (.ret (.cst (.null))) .nil) .nil) (.cons (.asg 1 (.meth 27 (.loc 0) .nil)) (.cons (.asg 2 (.loc 1)) (.cons (.iff (.meth 21 (.loc 0) (.cons (.cst (.str [44])) .nil)) (.cons (.asg 2 (.ite (.call 18 (.cons (.meth 19 (.loc 0) .nil) .nil)) (.meth 27 (.loc 0) .nil) (.cst (.null)))) .nil) .nil) (.cons (.iff (.not (.meth 21 (.loc 0) (.cons (.cst (.str [125])) .nil))) (.cons (.expr (.call 16 (.cons (.cst (.str [98,97,100,32,113,117,97,110,116,105,102,105,101,114])) .nil))) .nil) .nil) (.cons (.iff (.bop true (.cons (.cmp .isNot (.loc 2) (.cst (.null))) (.cons (.cmp .gt (.loc 1) (.loc 2)) .nil))) (.cons (.expr (.call 16 (.cons (.cst (.str [110,117,109,98,101,114,115,32,111,117,116,32,111,102,32,111,114,100,101,114,32,105,110,32,113,117,97,110,116,105,102,105,101,114])) .nil))) .nil) .nil) (.cons (.ret (.tup (.cons (.loc 1) (.cons (.loc 2) .nil)))) .nil))))))))
noncomputable def f_number:Ss:=(.cons (.asg 1 (.attr (.loc 0) 1)) (.cons (.whl (.call 18 (.cons (.meth 19 (.loc 0) .nil) .nil)) (.cons (.addAttr (.loc 0) 1 (.cst (.int 1))) .nil)) (.cons (.iff (.cmp .eq (.loc 1) (.attr (.loc 0) 1)) (.cons (.expr (.call 16 (.cons (.cst (.str [98,97,100,32,113,117,97,110,116,105,102,105,101,114])) .nil))) .nil) .nil) (.cons (.ret (.bi .int (.cons (.slc (.attr (.loc 0) 0) (.loc 1) (.attr (.loc 0) 1)) .nil))) .nil))))
noncomputable def f_atom:Ss:=(.cons (.asg 1 (.meth 20 (.loc 0) .nil)) (.cons (.iff (.cmp .eq (.loc 1) (.cst (.str [46]))) (.cons (.ret (.tup (.cons (.cst (.str [97,110,121])) .nil))) .nil) .nil) (.cons (.iff (.cmp .eq (.loc 1) (.cst (.str [92]))) (.cons (.ret (.meth 29 (.loc 0) .nil)) .nil) .nil) (.cons (.iff (.cmp .eq (.loc 1) (.cst (.str [91]))) (.cons (.ret (.meth 31 (.loc 0) .nil)) .nil) .nil) (.cons (.iff (.cmp .eq (.loc 1) (.cst (.str [40]))) (.cons (.iff (.meth 21 (.loc 0) (.cons (.cst (.str [63,58])) .nil)) (.cons (.ret (.tup (.cons (.cst (.str [103,114,111,117,112])) (.cons (.cst (.null)) (.cons (.meth 25 (.loc 0) .nil) .nil))))) .nil) .nil) (.cons (.addAttr (.loc 0) 2 (.cst (.int 1))) (.cons (.asg 2 (.attr (.loc 0) 2)) (.cons (.ret (.tup (.cons (.cst (.str [103,114,111,117,112])) (.cons (.loc 2) (.cons (.meth 25 (.loc 0) .nil) .nil))))) .nil)))) .nil) (.cons (.iff (.cmp .isIn (.loc 1) (.glob 11)) (.cons (.expr (.call 16 (.cons (.ite (.cmp .isIn (.loc 1) (.tup (.cons (.cst (.str [42])) (.cons (.cst (.str [43])) (.cons (.cst (.str [63])) .nil))))) (.cst (.str [110,111,116,104,105,110,103,32,116,111,32,114,101,112,101,97,116])) (.bin .add (.cst (.str [117,110,101,120,112,101,99,116,101,100,32])) (.loc 1))) .nil))) .nil) .nil) (.cons (.ret (.tup (.cons (.cst (.str [99,104,97,114])) (.cons (.bi .ord (.cons (.loc 1) .nil)) .nil)))) .nil)))))))
noncomputable def f_atom_escape:Ss:=(.cons (.iff (.bop true (.cons (.call 18 (.cons (.meth 19 (.loc 0) .nil) .nil)) (.cons (.cmp .ne (.meth 19 (.loc 0) .nil) (.cst (.str [48]))) .nil))) (.cons (.asg 1 (.meth 27 (.loc 0) .nil)) (.cons (.setAttr (.loc 0) 3 (.bi .max (.cons (.attr (.loc 0) 3) (.cons (.loc 1) .nil)))) (.cons (.ret (.tup (.cons (.cst (.str [98,97,99,107])) (.cons (.loc 1) .nil)))) .nil))) .nil) (.cons (.asg 2 (.call 13 (.cons (.meth 19 (.loc 0) .nil) .nil))) (.cons (.iff (.cmp .isNot (.loc 2) (.cst (.null))) (.cons (.addAttr (.loc 0) 1 (.cst (.int 1))) (.cons (.ret (.tup (.cons (.cst (.str [99,108,97,115,115])) (.cons (.loc 2) (.cons (.cst (.bool false)) .nil))))) .nil)) .nil) (.cons (.ret (.tup (.cons (.cst (.str [99,104,97,114])) (.cons (.meth 30 (.loc 0) .nil) .nil)))) .nil))))
noncomputable def f_escaped_sign:Ss:=(.cons (.asg 1 (.meth 20 (.loc 0) .nil)) (.cons (.iff (.cmp .eq (.loc 1) (.cst (.str []))) (.cons (.expr (.call 16 (.cons (.cst (.str [98,97,99,107,115,108,97,115,104,32,97,116,32,116,104,101,32,101,110,100,32,111,102,32,112,97,116,116,101,114,110])) .nil))) .nil) .nil) (.cons (.iff (.bop true (.cons (.cmp .eq (.loc 1) (.cst (.str [48]))) (.cons (.not (.call 18 (.cons (.meth 19 (.loc 0) .nil) .nil))) .nil))) (.cons (.ret (.cst (.int 0))) .nil) .nil) (.cons (.iff (.cmp .isIn (.loc 1) (.glob 12)) (.cons (.ret (.sub (.glob 12) (.loc 1))) .nil) .nil) (.cons (.iff (.cmp .eq (.loc 1) (.cst (.str [99]))) (.cons (.asg 2 (.meth 20 (.loc 0) .nil)) (.cons (.iff (.not (.bop false (.cons (.chain .le .le (.cst (.str [97])) (.loc 2) (.cst (.str [122]))) (.cons (.chain .le .le (.cst (.str [65])) (.loc 2) (.cst (.str [90]))) .nil)))) (.cons (.expr (.call 16 (.cons (.cst (.str [105,110,118,97,108,105,100,32,99,111,110,116,114,111,108,32,108,101,116,116,101,114])) .nil))) .nil) .nil) (.cons (.ret (.bin .mod (.bi .ord (.cons (.loc 2) .nil)) (.cst (.int 32)))) .nil))) .nil) (.cons (.iff (.cmp .isIn (.loc 1) (.tup (.cons (.cst (.str [120])) (.cons (.cst (.str [117])) .nil)))) (.cons (.asg 3 (.ite (.cmp .eq (.loc 1) (.cst (.str [120]))) (.cst (.int 2)) (.cst (.int 4)))) (.cons (.asg 4 (.call 6 (.cons (.attr (.loc 0) 0) (.cons (.attr (.loc 0) 1) (.cons (.loc 3) .nil))))) (.cons (.iff (.cmp .lt (.loc 4) (.cst (.int 0))) (.cons (.expr (.call 16 (.cons (.cst (.str [105,110,118,97,108,105,100,32,101,115,99,97,112,101])) .nil))) .nil) .nil) (.cons (.addAttr (.loc 0) 1 (.loc 3)) (.cons (.ret (.loc 4)) .nil))))) .nil) (.cons (.iff (.bop true (.cons (.cmp .ne (.loc 1) (.cst (.str [36]))) (.cons (.call 4 (.cons (.bi .ord (.cons (.loc 1) .nil)) .nil)) .nil))) (.cons (.expr (.call 16 (.cons (.cst (.str [105,110,118,97,108,105,100,32,101,115,99,97,112,101])) .nil))) .nil) .nil) (.cons (.ret (.bi .ord (.cons (.loc 1) .nil))) .nil))))))))
noncomputable def f_sign_class:Ss:=(.cons (.asg 1 (.meth 21 (.loc 0) (.cons (.cst (.str [94])) .nil))) (.cons (.own 2 .nil) (.cons (.whl (.cmp .ne (.meth 19 (.loc 0) .nil) (.cst (.str [93]))) (.cons (.asg 3 (.meth 33 (.loc 0) .nil)) (.cons (.iff (.bop true (.cons (.cmp .eq (.meth 19 (.loc 0) .nil) (.cst (.str [45]))) (.cons (.cmp .notIn (.slc (.attr (.loc 0) 0) (.bin .add (.attr (.loc 0) 1) (.cst (.int 1))) (.bin .add (.attr (.loc 0) 1) (.cst (.int 2)))) (.tup (.cons (.cst (.str [])) (.cons (.cst (.str [93])) .nil)))) .nil))) (.cons (.addAttr (.loc 0) 1 (.cst (.int 1))) (.cons (.append 2 (.meth 32 (.loc 0) (.cons (.loc 3) (.cons (.meth 33 (.loc 0) .nil) .nil)))) .nil)) (.cons (.extend 2 (.loc 3)) .nil)) .nil))) (.cons (.addAttr (.loc 0) 1 (.cst (.int 1))) (.cons (.freeze 2) (.cons (.ret (.tup (.cons (.cst (.str [99,108,97,115,115])) (.cons (.call 9 (.cons (.loc 2) .nil)) (.cons (.loc 1) .nil))))) .nil))))))
noncomputable def f_class_range:Ss:=(.cons (.iff (.bop false (.cons (.cmp .ne (.bi .len (.cons (.loc 1) .nil)) (.cst (.int 1))) (.cons (.cmp .ne (.bi .len (.cons (.loc 2) .nil)) (.cst (.int 1))) (.cons (.cmp .ne (.sub (.sub (.loc 1) (.cst (.int 0))) (.cst (.int 0))) (.sub (.sub (.loc 1) (.cst (.int 0))) (.cst (.int 1)))) (.cons (.cmp .ne (.sub (.sub (.loc 2) (.cst (.int 0))) (.cst (.int 0))) (.sub (.sub (.loc 2) (.cst (.int 0))) (.cst (.int 1)))) .nil))))) (.cons (.expr (.call 16 (.cons (.cst (.str [105,110,118,97,108,105,100,32,114,97,110,103,101,32,105,110,32,99,104,97,114,97,99,116,101,114,32,99,108,97,115,115])) .nil))) .nil) .nil) (.cons (.iff (.cmp .gt (.sub (.sub (.loc 1) (.cst (.int 0))) (.cst (.int 0))) (.sub (.sub (.loc 2) (.cst (.int 0))) (.cst (.int 0)))) (.cons (.expr (.call 16 (.cons (.cst (.str [114,97,110,103,101,32,111,117,116,32,111,102,32,111,114,100,101,114,32,105,110,32,99,104,97,114,97,99,116,101,114,32,99,108,97,115,115])) .nil))) .nil) .nil) (.cons (.ret (.tup (.cons (.sub (.sub (.loc 1) (.cst (.int 0))) (.cst (.int 0))) (.cons (.sub (.sub (.loc 2) (.cst (.int 0))) (.cst (.int 0))) .nil)))) .nil)))
noncomputable def f_class_atom:Ss:=(.cons (.asg 1 (.meth 20 (.loc 0) .nil)) (.cons (.iff (.cmp .eq (.loc 1) (.cst (.str []))) (.cons (.expr (.call 16 (.cons (.cst (.str [117,110,116,101,114,109,105,110,97,116,101,100,32,99,104,97,114,97,99,116,101,114,32,99,108,97,115,115])) .nil))) .nil) .nil) (.cons (.iff (.cmp .ne (.loc 1) (.cst (.str [92]))) (.cons (.ret (.tup (.cons (.tup (.cons (.bi .ord (.cons (.loc 1) .nil)) (.cons (.bi .ord (.cons (.loc 1) .nil)) .nil))) .nil))) .nil) .nil) (.cons (.iff (.meth 21 (.loc 0) (.cons (.cst (.str [98])) .nil)) (.cons (.ret (.tup (.cons (.tup (.cons (.cst (.int 8)) (.cons (.cst (.int 8)) .nil))) .nil))) .nil) .nil) (.cons (.asg 2 (.call 13 (.cons (.meth 19 (.loc 0) .nil) .nil))) (.cons (.iff (.cmp .isNot (.loc 2) (.cst (.null))) (.cons (.addAttr (.loc 0) 1 (.cst (.int 1))) (.cons (.ret (.loc 2)) .nil)) .nil) (.cons (.iff (.bop true (.cons (.call 18 (.cons (.meth 19 (.loc 0) .nil) .nil)) (.cons (.cmp .ne (.meth 19 (.loc 0) .nil) (.cst (.str [48]))) .nil))) (.cons (.expr (.call 16 (.cons (.cst (.str [105,110,118,97,108,105,100,32,101,115,99,97,112,101])) .nil))) .nil) .nil) (.cons (.asg 3 (.meth 30 (.loc 0) .nil)) (.cons (.ret (.tup (.cons (.tup (.cons (.loc 3) (.cons (.loc 3) .nil))) .nil))) .nil)))))))))
noncomputable def f_parse_pattern:Ss:=(.cons (.expr (.call 17 (.cons (.loc 1) .nil))) (.cons (.asg 2 (.mkRd (.loc 0))) (.cons (.asg 3 (.meth 22 (.loc 2) .nil)) (.cons (.iff (.cmp .ne (.meth 19 (.loc 2) .nil) (.cst (.str []))) (.cons (.expr (.call 16 (.cons (.cst (.str [117,110,109,97,116,99,104,101,100,32,41])) .nil))) .nil) .nil) (.cons (.iff (.cmp .gt (.attr (.loc 2) 3) (.attr (.loc 2) 2)) (.cons (.expr (.call 16 (.cons (.cst (.str [98,97,99,107,32,114,101,102,101,114,101,110,99,101,32,116,111,32,110,111,32,103,114,111,117,112])) .nil))) .nil) .nil) (.cons (.ret (.tup (.cons (.loc 3) (.cons (.attr (.loc 2) 2) .nil)))) .nil))))))
noncomputable def f_law_pairs:Ss:=(.cons (.ret (.lst (.cons (.tup (.cons (.cst (.str [97,123,50,44,49,125])) (.cons (.cst (.str [97,123,49,44,49,125])) (.cons (.tup (.cons (.cst (.str [114,101,112,101,97,116])) (.cons (.cst (.int 1)) (.cons (.cst (.int 1)) (.cons (.cst (.bool false)) (.cons (.tup (.cons (.cst (.str [99,104,97,114])) (.cons (.cst (.int 97)) .nil))) (.cons (.cst (.int 1)) (.cons (.cst (.int 1)) .nil)))))))) .nil)))) (.cons (.tup (.cons (.cst (.str [97,123,50,44,49,125,63])) (.cons (.cst (.str [97,123,49,44,50,125,63])) (.cons (.tup (.cons (.cst (.str [114,101,112,101,97,116])) (.cons (.cst (.int 1)) (.cons (.cst (.int 2)) (.cons (.cst (.bool true)) (.cons (.tup (.cons (.cst (.str [99,104,97,114])) (.cons (.cst (.int 97)) .nil))) (.cons (.cst (.int 1)) (.cons (.cst (.int 1)) .nil)))))))) .nil)))) (.cons (.tup (.cons (.cst (.str [97,123])) (.cons (.cst (.str [97,123,48,125])) (.cons (.tup (.cons (.cst (.str [114,101,112,101,97,116])) (.cons (.cst (.int 0)) (.cons (.cst (.int 0)) (.cons (.cst (.bool false)) (.cons (.tup (.cons (.cst (.str [99,104,97,114])) (.cons (.cst (.int 97)) .nil))) (.cons (.cst (.int 1)) (.cons (.cst (.int 1)) .nil)))))))) .nil)))) (.cons (.tup (.cons (.cst (.str [97,123,51])) (.cons (.cst (.str [97,123,51,125])) (.cons (.tup (.cons (.cst (.str [114,101,112,101,97,116])) (.cons (.cst (.int 3)) (.cons (.cst (.int 3)) (.cons (.cst (.bool false)) (.cons (.tup (.cons (.cst (.str [99,104,97,114])) (.cons (.cst (.int 97)) .nil))) (.cons (.cst (.int 1)) (.cons (.cst (.int 1)) .nil)))))))) .nil)))) (.cons (.tup (.cons (.cst (.str [97,123,51,44])) (.cons (.cst (.str [97,123,51,44,125])) (.cons (.tup (.cons (.cst (.str [114,101,112,101,97,116])) (.cons (.cst (.int 3)) (.cons (.cst (.null)) (.cons (.cst (.bool false)) (.cons (.tup (.cons (.cst (.str [99,104,97,114])) (.cons (.cst (.int 97)) .nil))) (.cons (.cst (.int 1)) (.cons (.cst (.int 1)) .nil)))))))) .nil)))) (.cons (.tup (.cons (.cst (.str [97,123,51,44,52])) (.cons (.cst (.str [97,123,51,44,49,52,125])) (.cons (.tup (.cons (.cst (.str [114,101,112,101,97,116])) (.cons (.cst (.int 3)) (.cons (.cst (.int 14)) (.cons (.cst (.bool false)) (.cons (.tup (.cons (.cst (.str [99,104,97,114])) (.cons (.cst (.int 97)) .nil))) (.cons (.cst (.int 1)) (.cons (.cst (.int 1)) .nil)))))))) .nil)))) (.cons (.tup (.cons (.cst (.str [97,123,44,52,125])) (.cons (.cst (.str [97,123,48,44,52,125])) (.cons (.tup (.cons (.cst (.str [114,101,112,101,97,116])) (.cons (.cst (.int 0)) (.cons (.cst (.int 4)) (.cons (.cst (.bool false)) (.cons (.tup (.cons (.cst (.str [99,104,97,114])) (.cons (.cst (.int 97)) .nil))) (.cons (.cst (.int 1)) (.cons (.cst (.int 1)) .nil)))))))) .nil)))) (.cons (.tup (.cons (.cst (.str [97,123,120,125])) (.cons (.cst (.str [97,43])) (.cons (.tup (.cons (.cst (.str [114,101,112,101,97,116])) (.cons (.cst (.int 1)) (.cons (.cst (.null)) (.cons (.cst (.bool false)) (.cons (.tup (.cons (.cst (.str [99,104,97,114])) (.cons (.cst (.int 97)) .nil))) (.cons (.cst (.int 1)) (.cons (.cst (.int 1)) .nil)))))))) .nil)))) (.cons (.tup (.cons (.cst (.str [42])) (.cons (.cst (.str [97,42])) (.cons (.tup (.cons (.cst (.str [114,101,112,101,97,116])) (.cons (.cst (.int 0)) (.cons (.cst (.null)) (.cons (.cst (.bool false)) (.cons (.tup (.cons (.cst (.str [99,104,97,114])) (.cons (.cst (.int 97)) .nil))) (.cons (.cst (.int 1)) (.cons (.cst (.int 1)) .nil)))))))) .nil)))) (.cons (.tup (.cons (.cst (.str [43])) (.cons (.cst (.str [97,43,63])) (.cons (.tup (.cons (.cst (.str [114,101,112,101,97,116])) (.cons (.cst (.int 1)) (.cons (.cst (.null)) (.cons (.cst (.bool true)) (.cons (.tup (.cons (.cst (.str [99,104,97,114])) (.cons (.cst (.int 97)) .nil))) (.cons (.cst (.int 1)) (.cons (.cst (.int 1)) .nil)))))))) .nil)))) (.cons (.tup (.cons (.cst (.str [63])) (.cons (.cst (.str [97,63,63])) (.cons (.tup (.cons (.cst (.str [114,101,112,101,97,116])) (.cons (.cst (.int 0)) (.cons (.cst (.int 1)) (.cons (.cst (.bool true)) (.cons (.tup (.cons (.cst (.str [99,104,97,114])) (.cons (.cst (.int 97)) .nil))) (.cons (.cst (.int 1)) (.cons (.cst (.int 1)) .nil)))))))) .nil)))) (.cons (.tup (.cons (.cst (.str [97,63,63,63])) (.cons (.cst (.str [97,63])) (.cons (.tup (.cons (.cst (.str [114,101,112,101,97,116])) (.cons (.cst (.int 0)) (.cons (.cst (.int 1)) (.cons (.cst (.bool false)) (.cons (.tup (.cons (.cst (.str [99,104,97,114])) (.cons (.cst (.int 97)) .nil))) (.cons (.cst (.int 1)) (.cons (.cst (.int 1)) .nil)))))))) .nil)))) (.cons (.tup (.cons (.cst (.str [97,123,49,125,123,50,125])) (.cons (.cst (.str [97,123,49,48,125])) (.cons (.tup (.cons (.cst (.str [114,101,112,101,97,116])) (.cons (.cst (.int 10)) (.cons (.cst (.int 10)) (.cons (.cst (.bool false)) (.cons (.tup (.cons (.cst (.str [99,104,97,114])) (.cons (.cst (.int 97)) .nil))) (.cons (.cst (.int 1)) (.cons (.cst (.int 1)) .nil)))))))) .nil)))) (.cons (.tup (.cons (.cst (.str [123,49,125])) (.cons (.cst (.str [92,123])) (.cons (.tup (.cons (.cst (.str [99,104,97,114])) (.cons (.cst (.int 123)) .nil))) .nil)))) (.cons (.tup (.cons (.cst (.str [125])) (.cons (.cst (.str [92,125])) (.cons (.tup (.cons (.cst (.str [99,104,97,114])) (.cons (.cst (.int 125)) .nil))) .nil)))) (.cons (.tup (.cons (.cst (.str [93])) (.cons (.cst (.str [92,93])) (.cons (.tup (.cons (.cst (.str [99,104,97,114])) (.cons (.cst (.int 93)) .nil))) .nil)))) (.cons (.tup (.cons (.cst (.str [41])) (.cons (.cst (.str [92,41])) (.cons (.tup (.cons (.cst (.str [99,104,97,114])) (.cons (.cst (.int 41)) .nil))) .nil)))) (.cons (.tup (.cons (.cst (.str [40,97])) (.cons (.cst (.str [40,63,58,97,41])) (.cons (.tup (.cons (.cst (.str [103,114,111,117,112])) (.cons (.cst (.null)) (.cons (.tup (.cons (.cst (.str [115,101,113])) (.cons (.tup (.cons (.tup (.cons (.cst (.str [99,104,97,114])) (.cons (.cst (.int 97)) .nil))) .nil)) .nil))) .nil)))) .nil)))) (.cons (.tup (.cons (.cst (.str [40,63,58,97])) (.cons (.cst (.str [40,63,58,41])) (.cons (.tup (.cons (.cst (.str [103,114,111,117,112])) (.cons (.cst (.null)) (.cons (.tup (.cons (.cst (.str [115,101,113])) (.cons (.tup .nil) .nil))) .nil)))) .nil)))) (.cons (.tup (.cons (.cst (.str [40,63,97,41])) (.cons (.cst (.str [40,97,41])) (.cons (.tup (.cons (.cst (.str [103,114,111,117,112])) (.cons (.cst (.int 1)) (.cons (.tup (.cons (.cst (.str [115,101,113])) (.cons (.tup (.cons (.tup (.cons (.cst (.str [99,104,97,114])) (.cons (.cst (.int 97)) .nil))) .nil)) .nil))) .nil)))) .nil)))) (.cons (.tup (.cons (.cst (.str [40,63,61,97])) (.cons (.cst (.str [40,63,61,97,41])) (.cons (.tup (.cons (.cst (.str [108,111,111,107])) (.cons (.cst (.bool false)) (.cons (.tup (.cons (.cst (.str [115,101,113])) (.cons (.tup (.cons (.tup (.cons (.cst (.str [99,104,97,114])) (.cons (.cst (.int 97)) .nil))) .nil)) .nil))) .nil)))) .nil)))) (.cons (.tup (.cons (.cst (.str [40,63,33,97])) (.cons (.cst (.str [40,63,33,41])) (.cons (.tup (.cons (.cst (.str [108,111,111,107])) (.cons (.cst (.bool true)) (.cons (.tup (.cons (.cst (.str [115,101,113])) (.cons (.tup .nil) .nil))) .nil)))) .nil)))) (.cons (.tup (.cons (.cst (.str [40,63,33,97,41,42])) (.cons (.cst (.str [40,63,33,97,124,97,41])) (.cons (.tup (.cons (.cst (.str [108,111,111,107])) (.cons (.cst (.bool true)) (.cons (.tup (.cons (.cst (.str [97,108,116])) (.cons (.tup (.cons (.tup (.cons (.cst (.str [115,101,113])) (.cons (.tup (.cons (.tup (.cons (.cst (.str [99,104,97,114])) (.cons (.cst (.int 97)) .nil))) .nil)) .nil))) (.cons (.tup (.cons (.cst (.str [115,101,113])) (.cons (.tup (.cons (.tup (.cons (.cst (.str [99,104,97,114])) (.cons (.cst (.int 97)) .nil))) .nil)) .nil))) .nil))) .nil))) .nil)))) .nil)))) (.cons (.tup (.cons (.cst (.str [94,43])) (.cons (.cst (.str [94])) (.cons (.tup (.cons (.cst (.str [115,116,97,114,116])) .nil)) .nil)))) (.cons (.tup (.cons (.cst (.str [36,63])) (.cons (.cst (.str [36])) (.cons (.tup (.cons (.cst (.str [101,110,100])) .nil)) .nil)))) (.cons (.tup (.cons (.cst (.str [92,98,42])) (.cons (.cst (.str [92,98])) (.cons (.tup (.cons (.cst (.str [98,111,117,110,100,97,114,121])) (.cons (.cst (.bool false)) .nil))) .nil)))) (.cons (.tup (.cons (.cst (.str [92,66,123,49,125])) (.cons (.cst (.str [92,66])) (.cons (.tup (.cons (.cst (.str [98,111,117,110,100,97,114,121])) (.cons (.cst (.bool true)) .nil))) .nil)))) (.cons (.tup (.cons (.cst (.str [91,98,45,97,93])) (.cons (.cst (.str [91,97,45,97,93])) (.cons (.tup (.cons (.cst (.str [99,108,97,115,115])) (.cons (.tup (.cons (.tup (.cons (.cst (.int 97)) (.cons (.cst (.int 97)) .nil))) .nil)) (.cons (.cst (.bool false)) .nil)))) .nil)))) (.cons (.tup (.cons (.cst (.str [91,97])) (.cons (.cst (.str [91,97,93])) (.cons (.tup (.cons (.cst (.str [99,108,97,115,115])) (.cons (.tup (.cons (.tup (.cons (.cst (.int 97)) (.cons (.cst (.int 97)) .nil))) .nil)) (.cons (.cst (.bool false)) .nil)))) .nil)))) (.cons (.tup (.cons (.cst (.str [91])) (.cons (.cst (.str [91,93])) (.cons (.tup (.cons (.cst (.str [99,108,97,115,115])) (.cons (.tup .nil) (.cons (.cst (.bool false)) .nil)))) .nil)))) (.cons (.tup (.cons (.cst (.str [91,94])) (.cons (.cst (.str [91,94,93])) (.cons (.tup (.cons (.cst (.str [99,108,97,115,115])) (.cons (.tup .nil) (.cons (.cst (.bool true)) .nil)))) .nil)))) (.cons (.tup (.cons (.cst (.str [91,92])) (.cons (.cst (.str [91,92,92,93])) (.cons (.tup (.cons (.cst (.str [99,108,97,115,115])) (.cons (.tup (.cons (.tup (.cons (.cst (.int 92)) (.cons (.cst (.int 92)) .nil))) .nil)) (.cons (.cst (.bool false)) .nil)))) .nil)))) (.cons (.tup (.cons (.cst (.str [91,92,100,45,97,93])) (.cons (.cst (.str [91,92,100,92,45,97,93])) (.cons (.tup (.cons (.cst (.str [99,108,97,115,115])) (.cons (.tup (.cons (.tup (.cons (.cst (.int 45)) (.cons (.cst (.int 45)) .nil))) (.cons (.tup (.cons (.cst (.int 48)) (.cons (.cst (.int 57)) .nil))) (.cons (.tup (.cons (.cst (.int 97)) (.cons (.cst (.int 97)) .nil))) .nil)))) (.cons (.cst (.bool false)) .nil)))) .nil)))) (.cons (.tup (.cons (.cst (.str [91,97,45,92,119,93])) (.cons (.cst (.str [91,97,92,45,99,45,93])) (.cons (.tup (.cons (.cst (.str [99,108,97,115,115])) (.cons (.tup (.cons (.tup (.cons (.cst (.int 45)) (.cons (.cst (.int 45)) .nil))) (.cons (.tup (.cons (.cst (.int 97)) (.cons (.cst (.int 97)) .nil))) (.cons (.tup (.cons (.cst (.int 99)) (.cons (.cst (.int 99)) .nil))) .nil)))) (.cons (.cst (.bool false)) .nil)))) .nil)))) (.cons (.tup (.cons (.cst (.str [91,45,45,33,93])) (.cons (.cst (.str [91,33,45,45,93])) (.cons (.tup (.cons (.cst (.str [99,108,97,115,115])) (.cons (.tup (.cons (.tup (.cons (.cst (.int 33)) (.cons (.cst (.int 45)) .nil))) .nil)) (.cons (.cst (.bool false)) .nil)))) .nil)))) (.cons (.tup (.cons (.cst (.str [91,92,49,93])) (.cons (.cst (.str [91,92,48,45,92,120,48,50,93])) (.cons (.tup (.cons (.cst (.str [99,108,97,115,115])) (.cons (.tup (.cons (.tup (.cons (.cst (.int 0)) (.cons (.cst (.int 2)) .nil))) .nil)) (.cons (.cst (.bool false)) .nil)))) .nil)))) (.cons (.tup (.cons (.cst (.str [92])) (.cons (.cst (.str [92,92])) (.cons (.tup (.cons (.cst (.str [99,104,97,114])) (.cons (.cst (.int 92)) .nil))) .nil)))) (.cons (.tup (.cons (.cst (.str [92,97])) (.cons (.cst (.str [92,45])) (.cons (.tup (.cons (.cst (.str [99,104,97,114])) (.cons (.cst (.int 45)) .nil))) .nil)))) (.cons (.tup (.cons (.cst (.str [92,95])) (.cons (.cst (.str [92,36])) (.cons (.tup (.cons (.cst (.str [99,104,97,114])) (.cons (.cst (.int 36)) .nil))) .nil)))) (.cons (.tup (.cons (.cst (.str [92,48,49])) (.cons (.cst (.str [92,48,97])) (.cons (.cst (.null)) .nil)))) (.cons (.tup (.cons (.cst (.str [92,99])) (.cons (.cst (.str [92,99,97])) (.cons (.tup (.cons (.cst (.str [99,104,97,114])) (.cons (.cst (.int 1)) .nil))) .nil)))) (.cons (.tup (.cons (.cst (.str [92,99,49])) (.cons (.cst (.str [92,99,90])) (.cons (.tup (.cons (.cst (.str [99,104,97,114])) (.cons (.cst (.int 26)) .nil))) .nil)))) (.cons (.tup (.cons (.cst (.str [92,99,91])) (.cons (.cst (.str [92,91])) (.cons (.tup (.cons (.cst (.str [99,104,97,114])) (.cons (.cst (.int 91)) .nil))) .nil)))) (.cons (.tup (.cons (.cst (.str [92,120,49])) (.cons (.cst (.str [92,120,49,102])) (.cons (.tup (.cons (.cst (.str [99,104,97,114])) (.cons (.cst (.int 31)) .nil))) .nil)))) (.cons (.tup (.cons (.cst (.str [92,120,103,48])) (.cons (.cst (.str [92,120,65,98])) (.cons (.tup (.cons (.cst (.str [99,104,97,114])) (.cons (.cst (.int 171)) .nil))) .nil)))) (.cons (.tup (.cons (.cst (.str [92,117,49,50,51])) (.cons (.cst (.str [92,117,49,50,97,70])) (.cons (.tup (.cons (.cst (.str [99,104,97,114])) (.cons (.cst (.int 4783)) .nil))) .nil)))) (.cons (.tup (.cons (.cst (.str [92,117,48,48,103,48])) (.cons (.cst (.str [92,118])) (.cons (.tup (.cons (.cst (.str [99,104,97,114])) (.cons (.cst (.int 11)) .nil))) .nil)))) (.cons (.tup (.cons (.cst (.str [92,57])) (.cons (.cst (.str [92,116])) (.cons (.tup (.cons (.cst (.str [99,104,97,114])) (.cons (.cst (.int 9)) .nil))) .nil)))) (.cons (.tup (.cons (.cst (.str [91,92,66,93])) (.cons (.cst (.str [91,92,98,93])) (.cons (.tup (.cons (.cst (.str [99,108,97,115,115])) (.cons (.tup (.cons (.tup (.cons (.cst (.int 8)) (.cons (.cst (.int 8)) .nil))) .nil)) (.cons (.cst (.bool false)) .nil)))) .nil)))) (.cons (.tup (.cons (.cst (.str [92,49,48])) (.cons (.cst (.str [92,102])) (.cons (.tup (.cons (.cst (.str [99,104,97,114])) (.cons (.cst (.int 12)) .nil))) .nil)))) (.cons (.tup (.cons (.cst (.str [91,92,50,45,51,93])) (.cons (.cst (.str [91,50,45,51,93])) (.cons (.tup (.cons (.cst (.str [99,108,97,115,115])) (.cons (.tup (.cons (.tup (.cons (.cst (.int 50)) (.cons (.cst (.int 51)) .nil))) .nil)) (.cons (.cst (.bool false)) .nil)))) .nil)))) .nil))))))))))))))))))))))))))))))))))))))))))))))))))))) .nil)
noncomputable def f_law_cases:Ss:=(.cons (.ret (.dct [.int 97,.int 122,.int 65,.int 90,.int 48,.int 95,.int 224,.int 254,.int 247,.int 215,.int 223,.int 255,.int 376,.int 181,.int 924,.int 956,.int 305,.int 383,.int 304,.int 329,.int 962,.int 963,.int 931,.int 1072,.int 1040,.int 257,.int 256,.int 107,.int 115,.int 105,.int 73,.int 83] (.cons (.cst (.int 65)) (.cons (.cst (.int 90)) (.cons (.cst (.int 65)) (.cons (.cst (.int 90)) (.cons (.cst (.int 48)) (.cons (.cst (.int 95)) (.cons (.cst (.int 192)) (.cons (.cst (.int 222)) (.cons (.cst (.int 247)) (.cons (.cst (.int 215)) (.cons (.cst (.int 223)) (.cons (.cst (.int 376)) (.cons (.cst (.int 376)) (.cons (.cst (.int 924)) (.cons (.cst (.int 924)) (.cons (.cst (.int 924)) (.cons (.cst (.int 305)) (.cons (.cst (.int 383)) (.cons (.cst (.int 304)) (.cons (.cst (.int 329)) (.cons (.cst (.int 931)) (.cons (.cst (.int 931)) (.cons (.cst (.int 931)) (.cons (.cst (.int 1040)) (.cons (.cst (.int 1040)) (.cons (.cst (.int 256)) (.cons (.cst (.int 256)) (.cons (.cst (.int 75)) (.cons (.cst (.int 83)) (.cons (.cst (.int 73)) (.cons (.cst (.int 73)) (.cons (.cst (.int 83)) .nil)))))))))))))))))))))))))))))))))) .nil)
noncomputable def f_law_take:Ss:=(.cons (.iff (.cmp .gt (.boxLen (.sub (.loc 0) (.cst (.int 0)))) (.cst (.int 0))) (.cons (.ret (.bin .mod (.popBox (.sub (.loc 0) (.cst (.int 0)))) (.loc 1))) .nil) .nil) (.cons (.setBox (.loc 0) (.bin .mod (.bin .add (.bin .mul (.sub (.loc 0) (.cst (.int 1))) (.cst (.int 4093))) (.cst (.int 12289))) (.cst (.int 1000003)))) (.cons (.ret (.bin .mod (.bin .fdiv (.sub (.loc 0) (.cst (.int 1))) (.cst (.int 8))) (.loc 1))) .nil)))
noncomputable def f_law_pair_right:Ss:=(.cons (.asgT [1,2,3] (.sub (.call 35 .nil) (.call 37 (.cons (.loc 0) (.cons (.bi .len (.cons (.call 35 .nil) .nil)) .nil))))) (.cons (.asg 4 (.tup (.cons (.cst (.str [99,108,97,115,115])) (.cons (.tup (.cons (.tup (.cons (.cst (.int 48)) (.cons (.cst (.int 57)) .nil))) .nil)) (.cons (.cst (.bool false)) .nil))))) (.cons (.asgT [5,6] (.sub (.lst (.cons (.tup (.cons (.cst (.str [])) (.cons (.tup .nil) .nil))) (.cons (.tup (.cons (.cst (.str [46])) (.cons (.tup (.cons (.tup (.cons (.cst (.str [97,110,121])) .nil)) .nil)) .nil))) (.cons (.tup (.cons (.cst (.str [120,92,100])) (.cons (.tup (.cons (.tup (.cons (.cst (.str [99,104,97,114])) (.cons (.cst (.int 120)) .nil))) (.cons (.loc 4) .nil))) .nil))) .nil)))) (.call 37 (.cons (.loc 0) (.cons (.cst (.int 3)) .nil))))) (.cons (.asg 7 (.sub (.lst (.cons (.cst (.str [])) (.cons (.cst (.str [103])) (.cons (.cst (.str [105,109])) (.cons (.cst (.str [109,103,105])) .nil))))) (.call 37 (.cons (.loc 0) (.cons (.cst (.int 4)) .nil))))) (.cons (.iff (.cmp .ne (.heard (.call 34 (.cons (.bin .add (.ite (.cmp .eq (.loc 5) (.cst (.str []))) (.loc 5) (.bin .add (.loc 5) (.cst (.str [124])))) (.loc 1)) (.cons (.loc 7) .nil)))) (.cst (.str [83,121,110,116,97,120,69,114,114,111,114]))) (.cons (.ret (.cst (.bool false))) .nil) .nil) (.cons (.asg 8 (.ite (.cmp .is (.loc 3) (.cst (.null))) (.tup (.cons (.tup (.cons (.cst (.str [99,104,97,114])) (.cons (.cst (.int 0)) .nil))) (.cons (.tup (.cons (.cst (.str [99,104,97,114])) (.cons (.cst (.int 97)) .nil))) .nil))) (.tup (.cons (.loc 3) .nil)))) (.cons (.asg 9 (.ite (.cmp .eq (.loc 2) (.cst (.str [40,97,41]))) (.cst (.int 1)) (.cst (.int 0)))) (.cons (.ret (.cmp .eq (.heard (.call 34 (.cons (.bin .add (.loc 5) (.loc 2)) (.cons (.loc 7) .nil)))) (.tup (.cons (.tup (.cons (.cst (.str [115,101,113])) (.cons (.bin .add (.loc 6) (.loc 8)) .nil))) (.cons (.loc 9) .nil))))) .nil))))))))
noncomputable def f_law_lots_right:Ss:=(.cons (.asg 1 (.sub (.lst (.cons (.cst (.int 0)) (.cons (.bin .sub (.cst (.int 65535)) (.cst (.int 39))) .nil))) (.call 37 (.cons (.loc 0) (.cons (.cst (.int 2)) .nil))))) (.cons (.own2 2 3 40) (.cons (.forr [4] (.range (.call 37 (.cons (.loc 0) (.cons (.cst (.int 5)) .nil)))) (.cons (.asg 5 (.call 37 (.cons (.loc 0) (.cons (.cst (.int 40)) .nil)))) (.cons (.asg 6 (.bi .min (.cons (.cst (.int 39)) (.cons (.bin .add (.loc 5) (.call 37 (.cons (.loc 0) (.cons (.cst (.int 8)) .nil)))) .nil)))) (.cons (.append 2 (.tup (.cons (.bin .add (.loc 5) (.loc 1)) (.cons (.bin .add (.loc 6) (.loc 1)) .nil)))) (.cons (.setSlice 3 (.loc 5) (.bin .add (.loc 6) (.cst (.int 1))) (.bin .mul (.lst (.cons (.cst (.bool true)) .nil)) (.bin .sub (.bin .add (.loc 6) (.cst (.int 1))) (.loc 5)))) .nil))))) (.cons (.freeze 2) (.cons (.freeze 3) (.cons (.asg 7 (.call 9 (.cons (.loc 2) .nil))) (.cons (.asg 8 (.call 10 (.cons (.loc 7) .nil))) (.cons (.iff (.bop false (.cons (.cmp .ne (.call 9 (.cons (.loc 7) .nil)) (.loc 7)) (.cons (.cmp .ne (.call 10 (.cons (.loc 8) .nil)) (.loc 7)) (.cons (.cmp .gt (.bi .len (.cons (.loc 7) .nil)) (.bi .len (.cons (.loc 2) .nil))) .nil)))) (.cons (.ret (.cst (.bool false))) .nil) .nil) (.cons (.forr [9] (.range (.cst (.int 40))) (.cons (.iff (.bop false (.cons (.cmp .ne (.call 11 (.cons (.loc 7) (.cons (.bin .add (.loc 9) (.loc 1)) .nil))) (.sub (.loc 3) (.loc 9))) (.cons (.cmp .eq (.call 11 (.cons (.loc 8) (.cons (.bin .add (.loc 9) (.loc 1)) .nil))) (.sub (.loc 3) (.loc 9))) .nil))) (.cons (.ret (.cst (.bool false))) .nil) .nil) .nil)) (.cons (.asg 10 (.comp (.cst (.int 1)) [11,12] (.zip (.loc 7) (.slcFrom (.loc 7) (.cst (.int 1)))) (.cons (.cmp .ge (.bin .add (.sub (.loc 11) (.cst (.int 1))) (.cst (.int 1))) (.sub (.loc 12) (.cst (.int 0)))) .nil))) (.cons (.ret (.bop true (.cons (.cmp .eq (.loc 10) (.lst .nil)) (.cons (.not (.call 11 (.cons (.loc 7) (.cons (.cst (.int 1000)) .nil)))) (.cons (.call 11 (.cons (.loc 8) (.cons (.cst (.int 1000)) .nil))) .nil))))) .nil)))))))))))
noncomputable def f_law_cases_right:Ss:=(.cons (.asg 1 (.bi .list (.cons (.call 36 .nil) .nil))) (.cons (.asg 2 (.sub (.loc 1) (.call 37 (.cons (.loc 0) (.cons (.bi .len (.cons (.loc 1) .nil)) .nil))))) (.cons (.asg 3 (.comp (.sub (.loc 1) (.call 37 (.cons (.loc 0) (.cons (.bi .len (.cons (.loc 1) .nil)) .nil)))) [5] (.range (.call 37 (.cons (.loc 0) (.cons (.cst (.int 4)) .nil)))) .nil)) (.cons (.iff (.cmp .ne (.comp (.loc 6) [6] (.val (.loc 1)) (.cons (.cmp .ne (.call 14 (.cons (.loc 6) .nil)) (.sub (.call 36 .nil) (.loc 6))) .nil)) (.lst .nil)) (.cons (.ret (.cst (.bool false))) .nil) .nil) (.cons (.asg 4 (.cmp .ne (.comp (.loc 7) [7] (.val (.loc 3)) (.cons (.cmp .eq (.sub (.call 36 .nil) (.loc 7)) (.sub (.call 36 .nil) (.loc 2))) .nil)) (.lst .nil))) (.cons (.ret (.cmp .eq (.call 15 (.cons (.call 9 (.cons (.comp (.tup (.cons (.loc 8) (.cons (.loc 8) .nil))) [8] (.val (.loc 3)) .nil) .nil)) (.cons (.loc 2) .nil))) (.loc 4))) .nil))))))
noncomputable def f_law:Ss:=(.cons (.mkBox 1 (.comp (.bi .int (.cons (.loc 11) .nil)) [11] (.val (.slcTo (.loc 0) (.cst (.int 30)))) .nil) 7) (.cons (.forr [2] (.val (.slcTo (.loc 0) (.cst (.int 30)))) (.cons (.setBox (.loc 1) (.bin .mod (.bin .add (.bin .mul (.sub (.loc 1) (.cst (.int 1))) (.cst (.int 31))) (.loc 2)) (.cst (.int 1000003)))) .nil)) (.cons (.forr [3] (.range (.cst (.int 5))) (.cons (.iff (.not (.call 38 (.cons (.loc 1) .nil))) (.cons (.ret (.cst (.bool false))) .nil) .nil) .nil)) (.cons (.iff (.bop false (.cons (.not (.call 39 (.cons (.loc 1) .nil))) (.cons (.not (.call 40 (.cons (.loc 1) .nil))) .nil))) (.cons (.ret (.cst (.bool false))) .nil) .nil) (.cons (.asg 4 (.sub (.cst (.str [100,119,115,68,87,83,98,66,120,117])) (.call 37 (.cons (.loc 1) (.cons (.cst (.int 10)) .nil))))) (.cons (.asg 5 (.call 13 (.cons (.loc 4) .nil))) (.cons (.asg 6 (.dct [.str [100],.str [119],.str [115],.str [68],.str [87],.str [83]] (.cons (.cst (.str [68])) (.cons (.cst (.str [87])) (.cons (.cst (.str [83])) (.cons (.cst (.str [100])) (.cons (.cst (.str [119])) (.cons (.cst (.str [115])) .nil)))))))) (.cons (.iff (.bop false (.cons (.cmp .ne (.cmp .is (.loc 5) (.cst (.null))) (.cmp .isIn (.loc 4) (.cst (.str [98,66,120,117])))) (.cons (.bop true (.cons (.cmp .isNot (.loc 5) (.cst (.null))) (.cons (.cmp .ne (.call 10 (.cons (.loc 5) .nil)) (.call 13 (.cons (.sub (.loc 6) (.loc 4)) .nil))) .nil))) .nil))) (.cons (.ret (.cst (.bool false))) .nil) .nil) (.cons (.asg 7 (.lst (.cons (.cst (.int 47)) (.cons (.cst (.int 48)) (.cons (.cst (.int 57)) (.cons (.cst (.int 58)) (.cons (.cst (.int 64)) (.cons (.cst (.int 65)) (.cons (.cst (.int 90)) (.cons (.cst (.int 91)) (.cons (.cst (.int 94)) (.cons (.cst (.int 95)) (.cons (.cst (.int 96)) (.cons (.cst (.int 97)) (.cons (.cst (.int 122)) (.cons (.cst (.int 123)) (.cons (.cst (.int 170)) (.cons (.cst (.int 9)) (.cons (.cst (.int 13)) (.cons (.cst (.int 14)) (.cons (.cst (.int 31)) (.cons (.cst (.int 32)) (.cons (.cst (.int 160)) (.cons (.cst (.int 8202)) (.cons (.cst (.int 65279)) .nil))))))))))))))))))))))))) (.cons (.asg 8 (.sub (.loc 7) (.call 37 (.cons (.loc 1) (.cons (.cst (.int 23)) .nil))))) (.cons (.iff (.cmp .ne (.call 12 (.cons (.loc 8) .nil)) (.cmp .isIn (.bi .chr (.cons (.loc 8) .nil)) (.cst (.str [48,49,50,51,52,53,54,55,56,57,95,65,66,67,68,69,70,71,72,73,74,75,76,77,78,79,80,81,82,83,84,85,86,87,88,89,90,97,98,99,100,101,102,103,104,105,106,107,108,109,110,111,112,113,114,115,116,117,118,119,120,121,122])))) (.cons (.ret (.cst (.bool false))) .nil) .nil) (.cons (.iff (.cmp .ne (.call 11 (.cons (.call 13 (.cons (.cst (.str [115])) .nil)) (.cons (.loc 8) .nil))) (.cmp .isIn (.loc 8) (.tup (.cons (.cst (.int 9)) (.cons (.cst (.int 13)) (.cons (.cst (.int 32)) (.cons (.cst (.int 160)) (.cons (.cst (.int 8202)) (.cons (.cst (.int 65279)) .nil))))))))) (.cons (.ret (.cst (.bool false))) .nil) .nil) (.cons (.iff (.cmp .ne (.call 11 (.cons (.call 13 (.cons (.cst (.str [100])) .nil)) (.cons (.loc 8) .nil))) (.chain .le .lt (.cst (.int 48)) (.loc 8) (.cst (.int 58)))) (.cons (.ret (.cst (.bool false))) .nil) .nil) (.cons (.asg 9 (.sub (.lst (.cons (.cst (.str [])) (.cons (.cst (.str [103])) (.cons (.cst (.str [105])) (.cons (.cst (.str [109])) (.cons (.cst (.str [103,105,109])) (.cons (.cst (.str [103,103])) (.cons (.cst (.str [120])) (.cons (.cst (.str [103,105,109,103])) .nil))))))))) (.call 37 (.cons (.loc 1) (.cons (.cst (.int 8)) .nil))))) (.cons (.asg 10 (.ite (.cmp .isIn (.loc 9) (.tup (.cons (.cst (.str [103,103])) (.cons (.cst (.str [120])) (.cons (.cst (.str [103,105,109,103])) .nil))))) (.cst (.str [83,121,110,116,97,120,69,114,114,111,114])) (.tup (.cons (.cmp .isIn (.cst (.str [103])) (.loc 9)) (.cons (.cmp .isIn (.cst (.str [105])) (.loc 9)) (.cons (.cmp .isIn (.cst (.str [109])) (.loc 9)) .nil)))))) (.cons (.ret (.cmp .eq (.heard (.call 17 (.cons (.loc 9) .nil))) (.loc 10))) .nil))))))))))))))))
noncomputable def fT:Nat→Fn
  | 0=>⟨2,4,f_is_among,0⟩
  | 1=>⟨1,1,f_is_digit,0⟩
  | 2=>⟨1,1,f_hex_value,0⟩
  | 3=>⟨1,1,f_is_id_start,0⟩
  | 4=>⟨1,1,f_is_id_part,0⟩
  | 5=>⟨2,2,f_code_at,0⟩
  | 6=>⟨3,6,f_hex_at,0⟩
  | 7=>⟨1,4,f_small_code,0⟩
  | 8=>⟨1,4,f_great_code,0⟩
  | 9=>⟨1,5,f_merged,0⟩
  | 10=>⟨1,5,f_inverted,0⟩
  | 11=>⟨2,5,f_has,0⟩
  | 12=>⟨1,1,f_is_word,0⟩
  | 13=>⟨1,3,f_named_lot,0⟩
  | 14=>⟨1,2,f_canon,0⟩
  | 15=>⟨2,6,f_has_folded,0⟩
  | 16=>⟨1,1,f_fail,1⟩
  | 17=>⟨1,2,f_parse_flags,0⟩
  | 18=>⟨1,1,f_is_decimal,0⟩
  | 19=>⟨1,1,f_sign,0⟩
  | 20=>⟨1,2,f_take,0⟩
  | 21=>⟨2,2,f_skip,0⟩
  | 22=>⟨1,2,f_disjunction,0⟩
  | 23=>⟨1,2,f_alternative,0⟩
  | 24=>⟨1,6,f_term,0⟩
  | 25=>⟨1,2,f_within,0⟩
  | 26=>⟨1,3,f_often,0⟩
  | 27=>⟨1,2,f_number,0⟩
  | 28=>⟨1,3,f_atom,0⟩
  | 29=>⟨1,3,f_atom_escape,0⟩
  | 30=>⟨1,5,f_escaped_sign,0⟩
  | 31=>⟨1,4,f_sign_class,0⟩
  | 32=>⟨3,3,f_class_range,0⟩
  | 33=>⟨1,4,f_class_atom,0⟩
  | 34=>⟨2,4,f_parse_pattern,2⟩
  | 35=>⟨0,0,f_law_pairs,0⟩
  | 36=>⟨0,0,f_law_cases,0⟩
  | 37=>⟨2,2,f_law_take,0⟩
  | 38=>⟨1,10,f_law_pair_right,0⟩
  | 39=>⟨1,13,f_law_lots_right,0⟩
  | 40=>⟨1,9,f_law_cases_right,0⟩
  | 41=>⟨1,12,f_law,0⟩
  | _=>⟨0,0,.cons (.ret (.neg (.cst .null))) .nil,0⟩
noncomputable def faT:Nat→Addr
  | 0=>61
  | 1=>68
  | 2=>75
  | 3=>82
  | 4=>89
  | 5=>96
  | 6=>103
  | 7=>138
  | 8=>145
  | 9=>171
  | 10=>178
  | 11=>185
  | 12=>192
  | 13=>199
  | 14=>206
  | 15=>211
  | 16=>253
  | 17=>260
  | 18=>267
  | 19=>288
  | 20=>295
  | 21=>302
  | 22=>309
  | 23=>316
  | 24=>323
  | 25=>330
  | 26=>337
  | 27=>344
  | 28=>351
  | 29=>358
  | 30=>365
  | 31=>372
  | 32=>379
  | 33=>386
  | 34=>400
  | 35=>407
  | 36=>414
  | 37=>421
  | 38=>435
  | 39=>440
  | 40=>445
  | 41=>450
  | _=>0
noncomputable def slT:Nat→List Str
  | 0=>["code","ranges","first","last"]
  | 1=>["code"]
  | 2=>["code"]
  | 3=>["code"]
  | 4=>["code"]
  | 5=>["text","at"]
  | 6=>["text","at","many","value","step","figure"]
  | 7=>["code","first","last","way"]
  | 8=>["code","first","last","way"]
  | 9=>["pairs","found","first","last","before"]
  | 10=>["ranges","found","at","first","last"]
  | 11=>["ranges","code","low","high","middle"]
  | 12=>["code"]
  | 13=>["letter","lots","small"]
  | 14=>["code","great"]
  | 15=>["ranges","code","great","some"]
  | 16=>["text"]
  | 17=>["flags","sign"]
  | 18=>["sign"]
  | 19=>["self"]
  | 20=>["self","found"]
  | 21=>["self","word"]
  | 22=>["self","found"]
  | 23=>["self","found"]
  | 24=>["self","word","tree","first","atom","often"]
  | 25=>["self","found"]
  | 26=>["self","least","most"]
  | 27=>["self","begin"]
  | 28=>["self","sign","number"]
  | 29=>["self","number","lot"]
  | 30=>["self","sign","letter","many","code"]
  | 31=>["self","is_negated","pairs","first"]
  | 32=>["self","first","last"]
  | 33=>["self","sign","lot","code"]
  | 34=>["text","flags","reader","tree"]
  | 35=>[]
  | 36=>[]
  | 37=>["box","limit"]
  | 38=>["box","bad","good","term","digit","begin","ahead","flags","behind","many"]
  | 39=>["box","offset","pairs","row","turn","first","last","lot","other","at","touching"]
  | 40=>["box","codes","code","some","due"]
  | 41=>["script","box","one","turn","letter","lot","contrary","codes","code","flags","due"]
  | _=>[]
noncomputable def nmG:Nat→Option Str
  | 0=>some "LETTERS"
  | 1=>some "PARTS"
  | 2=>some "GREAT"
  | 3=>some "TURNS"
  | 4=>some "GREAT_ALONE"
  | 5=>some "SMALL_ALONE"
  | 6=>some "GREAT_WIDE"
  | 7=>some "GREATEST"
  | 8=>some "DIGITS"
  | 9=>some "WORDS"
  | 10=>some "SPACES"
  | 11=>some "SPECIAL"
  | 12=>some "CONTROLS"
  | 13=>some "PLAIN"
  | 14=>some "ENDS"
  | 15=>some "ASSERTIONS"
  | _=>none
noncomputable def nmF:Nat→Option Str
  | 0=>some "is_among"
  | 1=>some "is_digit"
  | 2=>some "hex_value"
  | 3=>some "is_id_start"
  | 4=>some "is_id_part"
  | 5=>some "code_at"
  | 6=>some "hex_at"
  | 7=>some "small_code"
  | 8=>some "great_code"
  | 9=>some "merged"
  | 10=>some "inverted"
  | 11=>some "has"
  | 12=>some "is_word"
  | 13=>some "named_lot"
  | 14=>some "canon"
  | 15=>some "has_folded"
  | 16=>some "fail"
  | 17=>some "parse_flags"
  | 18=>some "is_decimal"
  | 34=>some "parse_pattern"
  | 35=>some "_law_pairs"
  | 36=>some "_law_cases"
  | 37=>some "_law_take"
  | 38=>some "_law_pair_right"
  | 39=>some "_law_lots_right"
  | 40=>some "_law_cases_right"
  | 41=>some "law"
  | _=>none
noncomputable def nmM:Nat→Option Str
  | 19=>some "sign"
  | 20=>some "take"
  | 21=>some "skip"
  | 22=>some "disjunction"
  | 23=>some "alternative"
  | 24=>some "term"
  | 25=>some "within"
  | 26=>some "often"
  | 27=>some "number"
  | 28=>some "atom"
  | 29=>some "atom_escape"
  | 30=>some "escaped_sign"
  | 31=>some "sign_class"
  | 32=>some "class_range"
  | 33=>some "class_atom"
  | _=>none
noncomputable def pairsD:List D:=[.tup [.str [97,123,50,44,49,125],.str [97,123,49,44,49,125],.tup [.str [114,101,112,101,97,116],.int 1,.int 1,.bool false,.tup [.str [99,104,97,114],.int 97],.int 1,.int 1]],.tup [.str [97,123,50,44,49,125,63],.str [97,123,49,44,50,125,63],.tup [.str [114,101,112,101,97,116],.int 1,.int 2,.bool true,.tup [.str [99,104,97,114],.int 97],.int 1,.int 1]],.tup [.str [97,123],.str [97,123,48,125],.tup [.str [114,101,112,101,97,116],.int 0,.int 0,.bool false,.tup [.str [99,104,97,114],.int 97],.int 1,.int 1]],.tup [.str [97,123,51],.str [97,123,51,125],.tup [.str [114,101,112,101,97,116],.int 3,.int 3,.bool false,.tup [.str [99,104,97,114],.int 97],.int 1,.int 1]],.tup [.str [97,123,51,44],.str [97,123,51,44,125],.tup [.str [114,101,112,101,97,116],.int 3,.null,.bool false,.tup [.str [99,104,97,114],.int 97],.int 1,.int 1]],.tup [.str [97,123,51,44,52],.str [97,123,51,44,49,52,125],.tup [.str [114,101,112,101,97,116],.int 3,.int 14,.bool false,.tup [.str [99,104,97,114],.int 97],.int 1,.int 1]],.tup [.str [97,123,44,52,125],.str [97,123,48,44,52,125],.tup [.str [114,101,112,101,97,116],.int 0,.int 4,.bool false,.tup [.str [99,104,97,114],.int 97],.int 1,.int 1]],.tup [.str [97,123,120,125],.str [97,43],.tup [.str [114,101,112,101,97,116],.int 1,.null,.bool false,.tup [.str [99,104,97,114],.int 97],.int 1,.int 1]],.tup [.str [42],.str [97,42],.tup [.str [114,101,112,101,97,116],.int 0,.null,.bool false,.tup [.str [99,104,97,114],.int 97],.int 1,.int 1]],.tup [.str [43],.str [97,43,63],.tup [.str [114,101,112,101,97,116],.int 1,.null,.bool true,.tup [.str [99,104,97,114],.int 97],.int 1,.int 1]],.tup [.str [63],.str [97,63,63],.tup [.str [114,101,112,101,97,116],.int 0,.int 1,.bool true,.tup [.str [99,104,97,114],.int 97],.int 1,.int 1]],.tup [.str [97,63,63,63],.str [97,63],.tup [.str [114,101,112,101,97,116],.int 0,.int 1,.bool false,.tup [.str [99,104,97,114],.int 97],.int 1,.int 1]],.tup [.str [97,123,49,125,123,50,125],.str [97,123,49,48,125],.tup [.str [114,101,112,101,97,116],.int 10,.int 10,.bool false,.tup [.str [99,104,97,114],.int 97],.int 1,.int 1]],.tup [.str [123,49,125],.str [92,123],.tup [.str [99,104,97,114],.int 123]],.tup [.str [125],.str [92,125],.tup [.str [99,104,97,114],.int 125]],.tup [.str [93],.str [92,93],.tup [.str [99,104,97,114],.int 93]],.tup [.str [41],.str [92,41],.tup [.str [99,104,97,114],.int 41]],.tup [.str [40,97],.str [40,63,58,97,41],.tup [.str [103,114,111,117,112],.null,.tup [.str [115,101,113],.tup [.tup [.str [99,104,97,114],.int 97]]]]],.tup [.str [40,63,58,97],.str [40,63,58,41],.tup [.str [103,114,111,117,112],.null,.tup [.str [115,101,113],.tup []]]],.tup [.str [40,63,97,41],.str [40,97,41],.tup [.str [103,114,111,117,112],.int 1,.tup [.str [115,101,113],.tup [.tup [.str [99,104,97,114],.int 97]]]]],.tup [.str [40,63,61,97],.str [40,63,61,97,41],.tup [.str [108,111,111,107],.bool false,.tup [.str [115,101,113],.tup [.tup [.str [99,104,97,114],.int 97]]]]],.tup [.str [40,63,33,97],.str [40,63,33,41],.tup [.str [108,111,111,107],.bool true,.tup [.str [115,101,113],.tup []]]],.tup [.str [40,63,33,97,41,42],.str [40,63,33,97,124,97,41],.tup [.str [108,111,111,107],.bool true,.tup [.str [97,108,116],.tup [.tup [.str [115,101,113],.tup [.tup [.str [99,104,97,114],.int 97]]],.tup [.str [115,101,113],.tup [.tup [.str [99,104,97,114],.int 97]]]]]]],.tup [.str [94,43],.str [94],.tup [.str [115,116,97,114,116]]],.tup [.str [36,63],.str [36],.tup [.str [101,110,100]]],.tup [.str [92,98,42],.str [92,98],.tup [.str [98,111,117,110,100,97,114,121],.bool false]],.tup [.str [92,66,123,49,125],.str [92,66],.tup [.str [98,111,117,110,100,97,114,121],.bool true]],.tup [.str [91,98,45,97,93],.str [91,97,45,97,93],.tup [.str [99,108,97,115,115],.tup [.tup [.int 97,.int 97]],.bool false]],.tup [.str [91,97],.str [91,97,93],.tup [.str [99,108,97,115,115],.tup [.tup [.int 97,.int 97]],.bool false]],.tup [.str [91],.str [91,93],.tup [.str [99,108,97,115,115],.tup [],.bool false]],.tup [.str [91,94],.str [91,94,93],.tup [.str [99,108,97,115,115],.tup [],.bool true]],.tup [.str [91,92],.str [91,92,92,93],.tup [.str [99,108,97,115,115],.tup [.tup [.int 92,.int 92]],.bool false]],.tup [.str [91,92,100,45,97,93],.str [91,92,100,92,45,97,93],.tup [.str [99,108,97,115,115],.tup [.tup [.int 45,.int 45],.tup [.int 48,.int 57],.tup [.int 97,.int 97]],.bool false]],.tup [.str [91,97,45,92,119,93],.str [91,97,92,45,99,45,93],.tup [.str [99,108,97,115,115],.tup [.tup [.int 45,.int 45],.tup [.int 97,.int 97],.tup [.int 99,.int 99]],.bool false]],.tup [.str [91,45,45,33,93],.str [91,33,45,45,93],.tup [.str [99,108,97,115,115],.tup [.tup [.int 33,.int 45]],.bool false]],.tup [.str [91,92,49,93],.str [91,92,48,45,92,120,48,50,93],.tup [.str [99,108,97,115,115],.tup [.tup [.int 0,.int 2]],.bool false]],.tup [.str [92],.str [92,92],.tup [.str [99,104,97,114],.int 92]],.tup [.str [92,97],.str [92,45],.tup [.str [99,104,97,114],.int 45]],.tup [.str [92,95],.str [92,36],.tup [.str [99,104,97,114],.int 36]],.tup [.str [92,48,49],.str [92,48,97],.null],.tup [.str [92,99],.str [92,99,97],.tup [.str [99,104,97,114],.int 1]],.tup [.str [92,99,49],.str [92,99,90],.tup [.str [99,104,97,114],.int 26]],.tup [.str [92,99,91],.str [92,91],.tup [.str [99,104,97,114],.int 91]],.tup [.str [92,120,49],.str [92,120,49,102],.tup [.str [99,104,97,114],.int 31]],.tup [.str [92,120,103,48],.str [92,120,65,98],.tup [.str [99,104,97,114],.int 171]],.tup [.str [92,117,49,50,51],.str [92,117,49,50,97,70],.tup [.str [99,104,97,114],.int 4783]],.tup [.str [92,117,48,48,103,48],.str [92,118],.tup [.str [99,104,97,114],.int 11]],.tup [.str [92,57],.str [92,116],.tup [.str [99,104,97,114],.int 9]],.tup [.str [91,92,66,93],.str [91,92,98,93],.tup [.str [99,108,97,115,115],.tup [.tup [.int 8,.int 8]],.bool false]],.tup [.str [92,49,48],.str [92,102],.tup [.str [99,104,97,114],.int 12]],.tup [.str [91,92,50,45,51,93],.str [91,50,45,51,93],.tup [.str [99,108,97,115,115],.tup [.tup [.int 50,.int 51]],.bool false]]]
noncomputable def casesD:List (Int × D):=[(97,.int 65),(122,.int 90),(65,.int 65),(90,.int 90),(48,.int 48),(95,.int 95),(224,.int 192),(254,.int 222),(247,.int 247),(215,.int 215),(223,.int 223),(255,.int 376),(376,.int 376),(181,.int 924),(924,.int 924),(956,.int 924),(305,.int 305),(383,.int 383),(304,.int 304),(329,.int 329),(962,.int 931),(963,.int 931),(931,.int 931),(1072,.int 1040),(1040,.int 1040),(257,.int 256),(256,.int 256),(107,.int 75),(115,.int 83),(105,.int 73),(73,.int 73),(83,.int 83)]
end Mine
end
section
set_option tactic.hygienic false
open PySem PySem.W PyProof.Rows
namespace Mine
noncomputable abbrev isFrameObj (o:Obj):Prop:=o.cls=.type "frame"
noncomputable abbrev CodeObj (o:Obj):Prop:=o.cls=.type "code"∧∃ vs,o.data=.fields vs

noncomputable def SameObj (o o':Obj):Prop:=o'=o∨(isFrameObj o∧∃ sl,o'={ o with slots:=sl })
theorem SameObj.trans {a b c:Obj} (x:SameObj a b) (y:SameObj b c):SameObj a c:=by
  rcases x with rfl | ⟨hf,sl,rfl⟩
  · exact y
  · rcases y with rfl | ⟨_,sl',rfl⟩
    · exact .inr ⟨hf,sl,rfl⟩
    · exact .inr ⟨hf,sl',rfl⟩
theorem SameObj.data {a b:Obj} (x:SameObj a b):b.data=a.data∧b.cls=a.cls∧b.dict=a.dict:=by
  rcases x with rfl | ⟨_,sl,rfl⟩ <;> exact ⟨rfl,rfl,rfl⟩

noncomputable def Keep (M:List Addr) (h h':Heap):Prop:=∀ b o,b ∉ M→h.get? b=some o→∃ o',h'.get? b=some o'∧SameObj o o'
theorem Keep.refl (M:List Addr) (h:Heap):Keep M h h:=fun _ o _ e=>⟨o,e,.inl rfl⟩
theorem Keep.trans {M:List Addr} {h₁ h₂ h₃:Heap} (x:Keep M h₁ h₂) (y:Keep M h₂ h₃):Keep M h₁ h₃:=fun b o hb e=>by
  refine Xeaa (x b o hb e) fun o₁ e₁ s₁=>?_
  refine Xeaa (y b o₁ hb e₁) fun o₂ e₂ s₂=>?_
  exact ⟨o₂,e₂,s₁.trans s₂⟩
theorem Keep.of {M:List Addr} {h h':Heap} (k:∀ b o,b ∉ M→h.get? b=some o→h'.get? b=some o):Keep M h h':=fun b o hb e=>⟨o,k b o hb e,.inl rfl⟩
theorem Keep.all {M:List Addr} {h h':Heap} (k:∀ b o,h.get? b=some o→h'.get? b=some o):Keep M h h':=.of fun b o _=>k b o
theorem Keep.push {M:List Addr} {h h':Heap} (x:Keep M h h') (o:Obj):Keep M h (h'.push o):=x.trans (.all fun _ _ e=>Heap.get?_push_of_some _ e)
theorem Keep.same {M:List Addr} {h h':Heap} {a:Addr} (hs:Heap.SameBut a h h') (ha:a ∈ M):Keep M h h':=.of fun b o hb e=>(hs.2 b fun q=>hb (q ▸ ha)).trans e
theorem Keep.narrow {M N:List Addr} {h h':Heap} (x:Keep N h h') (hn:∀ a ∈ N,a ∈ M∨h.get? a=none):Keep M h h':=fun b o hb e=>by
  refine x b o (fun q=>?_) e
  rcases hn b q with q | q
  · exact hb q
  · exact nsm q e
theorem Keep.mono {M N:List Addr} {h h':Heap} (x:Keep N h h') (hn:∀ a ∈ N,a ∈ M):Keep M h h':=x.narrow fun a ha=>.inl (hn a ha)
theorem Keep.get {M:List Addr} {h h':Heap} (x:Keep M h h') {b:Addr} {o:Obj} (hb:b ∉ M) (e:h.get? b=some o) (hf:¬ isFrameObj o):h'.get? b=some o:=by
  refine Xeaa (x b o hb e) fun o' e' s=>?_
  rcases s with rfl | ⟨hf',_⟩
  · exact e'
  · exact absurd hf' hf
theorem Keep.none {M:List Addr} {h h':Heap} (x:Keep M h h') {b:Addr} (hb:b ∉ M) (e:h'.get? b=none):h.get? b=none:=by
  cases q:h.get? b with
  | none=>rfl
  | some o=>obtain ⟨o',e',_⟩:=x b o hb q; exact nsm e e'

noncomputable def DataObj (o:Obj):Prop:=o.cls=.type "tuple"∨o.cls=.type "list"∨o.cls=.type "dict"
theorem DataObj.nf {o:Obj} (h:DataObj o):¬ isFrameObj o:=by
  unfold isFrameObj
  rcases h with h | h | h <;> rw [h] <;> simp
noncomputable def Sub (F F':Heap):Prop:=∀ b o,F.get? b=some o→DataObj o→F'.get? b=some o
theorem Sub.refl (F:Heap):Sub F F:=fun _ _ e _=>e
theorem Sub.trans {F₁ F₂ F₃:Heap} (x:Sub F₁ F₂) (y:Sub F₂ F₃):Sub F₁ F₃:=fun b o e hf=>y b o (x b o e hf) hf
noncomputable abbrev fz (h:Heap) (Z:List Addr):Heap:=hideAll h Z
theorem fz_get {h:Heap} {Z:List Addr} {b:Addr} {o:Obj}:(fz h Z).get? b=some o ↔ h.get? b=some o∧b ∉ Z:=by
  refine ⟨fun e=>⟨of_hideAll _ e,fun q=>?_⟩,fun ⟨e,q⟩=>hideAll_get _ e q⟩
  have:=hideAll_none Z (h:=h) q
  exact nsm this e
theorem Sub.step {M Z Z':List Addr} {h h':Heap} (k:Keep M h h') (hM:∀ a ∈ M,a ∈ Z∨h.get? a=none) (hZ:∀ a ∈ Z',a ∈ Z∨h.get? a=none):Sub (fz h Z) (fz h' Z'):=fun b o e hf=>by
  obtain ⟨e,hz⟩:=fz_get.mp e
  have nm:b ∉ M:=fun q=>by
    rcases hM b q with q | q
    · exact hz q
    · exact nsm q e
  refine fz_get.mpr ⟨k.get nm e hf.nf,fun q=>?_⟩
  rcases hZ b q with q | q
  · exact hz q
  · exact nsm q e
theorem Sub.of_fz {h:Heap} {Z Z':List Addr} (hZ:∀ a ∈ Z',a ∈ Z):Sub (fz h Z) (fz h Z'):=fun b o e _=>by
  obtain ⟨e,hz⟩:=fz_get.mp e
  exact fz_get.mpr ⟨e,fun q=>hz (hZ b q)⟩
theorem Sub.to {h:Heap} {Z:List Addr} {b:Addr} {o:Obj} (e:(fz h Z).get? b=some o):h.get? b=some o:=(fz_get.mp e).1

noncomputable abbrev mkS (l:List Nat):Str:=⟨l.toArray⟩

section
variable (prog:Program) (w:World)

mutual
inductive RelD (F:Heap):D→Value→Prop
  | null:RelD F .null .none
  | bool (b:Bool):RelD F (.bool b) (.bool b)
  | int (i:Int) (t:Tok):RelD F (.int i) (.int i t)
  | str (s:List Nat) (t:Tok):RelD F (.str s) (.str (mkS s) t)
  | tup {l:List D} {a:Addr} {xs:List Value}:F.IsTuple a xs.toArray→RelDs F l xs→RelD F (.tup l) (.ref a)
  | lst {l:List D} {a:Addr} {xs:List Value}:F.IsList a xs.toArray→RelDs F l xs→RelD F (.lst l) (.ref a)
  | dcI {l:List (Int × D)} {a:Addr} {kvs:List (Int × Value)}:(a == sysModules)=false→F.DictOf (intKind prog w) a kvs→kvs.map (·.1)=l.map (·.1)→RelDs F (l.map (·.2)) (kvs.map (·.2))→RelD F (.dcI l) (.ref a)
  | dcS {l:List (List Nat × D)} {a:Addr} {kvs:List (Str × Value)}:(a == sysModules)=false→F.DictOf (PySem.strKind prog w) a kvs→kvs.map (·.1)=l.map (fun p=>mkS p.1)→RelDs F (l.map (·.2)) (kvs.map (·.2))→RelD F (.dcS l) (.ref a)
inductive RelDs (F:Heap):List D→List Value→Prop
  | nil:RelDs F [] []
  | cons {d:D} {v:Value} {l:List D} {xs:List Value}:RelD F d v→RelDs F l xs→RelDs F (d :: l) (v :: xs)
end
end

section
variable {prog:Program} {w:World} {F F':Heap}

theorem tuple_sub (k:Sub F F') {a:Addr} {xs:Array Value} (x:F.IsTuple a xs):F'.IsTuple a xs:=let ⟨o,ho,hc,r⟩:=x; ⟨o,k _ _ ho (.inl hc),hc,r⟩
theorem list_sub (k:Sub F F') {a:Addr} {xs:Array Value} (x:F.IsList a xs):F'.IsList a xs:=let ⟨o,ho,hc,r⟩:=x; ⟨o,k _ _ ho (.inr (.inl hc)),hc,r⟩
theorem dict_sub {K:Type} [DecidableEq K] {knd:KeyKind prog w K} (k:Sub F F') {a:Addr} {kvs:List (K × Value)} (x:F.DictOf knd a kvs):F'.DictOf knd a kvs :=
  let ⟨o,es,ep,ho,hc,r⟩:=x; ⟨o,es,ep,k _ _ ho (.inr (.inr hc.1)),hc,r⟩

theorem RelD.mono (k:Sub F F') {d:D} {v:Value} (r:RelD prog w F d v):RelD prog w F' d v :=
  RelD.rec (motive_1:=fun d v _=>RelD prog w F' d v) (motive_2:=fun l xs _=>RelDs prog w F' l xs) .null .bool .int .str (fun h _ r=>.tup (tuple_sub k h) r) (fun h _ r=>.lst (list_sub k h) r) (fun n h e _ r=>.dcI n (dict_sub k h) e r) (fun n h e _ r=>.dcS n (dict_sub k h) e r) .nil (fun _ _ a b=>.cons a b) r
theorem RelDs.mono (k:Sub F F') {l:List D} {xs:List Value} (r:RelDs prog w F l xs):RelDs prog w F' l xs :=
  RelDs.rec (motive_1:=fun d v _=>RelD prog w F' d v) (motive_2:=fun l xs _=>RelDs prog w F' l xs) .null .bool .int .str (fun h _ r=>.tup (tuple_sub k h) r) (fun h _ r=>.lst (list_sub k h) r) (fun n h e _ r=>.dcI n (dict_sub k h) e r) (fun n h e _ r=>.dcS n (dict_sub k h) e r) .nil (fun _ _ a b=>.cons a b) r
theorem RelDs.length:∀ {l:List D} {xs:List Value},RelDs prog w F l xs→l.length=xs.length
  | _,_,.nil=>rfl
  | _,_,.cons _ r=>congrArg (· + 1) r.length
theorem RelDs.append:∀ {l m:List D} {xs ys:List Value},RelDs prog w F l xs→RelDs prog w F m ys→RelDs prog w F (l++m) (xs++ys)
  | _,_,_,_,.nil,r=>r
  | _,_,_,_,.cons h t,r=>.cons h (t.append r)
theorem RelDs.get:∀ {l:List D} {xs:List Value} {i:Nat} {d:D},RelDs prog w F l xs→l[i]?=some d→∃ v,xs[i]?=some v∧RelD prog w F d v
  | _,_,i,_,.cons h t,e=>by
    cases i with
    | zero=>cases e; exact ⟨_,rfl,h⟩
    | succ i=>exact t.get (by simpa using e)
theorem RelDs.get':∀ {l:List D} {xs:List Value} {i:Nat} {v:Value},RelDs prog w F l xs→xs[i]?=some v→∃ d,l[i]?=some d∧RelD prog w F d v
  | _,_,i,_,.cons h t,e=>by
    cases i with
    | zero=>cases e; exact ⟨_,rfl,h⟩
    | succ i=>exact t.get' (by simpa using e)
theorem RelDs.drop:∀ (n:Nat) {l:List D} {xs:List Value},RelDs prog w F l xs→RelDs prog w F (l.drop n) (xs.drop n)
  | 0,_,_,r=>r
  | _ + 1,_,_,.nil=>.nil
  | n + 1,_,_,.cons _ t=>t.drop n
theorem RelDs.take:∀ (n:Nat) {l:List D} {xs:List Value},RelDs prog w F l xs→RelDs prog w F (l.take n) (xs.take n)
  | 0,_,_,_=>.nil
  | _ + 1,_,_,.nil=>.nil
  | n + 1,_,_,.cons h t=>.cons h (t.take n)
theorem RelDs.replicate {d:D} {v:Value} (h:RelD prog w F d v):∀ n,RelDs prog w F (List.replicate n d) (List.replicate n v)
  | 0=>.nil
  | n + 1=>.cons h (RelDs.replicate h n)

theorem RelD.int_inv {i:Int} {v:Value} (h:RelD prog w F (.int i) v):∃ t,v=.int i t:=by cases h; exact ⟨_,rfl⟩
theorem RelD.bool_inv {b:Bool} {v:Value} (h:RelD prog w F (.bool b) v):v=.bool b:=by cases h; rfl
theorem RelD.str_inv {s:List Nat} {v:Value} (h:RelD prog w F (.str s) v):∃ t,v=.str (mkS s) t:=by cases h; exact ⟨_,rfl⟩
theorem RelD.null_inv {v:Value} (h:RelD prog w F .null v):v=.none:=by cases h; rfl
theorem RelD.tup_inv {l:List D} {v:Value} (h:RelD prog w F (.tup l) v):∃ a xs,v=.ref a∧F.IsTuple a xs.toArray∧RelDs prog w F l xs:=by cases h; exact ⟨_,_,rfl,‹_›,‹_›⟩
theorem RelD.lst_inv {l:List D} {v:Value} (h:RelD prog w F (.lst l) v):∃ a xs,v=.ref a∧F.IsList a xs.toArray∧RelDs prog w F l xs:=by cases h; exact ⟨_,_,rfl,‹_›,‹_›⟩
end
structure Loc where
  box:Option (Addr × Addr):=.none
  rd:Option (Addr × Addr):=.none

structure Cst where
  prog:Program
  w:World
  K:Frag
  h₀:Heap
  tabs:List (Addr × Addr)
  s₀:Shared
  JF:Addr
  PR:Addr
  mg:Str→Option Value
  mb:Str→Option Value
  fa:Nat→Addr
  lq:Addr→Str

noncomputable abbrev Cst.M (C:Cst):Model:=model C.prog C.w

noncomputable def Loc.mu (C:Cst) (lc:Loc):List Addr :=
  C.tabs.map (·.2)++((match lc.box with | some p=>[p.1,p.2] | none=>[])++(match lc.rd with | some p=>[p.2] | none=>[]))

noncomputable def BoxRel:Option (Addr × Addr)→Option (List Int × Int)→Heap→Prop
  | some p,some q,h=>p.1 ≠ p.2∧∃ t xs,h.PlainList p.1 #[.ref p.2,.int q.2 t]∧h.PlainList p.2 xs.toArray∧IntsAre xs q.1
  | none,none,_=>True
  | _,_,_=>False

noncomputable def RdEs (es:List DictEntry) (r:Rd):Prop :=
  ∃ h0 k0 t0 h1 k1 t1 h2 k2 t2 h3 k3 t3,es=[⟨h0,.str "text" k0,.str (mkS r.text) t0⟩,⟨h1,.str "at" k1,.int r.at' t1⟩,⟨h2,.str "groups" k2,.int r.groups t2⟩,⟨h3,.str "farthest_back" k3,.int r.back t3⟩]
noncomputable def RdRel (PR:Addr):Option (Addr × Addr)→Option Rd→Heap→Prop
  | some p,some r,h=>h.get? p.1=some (instObj PR p.2)∧∃ es n,h.get? p.2=some (PySem.W.dictOf es n)∧RdEs es r
  | none,none,_=>True
  | _,_,_=>False

noncomputable def CodesOk (C:Cst) (h:Heap) (c:Addr) (ps:Array Value):Prop :=
  ∀ pos cv,codeAmong pos ps.toList=some cv→∃ b ob vs t,cv=.ref b∧h.get? b=some ob∧ob.cls=.type "code"∧ob.data=.fields vs∧vs[1]?=some (.str (C.lq c) t)
theorem CodesOk.keep {C:Cst} {h h':Heap} {c:Addr} {ps:Array Value} (x:CodesOk C h c ps) (k:∀ b o,CodeObj o→h.get? b=some o→h'.get? b=some o):CodesOk C h' c ps:=fun pos cv e=>by
  refine Xeeeeaaaaa (x pos cv e) fun b ob vs t e1 e2 e3 e4 e5=>?_
  exact ⟨b,ob,vs,t,e1,k b ob ⟨e3,_,e4⟩ e2,e3,e4,e5⟩

structure GRel (C:Cst) (lc:Loc) (σ:Store) (s:Shared):Prop where
  base:∀ b o,C.h₀.get? b=some o→s.heap.get? b=some o
  tab:∀ q ∈ C.tabs,∃ ps,s.heap.get? q.2=some (tabObj ps)∧TriplesOk ps.toList∧CodesOk C s.heap q.1 ps
  box:BoxRel lc.box σ.box s.heap
  rd:RdRel C.PR lc.rd σ.rd s.heap
  new:∀ a ∈ lc.mu C,C.h₀.get? a=none
  gens:s.gens=C.s₀.gens
  drawn:s.drawn=C.s₀.drawn
  os:s.os=C.s₀.os

noncomputable def FrOK (C:Cst) (frs:List Env) (h:Heap):Prop :=
  ∀ e ∈ frs,e.scope.kind ≠ .module∧∃ L o,e.frame=some L∧h.get? L=some o∧isFrameObj o∧C.h₀.get? L=none∧∃ es ep,o.data=.dict es ep

structure Act where
  env:Env
  sl:List (Option (Str × NameKind))
  hx:List Addr
  frs:List Env
  cells:List (Str × Addr):=[]

noncomputable def Act.M (X:Act) (ol:List Addr):List Addr:=X.env.locals :: (X.cells.map (·.2)++ol)
noncomputable def Act.Z (C:Cst) (X:Act) (lc:Loc) (ol:List Addr):List Addr:=X.M ol++(lc.mu C++X.hx)

noncomputable def Held (env:Env) (m:Str→Option Value) (h:Heap) (x:Str) (kd:NameKind) (v:Value):Prop :=
  match kd with
  | .local=>m x=some v
  | .cell | .free=>∃ c o,env.cells.lookup x=some c∧h.get? c=some o∧o.data=.cell (some v)
  | _=>False

noncomputable def RelV (C:Cst) (F h:Heap) (lc:Loc) (ow:Option Addr):V→Value→Prop
  | .d x,v=>RelD C.prog C.w F x v
  | .box,v=>∃ p,lc.box=some p∧v=.ref p.1
  | .bxl,v=>∃ p,lc.box=some p∧v=.ref p.2
  | .rd,v=>∃ p,lc.rd=some p∧v=.ref p.1
  | .raw u,v=>v=u
  | .own l,v=>∃ a xs,v=.ref a∧ow=some a∧h.PlainList a xs.toArray∧RelDs C.prog C.w F l xs

structure FRel (C:Cst) (X:Act) (lc:Loc) (ρ:Ro) (ow:Nat→Option Addr) (ol:List Addr) (h:Heap):Prop where
  kind:X.env.scope.kind=.function
  globals:X.env.globals=mainGlobals
  builtins:X.env.builtins=builtinsNs
  frame:∃ e rest,X.frs=e :: rest∧e.frame=X.env.frame
  slots:∀ (k:Nat) (x:Str) (kd:NameKind),X.sl[k]?=some (some (x,kd))→X.env.kindOf x=some kd
  ns:∃ m,h.Ns X.env.locals m∧∀ (k:Nat) v x kd,ρ.get k=some v→X.sl[k]?=some (some (x,kd))→∃ val,Held X.env m h x kd val∧RelV C (fz h (X.Z C lc ol)) h lc (ow k) v val
  cells:X.cells=[]∨X.env.cells=X.cells
  cellAt:∀ q ∈ X.cells,X.env.cells.lookup q.1=some q.2∧(∃ o v,h.get? q.2=some o∧o.data=.cell v)∧C.h₀.get? q.2=none
  cellInj:∀ q ∈ X.cells,∀ r ∈ X.cells,q.2=r.2→q.1=r.1
  slInj:∀ (k j:Nat) (x:Str) kd kd',X.sl[k]?=some (some (x,kd))→X.sl[j]?=some (some (x,kd'))→k=j
  ownLoc:∀ (k:Nat) l x kd,ρ.get k=some (.own l)→X.sl[k]?=some (some (x,kd))→kd=.local
  ownIn:∀ k a,ow k=some a→a ∈ ol
  ownInj:∀ k j a,ow k=some a→ow j=some a→k=j
  ownNew:∀ a ∈ ol,a ∉ lc.mu C∧C.h₀.get? a=none∧a ≠ X.env.locals∧a ∉ X.hx∧∃ xs,h.PlainList a xs
  locNew:C.h₀.get? X.env.locals=none
  locMut:X.env.locals ∉ lc.mu C
  hxOld:∀ a ∈ X.hx,∃ o,h.get? a=some o
  hxNew:∀ a ∈ X.hx,C.h₀.get? a=none

structure St (C:Cst) (X:Act) (lc:Loc) (ρ:Ro) (ow:Nat→Option Addr) (ol:List Addr) (σ:Store) (s:Shared):Prop where
  g:GRel C lc σ s
  f:FRel C X lc ρ ow ol s.heap
  fr:FrOK C X.frs s.heap

structure Grow (C:Cst) (lc lc':Loc) (h:Heap):Prop where
  box:lc.box=none∨lc'.box=lc.box
  rd:lc.rd=none∨lc'.rd=lc.rd
  mu:∀ a ∈ lc'.mu C,a ∈ lc.mu C∨h.get? a=none
  sub:∀ a ∈ lc.mu C,a ∈ lc'.mu C

structure Ext (C:Cst) (X:Act) (lc lc':Loc) (ρ:Ro) (ow:Nat→Option Addr) (ol:List Addr) (σ':Store) (s s':Shared):Prop where
  st:St C X lc' ρ ow ol σ' s'
  keep:Keep (lc.mu C) s.heap s'.heap
  grow:Grow C lc lc' s.heap

noncomputable def ExcAt (C:Cst) (h h':Heap) (e:Addr) (k:List Nat):Prop :=
  h.get? e=none∧∃ oe vs d od es n t,h'.get? e=some oe∧oe.cls=.ref C.JF∧oe.dict=some d∧oe.data=.fields vs∧h.get? d=none∧h'.get? d=some od∧od=PySem.W.dictOf es n∧getL "kind" es=some (some (.str (mkS k) t)) ∧
    ((vs[1]?=some .none)∨∃ T oT ts fl,vs[1]?=some (.ref T)∧h.get? T=none∧T ≠ e∧h'.get? T=some oT∧oT.data=.fields ts∧ts[3]?=some fl∧(fl=.none∨∃ L,fl=rawInt L)∧oT.cls ≠ .type "code")

section
variable {C:Cst} {X:Act} {lc lc' lc'':Loc} {ρ:Ro} {ow:Nat→Option Addr} {ol:List Addr} {σ σ' σ'':Store} {s s' s'':Shared}

theorem Loc.mu_obj (g:GRel C lc σ s):∀ a ∈ lc.mu C,∃ o,s.heap.get? a=some o∧¬ isFrameObj o∧(∀ v,o.data ≠ .cell v):=by
  intro a ha
  unfold Loc.mu at ha
  rcases List.mem_append.mp ha with ha | ha
  · refine Xeaa (List.mem_map.mp ha) fun q hq zz1=>?_; subst zz1
    refine Xeaa (g.tab q hq) fun ps hp _=>?_
    exact ⟨_,hp,by simp [isFrameObj],fun v=>by simp⟩
  · rcases List.mem_append.mp ha with ha | ha
    · have hb:=g.box
      cases q:lc.box with
      | none=>rw [q] at ha; cases ha
      | some p =>
        rw [q] at ha hb
        cases q2:σ.box with
        | none=>rw [q2] at hb; exact hb.elim
        | some z =>
          rw [q2] at hb
          obtain ⟨_,t,xs,⟨n1,e1⟩,⟨n2,e2⟩,_⟩:=hb
          simp only [List.mem_cons,List.not_mem_nil,or_false] at ha
          rcases ha with rfl | rfl
          · exact ⟨_,e1,by simp [isFrameObj],fun v=>by simp⟩
          · exact ⟨_,e2,by simp [isFrameObj],fun v=>by simp⟩
    · have hb:=g.rd
      cases q:lc.rd with
      | none=>rw [q] at ha; cases ha
      | some p =>
        rw [q] at ha hb
        cases q2:σ.rd with
        | none=>rw [q2] at hb; exact hb.elim
        | some z =>
          rw [q2] at hb
          refine Xaeeaa (hb) fun _ es n e1 _=>?_
          simp only [List.mem_cons,List.not_mem_nil,or_false] at ha
          subst ha
          exact ⟨_,e1,by simp [isFrameObj],fun v=>by simp⟩

theorem Loc.mu_code (g:GRel C lc σ s):∀ a ∈ lc.mu C,∃ o,s.heap.get? a=some o∧o.cls ≠ .type "code":=by
  intro a ha
  unfold Loc.mu at ha
  rcases List.mem_append.mp ha with ha | ha
  · refine Xeaa (List.mem_map.mp ha) fun q hq zz1=>?_; subst zz1
    refine Xeaa (g.tab q hq) fun ps hp _=>?_
    exact ⟨_,hp,by simp⟩
  · rcases List.mem_append.mp ha with ha | ha
    · have hb:=g.box
      cases q:lc.box with
      | none=>rw [q] at ha; cases ha
      | some p =>
        rw [q] at ha hb
        cases q2:σ.box with
        | none=>rw [q2] at hb; exact hb.elim
        | some z =>
          rw [q2] at hb
          obtain ⟨_,t,xs,⟨n1,e1⟩,⟨n2,e2⟩,_⟩:=hb
          simp only [List.mem_cons,List.not_mem_nil,or_false] at ha
          rcases ha with rfl | rfl
          · exact ⟨_,e1,by simp⟩
          · exact ⟨_,e2,by simp⟩
    · have hb:=g.rd
      cases q:lc.rd with
      | none=>rw [q] at ha; cases ha
      | some p =>
        rw [q] at ha hb
        cases q2:σ.rd with
        | none=>rw [q2] at hb; exact hb.elim
        | some z =>
          rw [q2] at hb
          refine Xaeeaa (hb) fun _ es n e1 _=>?_
          simp only [List.mem_cons,List.not_mem_nil,or_false] at ha
          subst ha
          exact ⟨_,e1,by simp⟩

theorem Loc.mu_old (g:GRel C lc σ s) {a:Addr} (ha:s.heap.get? a=none):a ∉ lc.mu C:=fun q=>by
  refine Xeaa (Loc.mu_obj g a q) fun o e _=>?_
  exact nsm ha e

theorem Grow.refl (C:Cst) (lc:Loc) (h:Heap):Grow C lc lc h:=⟨.inr rfl,.inr rfl,fun _=>.inl,fun _=>id⟩
theorem Ext.refl (t:St C X lc ρ ow ol σ s):Ext C X lc lc ρ ow ol σ s s:=⟨t,Keep.refl _ _,Grow.refl _ _ _⟩

theorem Grow.trans (x:Grow C lc lc' s.heap) (k:Keep (lc.mu C) s.heap s'.heap) (y:Grow C lc' lc'' s'.heap) (g:GRel C lc' σ' s'):Grow C lc lc'' s.heap:=by
  refine ⟨?_,?_,fun a ha=>?_,fun a ha=>y.sub a (x.sub a ha)⟩
  · rcases x.box with q | q
    · exact .inl q
    · rcases y.box with r | r
      · exact .inl (q ▸ r)
      · exact .inr (r.trans q)
  · rcases x.rd with q | q
    · exact .inl q
    · rcases y.rd with r | r
      · exact .inl (q ▸ r)
      · exact .inr (r.trans q)
  · rcases y.mu a ha with q | q
    · exact x.mu a q
    · by_cases hm:a ∈ lc.mu C
      · exact .inl hm
      · exact .inr (k.none hm q)
theorem Keep.grow {h h' h'':Heap} (x:Keep (lc.mu C) h h') (gr:Grow C lc lc' h) (y:Keep (lc'.mu C) h' h''):Keep (lc.mu C) h h'':=fun b o hb e=>by
  refine Xeaa (x b o hb e) fun o₁ e₁ s₁=>?_
  have hb':b ∉ lc'.mu C:=fun q=>by
    rcases gr.mu b q with q | q
    · exact hb q
    · exact nsm q e
  refine Xeaa (y b o₁ hb' e₁) fun o₂ e₂ s₂=>?_
  exact ⟨o₂,e₂,s₁.trans s₂⟩
theorem Ext.trans (x:Ext C X lc lc' ρ ow ol σ' s s') (y:Ext C X lc' lc'' ρ ow ol σ'' s' s''):Ext C X lc lc'' ρ ow ol σ'' s s'' :=
  ⟨y.st,x.keep.grow x.grow y.keep,x.grow.trans x.keep y.grow x.st.g⟩

theorem Act.mut_Z {a:Addr} (h:a ∈ lc.mu C):a ∈ X.Z C lc ol:=List.mem_append_right _ (List.mem_append_left _ h)
theorem Act.Z_step (gr:Grow C lc lc' s.heap):∀ a ∈ X.Z C lc' ol,a ∈ X.Z C lc ol∨s.heap.get? a=none:=fun a ha=>by
  unfold Act.Z at ha ⊢
  rcases List.mem_append.mp ha with ha | ha
  · exact .inl (List.mem_append_left _ ha)
  · rcases List.mem_append.mp ha with ha | ha
    · rcases gr.mu a ha with q | q
      · exact .inl (Act.mut_Z q)
      · exact .inr q
    · exact .inl (List.mem_append_right _ (List.mem_append_right _ ha))
theorem Ext.sub (x:Ext C X lc lc' ρ ow ol σ' s s'):Sub (fz s.heap (X.Z C lc ol)) (fz s'.heap (X.Z C lc' ol)) :=
  Sub.step x.keep (fun _ q=>.inl (Act.mut_Z q)) (Act.Z_step x.grow)

theorem ExcAt.back (k:Keep (lc.mu C) s.heap s'.heap) (gr:Grow C lc lc' s.heap) (g:GRel C lc' σ' s') {h'':Heap} {e:Addr} {kd:List Nat} (x:ExcAt C s'.heap h'' e kd):ExcAt C s.heap h'' e kd:=by
  have back:∀ a,s'.heap.get? a=none→s.heap.get? a=none:=fun a ha=>k.none (fun q=>Loc.mu_old g ha (gr.sub a q)) ha
  refine Xaeeeeeeeaaaaaaaaa (x) fun hn oe vs d od es n t h1 h2 h3 h4 h5 h6 h7 h8 h9=>?_
  refine ⟨back _ hn,oe,vs,d,od,es,n,t,h1,h2,h3,h4,back _ h5,h6,h7,h8,?_⟩
  rcases h9 with h9 | ⟨T,oT,ts,fl,a,b,c⟩
  · exact .inl h9
  · exact .inr ⟨T,oT,ts,fl,a,back _ b,c⟩
end

structure Cont {α β:Type} (C:Cst) (X:Act) (P:Loc→Heap→α→β→Prop) (lc:Loc) (ρ:Ro) (ow:Nat→Option Addr) (ol:List Addr) (s:Shared) (r:R α) (Q:β→Shared→Prop) (E:Value→Shared→Prop):Prop where
  nb:r ≠ .bad
  ok:∀ a σ' lc' s' x,r=.ok a σ'→Ext C X lc lc' ρ ow ol σ' s s'→P lc' s'.heap a x→Q x s'
  ex:∀ k t σ' lc' s' e,r=.exc k t σ'→Ext C X lc lc' ρ ow ol σ' s s'→ExcAt C s.heap s'.heap e k→E (.ref e) s'

noncomputable def Den {α β:Type} (C:Cst) (A:Around) (X:Act) (P:Loc→Heap→α→β→Prop) (lc:Loc) (ρ:Ro) (ow:Nat→Option Addr) (ol:List Addr) (s:Shared) (r:R α) (t:Sem β):Prop :=
  ∀ Q E,Cont C X P lc ρ ow ol s r Q E→wpAny C.M A t Q E s

section
variable {α β γ δ:Type} {C:Cst} {A:Around} {X:Act} {P:Loc→Heap→α→β→Prop} {P':Loc→Heap→γ→δ→Prop} {lc:Loc} {ρ:Ro} {ow:Nat→Option Addr} {ol:List Addr} {s:Shared} {Q:β→Shared→Prop} {Q':δ→Shared→Prop} {E:Value→Shared→Prop}

noncomputable def Rest (C:Cst) (X:Act) (P:Loc→Heap→α→β→Prop) (P':Loc→Heap→γ→δ→Prop) (lc:Loc) (ρ:Ro) (ow:Nat→Option Addr) (ol:List Addr) (s:Shared) (r:R α) (f:α→Store→R γ) (Q':δ→Shared→Prop) (E:Value→Shared→Prop) (x:β) (s₁:Shared):Prop :=
  ∃ a σ₁ lc₁,r=.ok a σ₁∧Ext C X lc lc₁ ρ ow ol σ₁ s s₁∧P lc₁ s₁.heap a x∧Cont C X P' lc₁ ρ ow ol s₁ (f a σ₁) Q' E

theorem Cont.bind {r:R α} {f:α→Store→R γ} (K:Cont C X P' lc ρ ow ol s (r.bind f) Q' E):Cont C X P lc ρ ow ol s r (Rest C X P P' lc ρ ow ol s r f Q' E) E:=by
  refine ⟨fun e=>K.nb (by rw [e]; rfl),fun a σ' lc' s' x e xt p=>⟨a,σ',lc',e,xt,p,?_,?_,?_⟩,fun k t σ' lc' s' e er xt xa=>K.ex k t σ' lc' s' e (by rw [er]; rfl) xt xa⟩
  · intro z; exact K.nb (by rw [e]; exact z)
  · intro a₂ σ₂ lc₂ s₂ x₂ e₂ xt₂ p₂
    exact K.ok a₂ σ₂ lc₂ s₂ x₂ (by rw [e]; exact e₂) (xt.trans xt₂) p₂
  · intro k t σ₂ lc₂ s₂ e₂ er xt₂ xa
    exact K.ex k t σ₂ lc₂ s₂ e₂ (by rw [e]; exact er) (xt.trans xt₂) (xa.back xt.keep xt.grow xt.st.g)

theorem Den.here {r:R α} {t:Sem β} (d:Den C A X P lc ρ ow ol s r t) {f:α→Store→R γ} (K:Cont C X P' lc ρ ow ol s (r.bind f) Q' E)
    {Q:β→Shared→Prop} (h:∀ x s₁ a σ₁ lc₁,r=.ok a σ₁→Ext C X lc lc₁ ρ ow ol σ₁ s s₁→P lc₁ s₁.heap a x→Cont C X P' lc₁ ρ ow ol s₁ (f a σ₁) Q' E→Q x s₁):wpAny C.M A t Q E s :=
  wpAny_mono (d _ _ (Cont.bind (P:=P) K)) (fun x s₁ ⟨a,σ₁,lc₁,e,xt,p,k⟩=>h x s₁ a σ₁ lc₁ e xt p k) fun _ _ x=>x
end

section
variable {C:Cst} {X:Act} {lc lc':Loc} {ρ:Ro} {ow:Nat→Option Addr} {ol:List Addr} {σ σ':Store} {s:Shared} {h':Heap}

theorem Ns.keep {M:List Addr} {h h':Heap} {L:Addr} {m:Str→Option Value} (k:Keep M h h') (hL:L ∉ M) (n:h.Ns L m):h'.Ns L m:=by
  refine Xeeeaaa (n) fun o es ep ho hd r=>?_
  refine Xeaa (k L o hL ho) fun o' ho' sm=>?_
  exact ⟨o',es,ep,ho',sm.data.1 ▸ hd,r⟩
theorem PlainList.keep {M:List Addr} {h h':Heap} {a:Addr} {xs:Array Value} (k:Keep M h h') (ha:a ∉ M) (x:h.PlainList a xs):h'.PlainList a xs:=by
  refine Xea (x) fun n ho=>?_
  exact ⟨n,k.get ha ho (by simp [isFrameObj])⟩

theorem Held.keep {M:List Addr} {h:Heap} (k:Keep M h h') (hM:∀ a ∈ M,∃ o,h.get? a=some o∧∀ v,o.data ≠ .cell v) {env:Env} {m:Str→Option Value} {x:Str} {kd:NameKind} {v:Value} (H:Held env m h x kd v):Held env m h' x kd v:=by
  have cell:(∃ c o,env.cells.lookup x=some c∧h.get? c=some o∧o.data=.cell (some v))→∃ c o,env.cells.lookup x=some c∧h'.get? c=some o∧o.data=.cell (some v):=by
    rintro ⟨c,o,e1,e2,e3⟩
    have hc:c ∉ M:=fun q=>by
      refine Xeaa (hM c q) fun o' e' n=>?_
      cases ssm e2 e'; exact n _ e3
    refine Xeaa (k c o hc e2) fun o' e' sm=>?_
    exact ⟨c,o',e1,e',sm.data.1 ▸ e3⟩
  cases kd with
  | «local»=>exact H
  | cell=>exact cell H
  | free=>exact cell H
  | _=>exact H.elim

theorem RelV.keep {Z Z':List Addr} {h:Heap} {o:Option Addr} {v:V} {x:Value} (hs:Sub (fz h Z) (fz h' Z')) (gr:Grow C lc lc' h) (hl:∀ a xs,o=some a→h.PlainList a xs→h'.PlainList a xs) (r:RelV C (fz h Z) h lc o v x):RelV C (fz h' Z') h' lc' o v x:=by
  cases v with
  | d d=>exact RelD.mono hs r
  | box =>
    refine Xeaa (r) fun p e zz1=>?_; subst zz1
    refine ⟨p,?_,rfl⟩
    rcases gr.box with q | q
    · exact nsm q e
    · rw [q,e]
  | bxl =>
    refine Xeaa (r) fun p e zz1=>?_; subst zz1
    refine ⟨p,?_,rfl⟩
    rcases gr.box with q | q
    · exact nsm q e
    · rw [q,e]
  | rd =>
    refine Xeaa (r) fun p e zz1=>?_; subst zz1
    refine ⟨p,?_,rfl⟩
    rcases gr.rd with q | q
    · exact nsm q e
    · rw [q,e]
  | raw u=>exact r
  | own l =>
    refine Xeeaaaa (r) fun a xs zz1 e hx hr=>?_; subst zz1
    exact ⟨a,xs,rfl,e,hl a _ e hx,RelDs.mono hs hr⟩

theorem FRel.keep (f:FRel C X lc ρ ow ol s.heap) (g:GRel C lc σ s) (k:Keep (lc.mu C) s.heap h') (gr:Grow C lc lc' s.heap) (hmu:∀ a ∈ lc.mu C,∃ o,h'.get? a=some o):FRel C X lc' ρ ow ol h':=by
  have hs:Sub (fz s.heap (X.Z C lc ol)) (fz h' (X.Z C lc' ol)):=Sub.step k (fun _ q=>.inl (Act.mut_Z q)) (Act.Z_step gr)
  have hM:∀ a ∈ lc.mu C,∃ o,s.heap.get? a=some o∧∀ v,o.data ≠ .cell v:=fun a ha=>let ⟨o,e,_,n⟩:=Loc.mu_obj g a ha; ⟨o,e,n⟩
  have not':∀ a o,s.heap.get? a=some o→a ∉ lc.mu C→a ∉ lc'.mu C:=fun a o e n q=>by
    rcases gr.mu a q with q | q
    · exact n q
    · exact nsm q e
  refine { f with ns:=?_,ownNew:=fun a ha=>?_,locMut:=?_,hxOld:=fun a ha=>?_,cellAt:=fun q hq=>?_ }
  · refine Xeaa (f.ns) fun m hn hr=>?_
    refine ⟨m,Ns.keep k f.locMut hn,fun i v x kd e e1=>?_⟩
    refine Xeaa (hr i v x kd e e1) fun val e2 e3=>?_
    refine ⟨val,e2.keep k hM,e3.keep hs gr fun a xs e hx=>?_⟩
    exact PlainList.keep k (f.ownNew a (f.ownIn i a e)).1 hx
  · obtain ⟨h1,⟨o,v,ho,hd⟩,h2⟩:=f.cellAt q hq
    have hc:q.2 ∉ lc.mu C:=fun z=>by
      refine Xeaa (hM _ z) fun o' e' n=>?_
      cases ssm ho e'; exact n _ hd
    refine Xeaa (k _ o hc ho) fun o' ho' sm=>?_
    exact ⟨h1,⟨o',v,ho',sm.data.1 ▸ hd⟩,h2⟩
  · refine Xaaaaea (f.ownNew a ha) fun n1 n2 n3 n4 xs hx=>?_
    refine Xea (id hx) fun _ ho=>?_
    exact ⟨not' a _ ho n1,n2,n3,n4,xs,PlainList.keep k n1 hx⟩
  · obtain ⟨m,⟨o,es,ep,ho,_⟩,_⟩:=f.ns
    exact not' _ o ho f.locMut
  · by_cases hm:a ∈ lc.mu C
    · exact hmu a hm
    · refine Xea (f.hxOld a ha) fun o ho=>?_
      refine Xeaa (k a o hm ho) fun o' ho' _=>?_
      exact ⟨o',ho'⟩

theorem FrOK.keep {frs:List Env} (f:FrOK C frs s.heap) (g:GRel C lc σ s) (k:Keep (lc.mu C) s.heap h'):FrOK C frs h':=fun e he=>by
  refine Xaeeaaaaa (f e he) fun h1 L o h2 h3 h4 h5 h6=>?_
  have hL:L ∉ lc.mu C:=fun q=>by
    refine Xeaaa (Loc.mu_obj g L q) fun o' e' n _=>?_
    cases ssm h3 e'; exact n h4
  refine Xeaa (k L o hL h3) fun o' e' sm=>?_
  exact ⟨h1,L,o',h2,e',by rw [isFrameObj,sm.data.2.1]; exact h4,h5,sm.data.1 ▸ h6⟩

theorem Ext.of {s':Shared} (t:St C X lc ρ ow ol σ s) (g:GRel C lc' σ' s') (k:Keep (lc.mu C) s.heap s'.heap) (gr:Grow C lc lc' s.heap):Ext C X lc lc' ρ ow ol σ' s s' :=
  ⟨⟨g,t.f.keep t.g k gr fun a ha=>let ⟨o,e,_⟩:=Loc.mu_obj g a (gr.sub a ha); ⟨o,e⟩,t.fr.keep t.g k⟩,k,gr⟩

theorem GRel.keepAll {s':Shared} (g:GRel C lc σ s) (k:∀ b o,s.heap.get? b=some o→s'.heap.get? b=some o) (h1:s'.gens=s.gens:=by rfl) (h2:s'.drawn=s.drawn:=by rfl) (h3:s'.os=s.os:=by rfl):GRel C lc σ s':=by
  refine ⟨fun b o e=>k b o (g.base b o e),fun q hq=>?_,?_,?_,g.new,h1.trans g.gens,h2.trans g.drawn,h3.trans g.os⟩
  · refine Xeaaa (g.tab q hq) fun ps e t c=>?_
    exact ⟨ps,k _ _ e,t,c.keep fun b o _=>k b o⟩
  · have hb:=g.box
    cases q:lc.box <;> cases q2:σ.box <;> rw [q,q2] at hb <;> first | exact hb.elim | trivial | skip
    obtain ⟨ne,t,xs,⟨n1,e1⟩,⟨n2,e2⟩,hi⟩:=hb
    exact ⟨ne,t,xs,⟨n1,k _ _ e1⟩,⟨n2,k _ _ e2⟩,hi⟩
  · have hb:=g.rd
    cases q:lc.rd <;> cases q2:σ.rd <;> rw [q,q2] at hb <;> first | exact hb.elim | trivial | skip
    refine Xaeeaa (hb) fun e1 es n e2 r=>?_
    exact ⟨k _ _ e1,es,n,k _ _ e2,r⟩
theorem Ext.all {s':Shared} (t:St C X lc ρ ow ol σ s) (k:∀ b o,s.heap.get? b=some o→s'.heap.get? b=some o) (h1:s'.gens=s.gens:=by rfl) (h2:s'.drawn=s.drawn:=by rfl) (h3:s'.os=s.os:=by rfl):Ext C X lc lc ρ ow ol σ s s' :=
  Ext.of t (t.g.keepAll k h1 h2 h3) (.all k) (.refl ..)
theorem Ext.toks {tk:Nat} (t:St C X lc ρ ow ol σ s):Ext C X lc lc ρ ow ol σ s { s with toks:=tk }:=Ext.all t fun _ _ e=>e
end

section
variable {C:Cst} {X:Act} {lc lc':Loc} {ρ:Ro} {ow:Nat→Option Addr} {ol:List Addr} {σ σ':Store} {s:Shared}
theorem St.Z_old (t:St C X lc ρ ow ol σ s):∀ a ∈ X.Z C lc ol,∃ o,s.heap.get? a=some o:=fun a ha=>by
  unfold Act.Z Act.M at ha
  rcases List.mem_append.mp ha with ha | ha
  · rcases List.mem_cons.mp ha with rfl | ha
    · obtain ⟨m,⟨o,_,_,ho,_⟩,_⟩:=t.f.ns
      exact ⟨o,ho⟩
    · rcases List.mem_append.mp ha with ha | ha
      · refine Xeaa (List.mem_map.mp ha) fun q hq zz1=>?_; subst zz1
        obtain ⟨_,⟨o,_,ho,_⟩,_⟩:=t.f.cellAt q hq
        exact ⟨o,ho⟩
      · refine Xaaaaeea (t.f.ownNew a ha) fun _ _ _ _ xs n ho=>?_
        exact ⟨_,ho⟩
  · rcases List.mem_append.mp ha with ha | ha
    · refine Xeaa (Loc.mu_obj t.g a ha) fun o e _=>?_
      exact ⟨o,e⟩
    · exact t.f.hxOld a ha
theorem St.Z_new (t:St C X lc ρ ow ol σ s):∀ a ∈ X.Z C lc ol,C.h₀.get? a=none:=fun a ha=>by
  unfold Act.Z Act.M at ha
  rcases List.mem_append.mp ha with ha | ha
  · rcases List.mem_cons.mp ha with rfl | ha
    · exact t.f.locNew
    · rcases List.mem_append.mp ha with ha | ha
      · refine Xeaa (List.mem_map.mp ha) fun q hq zz1=>?_; subst zz1
        exact (t.f.cellAt q hq).2.2
      · exact (t.f.ownNew a ha).2.1
  · rcases List.mem_append.mp ha with ha | ha
    · exact t.g.new a ha
    · exact t.f.hxNew a ha
theorem St.base (t:St C X lc ρ ow ol σ s):Sub C.h₀ (fz s.heap (X.Z C lc ol)):=fun b o e _ =>
  fz_get.mpr ⟨t.g.base b o e,fun q=>nsm (t.Z_new b q) e⟩
theorem St.fresh (t:St C X lc ρ ow ol σ s) {a:Addr} (ha:s.heap.get? a=none):a ∉ X.Z C lc ol:=fun q=>by
  refine Xea (t.Z_old a q) fun o e=>?_
  exact nsm ha e
end

noncomputable abbrev relD (C:Cst) (X:Act) (ol:List Addr) (lc:Loc) (h:Heap) (d:D) (v:Value):Prop:=RelD C.prog C.w (fz h (X.Z C lc ol)) d v
noncomputable abbrev relDs (C:Cst) (X:Act) (ol:List Addr) (lc:Loc) (h:Heap) (l:List D) (v:List Value):Prop:=RelDs C.prog C.w (fz h (X.Z C lc ol)) l v
noncomputable abbrev relV (C:Cst) (X:Act) (ol:List Addr) (lc:Loc) (h:Heap) (v:V) (x:Value):Prop:=RelV C (fz h (X.Z C lc ol)) h lc none v x
noncomputable abbrev relB (_:Loc) (_:Heap) (b c:Bool):Prop:=b=c

section
variable {C:Cst} {X:Act} {lc lc':Loc} {ρ:Ro} {ow:Nat→Option Addr} {ol:List Addr} {σ σ':Store} {s s':Shared}
theorem Ext.relD (x:Ext C X lc lc' ρ ow ol σ' s s') {d:D} {v:Value} (r:relD C X ol lc s.heap d v):relD C X ol lc' s'.heap d v:=RelD.mono x.sub r
theorem Ext.relDs (x:Ext C X lc lc' ρ ow ol σ' s s') {d:List D} {v:List Value} (r:relDs C X ol lc s.heap d v):relDs C X ol lc' s'.heap d v:=RelDs.mono x.sub r
theorem Ext.relV (x:Ext C X lc lc' ρ ow ol σ' s s') {d:V} {v:Value} (r:relV C X ol lc s.heap d v):relV C X ol lc' s'.heap d v:=RelV.keep x.sub x.grow (fun _ _ e=>by cases e) r
end
structure AOK (C:Cst) (A:Around) (X:Act) (n:Nat):Prop where
  handled:A.handled=none
  frames:A.frames=some X.frs
  depth:A.depth + 2 * n + 10 ≤ recursionLimit
  units:A.units + 8 * n + 100 ≤ cLine

section
variable {C:Cst} {A:Around} {X:Act} {lc:Loc} {ρ:Ro} {ow:Nat→Option Addr} {ol:List Addr} {σ:Store} {s:Shared} {Q:Value→Shared→Prop} {E:Value→Shared→Prop} {n:Nat}

noncomputable def KD (C:Cst) (X:Act) (lc:Loc) (ρ:Ro) (ow:Nat→Option Addr) (ol:List Addr) (σ:Store) (s:Shared) (Q:Value→Shared→Prop) (d:D):Prop :=
  ∀ lc' s' v,Ext C X lc lc' ρ ow ol σ s s'→relD C X ol lc' s'.heap d v→Q v s'

theorem Cont.d {d:D} (K:Cont C X (relV C X ol) lc ρ ow ol s (ofOpt σ ((some d).map V.d)) Q E):KD C X lc ρ ow ol σ s Q d :=
  fun lc' s' v xt r=>K.ok (.d d) σ lc' s' v rfl xt r
theorem Cont.od {o:Option D} (K:Cont C X (relV C X ol) lc ρ ow ol s (ofOpt σ (o.map V.d)) Q E):∃ d,o=some d∧KD C X lc ρ ow ol σ s Q d:=by
  cases o with
  | none=>exact absurd rfl K.nb
  | some d=>exact ⟨d,rfl,K.d⟩
theorem Cont.ob {o:Option Bool} (K:Cont C X (relV C X ol) lc ρ ow ol s (ofOpt σ (o.map fun t=>V.d (.bool t))) Q E):∃ b,o=some b∧KD C X lc ρ ow ol σ s Q (.bool b):=by
  cases o with
  | none=>exact absurd rfl K.nb
  | some d=>exact ⟨d,rfl,fun lc' s' v xt r=>K.ok (.d (.bool d)) σ lc' s' v rfl xt r⟩

theorem KD.toks {d:D} (K:KD C X lc ρ ow ol σ s Q d) (t:St C X lc ρ ow ol σ s) {tk:Nat} {v:Value} (r:relD C X ol lc s.heap d v):Q v { s with toks:=tk }:=K lc _ v (Ext.toks t) r
theorem KD.here {d:D} (K:KD C X lc ρ ow ol σ s Q d) (t:St C X lc ρ ow ol σ s) {v:Value} (r:relD C X ol lc s.heap d v):Q v s:=K lc s v (Ext.refl t) r
theorem KD.int {i:Int} (K:KD C X lc ρ ow ol σ s Q (.int i)) (t:St C X lc ρ ow ol σ s) {tk u:Nat}:Q (.int i u) { s with toks:=tk }:=K.toks t (.int i u)
theorem KD.bool {b:Bool} (K:KD C X lc ρ ow ol σ s Q (.bool b)) (t:St C X lc ρ ow ol σ s):Q (.bool b) s:=K.here t (.bool b)
theorem KD.str {l:List Nat} (K:KD C X lc ρ ow ol σ s Q (.str l)) (t:St C X lc ρ ow ol σ s) {tk u:Nat} {x:Str} (e:x=mkS l):Q (.str x u) { s with toks:=tk }:=by subst e; exact K.toks t (.str l u)

theorem relD_newTup {h':Heap} (t:St C X lc ρ ow ol σ s) (k:∀ b o,s.heap.get? b=some o→h'.get? b=some o) {a:Addr} (ha:s.heap.get? a=none) {l:List D} {xs:List Value} (e:h'.IsTuple a xs.toArray) (r:relDs C X ol lc s.heap l xs):relD C X ol lc h' (.tup l) (.ref a):=by
  refine Xeaaa (e) fun o ho hc hn=>?_
  refine .tup ⟨o,fz_get.mpr ⟨ho,t.fresh ha⟩,hc,hn⟩ (RelDs.mono (Sub.step (M:=[]) (.all k) (fun _ q=>by cases q) fun _ q=>.inl q) r)
theorem relD_newLst {h':Heap} (t:St C X lc ρ ow ol σ s) (k:∀ b o,s.heap.get? b=some o→h'.get? b=some o) {a:Addr} (ha:s.heap.get? a=none) {l:List D} {xs:List Value} (e:h'.IsList a xs.toArray) (r:relDs C X ol lc s.heap l xs):relD C X ol lc h' (.lst l) (.ref a):=by
  refine Xeaaa (e) fun o ho hc hn=>?_
  refine .lst ⟨o,fz_get.mpr ⟨ho,t.fresh ha⟩,hc,hn⟩ (RelDs.mono (Sub.step (M:=[]) (.all k) (fun _ q=>by cases q) fun _ q=>.inl q) r)
theorem none_at_end (h:Heap):h.get? h.objs.size=none:=Heap.get?_none_of_le (Nat.le_refl _)
theorem isTuple_push (h:Heap) (xs:Array Value):(h.push { cls:=.type "tuple",data:=.seq xs }).IsTuple h.objs.size xs:=⟨_,Heap.get?_push_size _ rfl,rfl,_,rfl⟩
theorem isList_push (h:Heap) (xs:Array Value):(h.push { cls:=.type "list",data:=.seq xs }).IsList h.objs.size xs:=⟨_,Heap.get?_push_size _ rfl,rfl,_,rfl⟩

theorem KD.tup {l:List D} (K:KD C X lc ρ ow ol σ s Q (.tup l)) (t:St C X lc ρ ow ol σ s) {xs:List Value} (r:relDs C X ol lc s.heap l xs) {tk:Nat}:Q (.ref s.heap.objs.size) { s with heap:=s.heap.push { cls:=.type "tuple",data:=.seq xs.toArray },toks:=tk } :=
  K lc _ _ (Ext.all t fun _ _ e=>Heap.get?_push_of_some _ e) (relD_newTup t (fun _ _ e=>Heap.get?_push_of_some _ e) (none_at_end _) (isTuple_push ..) r)
theorem KD.lst {l:List D} (K:KD C X lc ρ ow ol σ s Q (.lst l)) (t:St C X lc ρ ow ol σ s) {xs:List Value} (r:relDs C X ol lc s.heap l xs) {tk:Nat}:Q (.ref s.heap.objs.size) { s with heap:=s.heap.push { cls:=.type "list",data:=.seq xs.toArray },toks:=tk } :=
  K lc _ _ (Ext.all t fun _ _ e=>Heap.get?_push_of_some _ e) (relD_newLst t (fun _ _ e=>Heap.get?_push_of_some _ e) (none_at_end _) (isList_push ..) r)

theorem isTuple_of {Z:List Addr} {h:Heap} {a:Addr} {xs:Array Value} (x:(fz h Z).IsTuple a xs):h.IsTuple a xs:=let ⟨o,ho,r⟩:=x; ⟨o,Sub.to ho,r⟩
theorem isList_of {Z:List Addr} {h:Heap} {a:Addr} {xs:Array Value} (x:(fz h Z).IsList a xs):h.IsList a xs:=let ⟨o,ho,r⟩:=x; ⟨o,Sub.to ho,r⟩

noncomputable def opP:Op→Operator
  | .add=>.Add | .sub=>.Sub | .mul=>.Mult | .fdiv=>.FloorDiv | .mod=>.Mod

theorem mkS_append (a b:List Nat):mkS a++mkS b=mkS (a++b):=by
  show Str.append _ _=_
  simp [Str.append]
theorem mkS_length (a:List Nat):(mkS a).length=a.length:=by simp [Str.length]
theorem lim_size {n:Nat} (h:n ≤ LIM):n ≤ sizeLine:=by rw [sizeLine_eq]; unfold LIM at h; omega

theorem bin_add_str {a b:List Nat} {t1 t2:Tok} (t:St C X lc ρ ow ol σ s) (h:a.length + b.length ≤ LIM) (K:KD C X lc ρ ow ol σ s Q (.str (a++b))):wpAny C.M A (binaryOp .Add (.str (mkS a) t1) (.str (mkS b) t2)) Q E s :=
  add_str (fun t' tk=>K.str t (mkS_append a b)) (by rw [mkS_length,mkS_length]; exact lim_size h)

theorem bin_add_tup {a b:List D} {t1 t2:Addr} {xs ys:List Value} (t:St C X lc ρ ow ol σ s) (h:a.length + b.length ≤ LIM) (h1:(fz s.heap (X.Z C lc ol)).IsTuple t1 xs.toArray) (r1:relDs C X ol lc s.heap a xs)
    (h2:(fz s.heap (X.Z C lc ol)).IsTuple t2 ys.toArray) (r2:relDs C X ol lc s.heap b ys) (K:KD C X lc ρ ow ol σ s Q (.tup (a++b))):wpAny C.M A (binaryOp .Add (.ref t1) (.ref t2)) Q E s:=by
  obtain ⟨⟨cls,dd,data,sl⟩,ho,hc,n1,hd⟩:=isTuple_of h1
  obtain ⟨⟨cls2,dd2,data2,sl2⟩,ho2,hc2,n2,hd2⟩:=isTuple_of h2
  simp only at hc hd hc2 hd2
  subst hc hd hc2 hd2
  have l1:=r1.length
  have l2:=r2.length
  by_cases hv:xs=[]
  · subst hv
    refine concat_meets ⟨_,ho,rfl⟩ ⟨_,ho2,rfl⟩ noFill_tuple_add seq_tuple_add PySem.F.slot_tuple_add PySem.F.entry_tuple_add (PySem.F.args_tuple_add_2 _ _) (tuple_addW0 t1 t2 _ ys.toArray n1 n2 dd dd2 sl sl2 (by simp)) ⟨ho,ho2,?_⟩
    obtain rfl:a=[]:=List.eq_nil_of_length_eq_zero l1
    exact K.here t (.tup h2 r2)
  · by_cases hw:ys=[]
    · subst hw
      refine concat_meets ⟨_,ho,rfl⟩ ⟨_,ho2,rfl⟩ noFill_tuple_add seq_tuple_add PySem.F.slot_tuple_add PySem.F.entry_tuple_add (PySem.F.args_tuple_add_2 _ _) (tuple_addW1 t1 t2 xs.toArray _ n1 n2 dd dd2 sl sl2 (by simpa using hv) (by simp)) ⟨ho,ho2,?_⟩
      obtain rfl:b=[]:=List.eq_nil_of_length_eq_zero l2
      rw [List.append_nil] at K
      exact K.here t (.tup h1 r1)
    · refine concat_meets ⟨_,ho,rfl⟩ ⟨_,ho2,rfl⟩ noFill_tuple_add seq_tuple_add PySem.F.slot_tuple_add PySem.F.entry_tuple_add (PySem.F.args_tuple_add_2 _ _)
        (tuple_addW2 t1 t2 xs.toArray ys.toArray n1 n2 dd dd2 sl sl2 (by simpa using hv) (by simpa using hw) (by rw [List.size_toArray,List.size_toArray,← l1,← l2]; exact lim_size h)) ⟨ho,ho2,?_⟩
      have:=K.tup t (tk:=s.toks) (r1.append r2)
      simpa using this

theorem bin_add_lst {a b:List D} {t1 t2:Addr} {xs ys:List Value} (t:St C X lc ρ ow ol σ s) (h:a.length + b.length ≤ LIM) (h1:(fz s.heap (X.Z C lc ol)).IsList t1 xs.toArray) (r1:relDs C X ol lc s.heap a xs)
    (h2:(fz s.heap (X.Z C lc ol)).IsList t2 ys.toArray) (r2:relDs C X ol lc s.heap b ys) (K:KD C X lc ρ ow ol σ s Q (.lst (a++b))):wpAny C.M A (binaryOp .Add (.ref t1) (.ref t2)) Q E s:=by
  obtain ⟨⟨cls,dd,data,sl⟩,ho,hc,n1,hd⟩:=isList_of h1
  obtain ⟨⟨cls2,dd2,data2,sl2⟩,ho2,hc2,n2,hd2⟩:=isList_of h2
  simp only at hc hd hc2 hd2
  subst hc hd hc2 hd2
  have l1:=r1.length
  have l2:=r2.length
  refine concat_meets ⟨_,ho,rfl⟩ ⟨_,ho2,rfl⟩ noFill_list_add seq_list_add PySem.F.slot_list_add PySem.F.entry_list_add (PySem.F.args_list_add_2 _ _) (list_addW t1 t2 xs.toArray ys.toArray n1 n2 dd dd2 sl sl2 (by rw [List.size_toArray,List.size_toArray,← l1,← l2]; exact lim_size h)) ⟨ho,ho2,?_⟩
  have:=K.lst t (tk:=s.toks) (r1.append r2)
  simpa using this
theorem fold_one (v:Value):∀ (n:Nat) (acc:Array Value),List.foldl (fun x1 x2:Array Value=>x1++x2) acc (List.replicate n #[v])=acc++(List.replicate n v).toArray
  | 0,acc=>by simp
  | n + 1,acc=>by
    rw [List.replicate_succ,List.foldl_cons,fold_one v n,List.replicate_succ]
    apply Array.ext'
    simp

theorem bin_mul_lst {a:D} {i:Int} {t1:Addr} {u:Tok} {xs:List Value} (t:St C X lc ρ ow ol σ s) (h0:0 ≤ i) (h:i ≤ LIM) (h1:(fz s.heap (X.Z C lc ol)).IsList t1 xs.toArray) (r1:relDs C X ol lc s.heap [a] xs)
    (K:KD C X lc ρ ow ol σ s Q (.lst (List.replicate i.toNat a))):wpAny C.M A (binaryOp .Mult (.ref t1) (.int i u)) Q E s:=by
  obtain ⟨⟨cls,dd,data,sl⟩,ho,hc,n1,hd⟩:=isList_of h1
  simp only at hc hd
  subst hc hd
  obtain ⟨v,rv,rfl⟩:∃ v,RelD C.prog C.w (fz s.heap (X.Z C lc ol)) a v∧xs=[v]:=by
    cases r1 with
    | cons h t=>cases t; exact ⟨_,h,rfl⟩
  have hl:i ≤ 100000:=h
  refine wpAny_binaryOp_repeat_ref (T:="list") (U:="int") (by decide) ⟨_,ho,rfl⟩ (fun s'=>typeIs_int s' i u) noFill_list_mul PySem.F.fills_int_mul PySem.F.slot_int_rmul repeat_list PySem.F.slot_int_index.lookup
    (call_meets PySem.F.slot_int_rmul (typeIs_int s i u) PySem.F.entry_int_rmul (PySem.F.args_int_rmul_2 _ _) (lm_int_rmul_list_any i u t1 _ n1 dd sl)
      ⟨ho,rfl,⟨_,ho,rfl⟩,call_meets PySem.F.slot_list_mul ⟨_,ho,rfl⟩ PySem.F.entry_list_mul (PySem.F.args_list_mul_2 _ _)
        (lm_list_mul_any t1 _ n1 dd sl i u (by simp [Builtin.List.listFitsIndex]; omega) (by simp; omega) (by simp [Builtin.List.listTooLong,sizeLine]; omega))
        ⟨ho,?_⟩⟩)
  have:=K.lst t (tk:=s.toks) (RelDs.replicate rv i.toNat)
  rw [fold_one] 
  simpa using this

theorem mul_ok {a b:Int} (h:a.natAbs < 4294967296):IntMulOk a b:=IntMulOk.of_left (intBits_le_64 (by omega) (by omega))

theorem bin_okD {o:Op} {x y:D} {vx vy:Value} {d:D} (t:St C X lc ρ ow ol σ s) (hx:relD C X ol lc s.heap x vx) (hy:relD C X ol lc s.heap y vy)
    (e:binD o x y=some d) (K:KD C X lc ρ ow ol σ s Q d):wpAny C.M A (binaryOp (opP o) vx vy) Q E s:=by
  cases o with
  | add =>
    cases hx with
    | int a u=>refine Xeaa (Option.map_eq_some_iff.mp e) fun b h zz=>?_; clear e; subst zz; cases D.asInt_inv h; refine Xea (hy.int_inv) fun _ zz=>?_; subst zz; exact PyProof.Rows.add_int (K.int t)
    | str a u =>
      refine Xeaa (Option.bind_eq_some_iff.mp e) fun b h e2=>?_; clear e
      cases D.asStr_inv h; refine Xea (hy.str_inv) fun _ zz=>?_; subst zz
      refine Xaa (iteS e2) fun hl zz=>?_; clear e2; subst zz
      exact bin_add_str t ‹_› K
    | tup h1 r1 =>
      refine Xeaa (Option.bind_eq_some_iff.mp e) fun b h e2=>?_; clear e
      cases D.asTup_inv h; refine Xeeaaa (hy.tup_inv) fun _ _ zz h2 r2=>?_; subst zz
      refine Xaa (iteS e2) fun hl zz=>?_; clear e2; subst zz
      exact bin_add_tup t ‹_› h1 r1 h2 r2 K
    | lst h1 r1 =>
      refine Xeaa (Option.bind_eq_some_iff.mp e) fun b h e2=>?_; clear e
      cases D.asLst_inv h; refine Xeeaaa (hy.lst_inv) fun _ _ zz h2 r2=>?_; subst zz
      refine Xaa (iteS e2) fun hl zz=>?_; clear e2; subst zz
      exact bin_add_lst t ‹_› h1 r1 h2 r2 K
    | _=>cases e
  | sub =>
    refine Xeeaaa (int2_inv e) fun a b z1 z2 e2=>?_; clear e; subst z1 z2
    refine Xea (hx.int_inv) fun _ zz=>?_; subst zz; refine Xea (hy.int_inv) fun _ zz=>?_; subst zz; cases e2; exact PyProof.Rows.sub_int (K.int t)
  | mul =>
    cases hx with
    | int a u =>
      refine Xeaa (Option.bind_eq_some_iff.mp e) fun b h e2=>?_; clear e
      cases D.asInt_inv h; refine Xea (hy.int_inv) fun _ zz=>?_; subst zz
      refine Xaa (iteS e2) fun hl zz=>?_; clear e2; subst zz
      exact PyProof.Rows.mul_int (K.int t) (mul_ok ‹_›)
    | lst h1 r1 =>
      refine Xeaa (Option.bind_eq_some_iff.mp e) fun b h e2=>?_; clear e
      cases one_inv h
      refine Xeaa (Option.bind_eq_some_iff.mp e2) fun c h e3=>?_; clear e2
      cases D.asInt_inv h; refine Xea (hy.int_inv) fun _ zz=>?_; subst zz
      refine Xaa (iteS e3) fun hn zz=>?_; clear e3; subst zz
      exact bin_mul_lst t hn.1 hn.2 h1 r1 K
    | _=>cases e
  | fdiv =>
    refine Xeeaaa (int2_inv e) fun a b z1 z2 e2=>?_; clear e; subst z1 z2
    refine Xea (hx.int_inv) fun _ zz=>?_; subst zz; refine Xea (hy.int_inv) fun _ zz=>?_; subst zz
    refine Xaa (iteS e2) fun hb zz=>?_; clear e2; subst zz
    refine PyProof.Rows.floordiv_int (by omega) ?_ (.inl (PyProof.noPylong_small (by omega)))
    rw [Int.fdiv_eq_ediv_of_nonneg _ (by omega)]
    exact K.int t
  | mod =>
    refine Xeeaaa (int2_inv e) fun a b z1 z2 e2=>?_; clear e; subst z1 z2
    refine Xea (hx.int_inv) fun _ zz=>?_; subst zz; refine Xea (hy.int_inv) fun _ zz=>?_; subst zz
    refine Xaa (iteS e2) fun hb zz=>?_; clear e2; subst zz
    refine PyProof.Rows.mod_int (by omega) ?_
    rw [Int.fmod_eq_emod_of_nonneg _ (by omega)]
    exact K.int t
theorem bin_ok {o:Op} {x y:D} {vx vy:Value} (t:St C X lc ρ ow ol σ s) (hx:relD C X ol lc s.heap x vx) (hy:relD C X ol lc s.heap y vy)
    (K:Cont C X (relV C X ol) lc ρ ow ol s (ofOpt σ ((binD o x y).map V.d)) Q E):wpAny C.M A (binaryOp (opP o) vx vy) Q E s:=Xeaa (K.od) fun _ e K=>bin_okD t hx hy e K
end
section
variable {prog:Program} {w:World} {h:Heap} {Z:List Addr}
theorem reads_all {n:Nat} (ih:∀ {v:Value} {d:D},RelD prog w (fz h Z) d v→okE n d=true→∃ as,Reads h v (toP d) as) {ds:List D}:∀ {vs:List Value},RelDs prog w (fz h Z) ds vs→ds.all (okE n)=true→∃ as,ReadsAll h vs (toPs ds) as:=by
  induction ds with
  | nil=>intro vs r _; cases r; exact ⟨_,ReadsAll.nil⟩
  | cons d ds ihs =>
    intro vs r hk
    cases r with
    | cons hd r=>exact (ih hd (Bool.and_eq_true_iff.mp hk).1).elim fun _ q=>(ihs r (Bool.and_eq_true_iff.mp hk).2).elim fun _ p=>⟨_,ReadsAll.cons q p⟩
theorem reads_of (n:Nat):∀ {v:Value} {d:D},RelD prog w (fz h Z) d v→okE n d=true→∃ as,Reads h v (toP d) as:=by
  induction n with
  | zero =>
    intro v d r hk
    cases r with
    | null=>exact ⟨_,Reads.none⟩
    | bool b=>exact ⟨_,Reads.bool b⟩
    | int i t=>exact ⟨_,Reads.int i t⟩
    | str x t=>exact ⟨_,Reads.str _ t⟩
    | _=>cases hk
  | succ n ih =>
    intro v d r hk
    cases r with
    | null=>exact ⟨_,Reads.none⟩
    | bool b=>exact ⟨_,Reads.bool b⟩
    | int i t=>exact ⟨_,Reads.int i t⟩
    | str x t=>exact ⟨_,Reads.str _ t⟩
    | tup hm r =>
      refine Xea (reads_all ih r hk) fun as q=>?_
      refine Xeaaea (isTuple_of hm) fun o ho hc k hd=>?_
      exact ⟨as,reads_tuple_at ho hc hd (by simpa using q)⟩
    | lst hm r =>
      refine Xea (reads_all ih r hk) fun as q=>?_
      refine Xeaaea (isList_of hm) fun o ho hc k hd=>?_
      exact ⟨_,reads_list_at ho hc hd (by simpa using q)⟩
    | _=>cases hk
end

theorem okE_str (s:List Nat) (h:s.all (· < 0x110000)=true):(toP (.str s)).canLay0=true∧(toP (.str s)).depth ≤ 0:=by
  refine ⟨?_,Nat.le_refl _⟩
  show PyData.strOk ⟨s.toArray⟩=true
  unfold PyData.strOk
  rw [List.all_toArray]; exact h
theorem okE_lay:∀ (n:Nat) (d:D),okE n d=true→(toP d).canLay0=true∧(toP d).depth ≤ n:=by
  have all:∀ (n:Nat),(∀ d,okE n d=true→(toP d).canLay0=true∧(toP d).depth ≤ n)→∀ ds:List D,ds.all (okE n)=true→PyData.canLayAll0 (toPs ds)=true∧PyData.depthAll (toPs ds) + 1 ≤ n + 1:=by
    intro n ih ds
    induction ds with
    | nil=>intro _; exact ⟨rfl,Nat.succ_le_succ (Nat.zero_le _)⟩
    | cons d ds hi =>
      intro h
      refine Xaa (Bool.and_eq_true_iff.mp h) fun g1 g2=>?_
      refine Xaa (ih d g1) fun a1 a2=>?_
      refine Xaa (hi g2) fun b1 b2=>?_
      exact ⟨Bool.and_eq_true_iff.mpr ⟨a1,b1⟩,Nat.succ_le_succ (Nat.max_le.mpr ⟨a2,Nat.le_of_succ_le_succ b2⟩)⟩
  intro n
  induction n with
  | zero =>
    intro d h
    cases d with
    | str s=>exact okE_str s h
    | _=>first | exact ⟨rfl,Nat.le_refl _⟩ | cases h
  | succ n ih =>
    intro d h
    cases d with
    | tup ds=>exact all n ih ds h
    | lst ds=>exact all n ih ds h
    | str s=>exact ⟨(okE_str s h).1,Nat.zero_le _⟩
    | _=>first | exact ⟨rfl,Nat.zero_le _⟩ | cases h

theorem mkS_beq (a b:List Nat):(mkS a == mkS b)=(a == b):=by
  rw [Bool.eq_iff_iff,beq_iff_eq,beq_iff_eq]
  constructor
  · intro h
    have:=congrArg (fun x:Str=>x.cps.toList) h
    simpa using this
  · rintro rfl; rfl

noncomputable def cmP:Cm→CmpOp
  | .eq=>.Eq | .ne=>.NotEq | .lt=>.Lt | .le=>.LtE | .gt=>.Gt | .ge=>.GtE | .isIn=>.In | .notIn=>.NotIn | .is=>.Is | .isNot=>.IsNot

theorem strLe_eq:∀ (a b:List Nat),strLe a b=!(decide (b < a))
  | [],b=>by simp [strLe]
  | _ :: _,[]=>by simp [strLe]
  | x :: a,y :: b=>by
    rw [strLe,strLe_eq a b]
    have e:(y :: b < x :: a) ↔ (y < x∨(y=x∧b < a)):=List.cons_lt_cons_iff
    by_cases h1:x < y
    · rw [if_pos h1]
      have:¬ (y :: b < x :: a):=by rw [e]; lia
      simp [this]
    · rw [if_neg h1]
      by_cases h2:x=y
      · rw [if_pos h2]; subst h2
        have:(x :: b < x :: a) ↔ b < a:=by rw [e]; simp
        simp [this]
      · rw [if_neg h2]
        have:(y :: b < x :: a):=by rw [e]; lia
        simp [this]

section
variable {C:Cst} {A:Around} {X:Act} {lc:Loc} {ρ:Ro} {ow:Nat→Option Addr} {ol:List Addr} {σ:Store} {s:Shared} {Q:Value→Shared→Prop} {E:Value→Shared→Prop} {n:Nat}

theorem RelDs.vlookup {prog:Program} {w:World} {F:Heap} {K:Type} [DecidableEq K]:∀ {l:List (K × D)} {kvs:List (K × Value)} (k:K),kvs.map (·.1)=l.map (·.1)→RelDs prog w F (l.map (·.2)) (kvs.map (·.2)) →
    (∀ d,l.lookup k=some d→∃ v,valueAt kvs k=some v∧RelD prog w F d v)∧(l.lookup k=none→valueAt kvs k=none)
  | [],[],k,_,_=>⟨fun _ e=>by simp at e,fun _=>rfl⟩
  | [],_ :: _,_,e,_=>by simp at e
  | _ :: _,[],_,e,_=>by simp at e
  | (x,d) :: l,(y,v) :: kvs,k,e,r=>by
    simp only [List.map_cons,List.cons.injEq] at e
    obtain ⟨rfl,e⟩:=e
    cases r with
    | cons h t =>
      have ih:=RelDs.vlookup (l:=l) (kvs:=kvs) k e t
      unfold valueAt
      rw [List.lookup_cons,List.find?_cons]
      by_cases q:y=k
      · subst q
        simp
        exact h
      · have q':(k == y)=false:=by simpa using fun z=>q z.symm
        rw [q']
        simp only [q,decide_false]
        exact ih

theorem lookup_mkS:∀ (l:List (List Nat × D)) (k:List Nat),(l.map fun p=>(mkS p.1,p.2)).lookup (mkS k)=l.lookup k
  | [],k=>rfl
  | (a,d) :: l,k=>by
    rw [List.map_cons,List.lookup_cons,List.lookup_cons,mkS_beq,lookup_mkS l k]

theorem vlookupS {prog:Program} {w:World} {F:Heap} {l:List (List Nat × D)} {kvs:List (Str × Value)} (k:List Nat) (e:kvs.map (·.1)=l.map (fun p=>mkS p.1)) (r:RelDs prog w F (l.map (·.2)) (kvs.map (·.2))) :
    (∀ d,l.lookup k=some d→∃ v,valueAt kvs (mkS k)=some v∧RelD prog w F d v)∧(l.lookup k=none→valueAt kvs (mkS k)=none):=by
  have:=RelDs.vlookup (l:=l.map fun p=>(mkS p.1,p.2)) (kvs:=kvs) (mkS k) (by simpa [Function.comp_def] using e) (by simpa [Function.comp_def] using r)
  rwa [lookup_mkS] at this

theorem dictOf_to {K:Type} [DecidableEq K] {knd:KeyKind C.prog C.w K} {Z:List Addr} {h:Heap} {a:Addr} {kvs:List (K × Value)} (x:(fz h Z).DictOf knd a kvs):h.DictOf knd a kvs :=
  let ⟨o,es,ep,ho,r⟩:=x; ⟨o,es,ep,Sub.to ho,r⟩

theorem valueAt_isSome {K:Type} [DecidableEq K] {prog:Program} {w:World} {F:Heap} {l:List (K × D)} {kvs:List (K × Value)} {k:K}
    (x:(∀ d,l.lookup k=some d→∃ v,valueAt kvs k=some v∧RelD prog w F d v)∧(l.lookup k=none→valueAt kvs k=none)):(valueAt kvs k).isSome=(l.lookup k).isSome:=by
  cases q:l.lookup k with
  | none=>rw [x.2 q]; rfl
  | some d=>obtain ⟨v,e,_⟩:=x.1 d q; rw [e]; rfl

theorem any_rel {prog:Program} {w:World} {F:Heap} (f:D→Bool) (g:Value→Bool) (hg:∀ d v,RelD prog w F d v→g v=f d):∀ {l:List D} {xs:List Value},RelDs prog w F l xs→xs.any g=l.any f
  | _,_,.nil=>rfl
  | _,_,.cons h t=>by rw [List.any_cons,List.any_cons,hg _ _ h,any_rel f g hg t]

noncomputable def valInt:Value→Option Int
  | .int i _=>some i
  | _=>none
noncomputable def valStr:Value→Option (List Nat)
  | .str x _=>some x.cps.toList
  | _=>none

theorem in_ok {x y:D} {vx vy:Value} {b:Bool} (t:St C X lc ρ ow ol σ s) (hx:relD C X ol lc s.heap x vx) (hy:relD C X ol lc s.heap y vy) (e:inD x y=some b) :
    (KD C X lc ρ ow ol σ s Q (.bool b)→wpAny C.M A (compareOp .In vx vy) Q E s)∧(KD C X lc ρ ow ol σ s Q (.bool !b)→wpAny C.M A (compareOp .NotIn vx vy) Q E s):=by
  cases hy with
  | @tup l p xs h1 r1 =>
    cases hx with
    | int a ta =>
      refine Xaa (iteS e) fun hl zz=>?_; subst zz
      have he:∀ y,y ∈ xs.toArray→SeqAt.EqAt A.in1 s y (.int a ta) (decide (valInt y=some a)):=by
        intro y hy
        have hy:y ∈ xs:=by simpa using hy
        refine Xea (List.mem_iff_getElem?.mp hy) fun i hi=>?_
        refine Xeaa (r1.get' hi) fun d hd rd=>?_
        refine Xea (Option.isSome_iff_exists.mp (List.all_eq_true.mp hl d (List.mem_of_getElem? hd))) fun u hu=>?_
        cases D.asInt_inv hu
        refine Xea (rd.int_inv) fun v zz1=>?_; subst zz1
        have z:=SeqAt.EqAt.int_int (A:=A.in1) (s:=s) u v a ta
        simpa [valInt,Bool.beq_eq_decide_eq] using z
      have hany:xs.toArray.any (fun y=>decide (valInt y=some a))=l.any fun d=>decide (d.asInt=some a):=by
        rw [List.any_toArray]
        exact any_rel _ _ (fun d v r=>by cases r <;> rfl) r1
      exact ⟨fun K=>SeqAt.in_tupleAt _ (isTuple_of h1) he (by rw [hany]; exact K.bool t),fun K=>SeqAt.notIn_tupleAt _ (isTuple_of h1) he (by rw [hany]; exact K.bool t)⟩
    | str a ta =>
      refine Xaa (iteS e) fun hl zz=>?_; subst zz
      have he:∀ y,y ∈ xs.toArray→SeqAt.EqAt A.in1 s y (.str (mkS a) ta) (decide (valStr y=some a)):=by
        intro y hy
        have hy:y ∈ xs:=by simpa using hy
        refine Xea (List.mem_iff_getElem?.mp hy) fun i hi=>?_
        refine Xeaa (r1.get' hi) fun d hd rd=>?_
        refine Xea (Option.isSome_iff_exists.mp (List.all_eq_true.mp hl d (List.mem_of_getElem? hd))) fun u hu=>?_
        cases D.asStr_inv hu
        refine Xea (rd.str_inv) fun v zz1=>?_; subst zz1
        have z:=SeqAt.EqAt.str_str (A:=A.in1) (s:=s) (mkS u) v (mkS a) ta
        rw [mkS_beq] at z
        simpa [valStr,Bool.beq_eq_decide_eq] using z
      have hany:xs.toArray.any (fun y=>decide (valStr y=some a))=l.any fun d=>decide (d.asStr=some a):=by
        rw [List.any_toArray]
        exact any_rel _ _ (fun d v r=>by cases r <;> first | rfl | simp [valStr,D.asStr]) r1
      exact ⟨fun K=>SeqAt.in_tupleAt _ (isTuple_of h1) he (by rw [hany]; exact K.bool t),fun K=>SeqAt.notIn_tupleAt _ (isTuple_of h1) he (by rw [hany]; exact K.bool t)⟩
    | _=>cases e
  | dcI hn hd hk hr =>
    refine Xeaa (Option.map_eq_some_iff.mp e) fun a h zz=>?_; clear e; subst zz
    cases D.asInt_inv h
    refine Xea (hx.int_inv) fun ta zz1=>?_; subst zz1
    have e:=valueAt_isSome (RelDs.vlookup a hk hr)
    exact ⟨fun K=>wpAny_in_of (intKind_is _ _ _ _) hn (dictOf_to hd).mapOf (by rw [e]; exact K.toks t (.bool _)),fun K=>wpAny_notIn_of (intKind_is _ _ _ _) hn (dictOf_to hd).mapOf (by rw [e]; exact K.toks t (.bool _))⟩
  | @dcS l _ kvs hn hd hk hr =>
    refine Xeaa (Option.map_eq_some_iff.mp e) fun a h zz=>?_; clear e; subst zz
    cases D.asStr_inv h
    refine Xea (hx.str_inv) fun ta zz1=>?_; subst zz1
    have e:(valueAt kvs (mkS a)).isSome=(l.lookup a).isSome:=by
      have:=vlookupS a hk hr
      cases q:l.lookup a with
      | none=>rw [this.2 q]; rfl
      | some d=>refine Xeaa (this.1 d q) fun v e _=>?_; rw [e]; rfl
    exact ⟨fun K=>wpAny_in_of (strKind_is _ _ _ _) hn (dictOf_to hd).mapOf (by rw [e]; exact K.toks t (.bool _)),fun K=>wpAny_notIn_of (strKind_is _ _ _ _) hn (dictOf_to hd).mapOf (by rw [e]; exact K.toks t (.bool _))⟩
  | str s' tb =>
    refine Xeaa (Option.bind_eq_some_iff.mp e) fun a h e2=>?_; clear e
    cases D.asStr_inv h
    refine Xeaa (Option.map_eq_some_iff.mp e2) fun c h zz=>?_; clear e2; subst zz
    cases one_inv h
    refine Xea (hx.str_inv) fun ta zz1=>?_; subst zz1
    have e:=StrLaws.found_one
    exact ⟨fun K=>PyProof.Rows.in_str (by rw [e]; exact K.bool t),fun K=>PyProof.Rows.notIn_str (by rw [e]; exact K.bool t)⟩
  | _=>cases e

theorem eq_ok {x y:D} {vx vy:Value} {b:Bool} (ha:A.units + 64 < cLine) (t:St C X lc ρ ow ol σ s) (hx:relD C X ol lc s.heap x vx) (hy:relD C X ol lc s.heap y vy) (e:eqD x y=some b) :
    (KD C X lc ρ ow ol σ s Q (.bool b)→wpAny C.M A (compareOp .Eq vx vy) Q E s)∧(KD C X lc ρ ow ol σ s Q (.bool !b)→wpAny C.M A (compareOp .NotEq vx vy) Q E s):=by
  cases q:x.asStr.bind fun a=>y.asStr.map fun b=>a == b with
  | some b' =>
    have e:(x.asStr.bind fun a=>y.asStr.map fun b=>a == b).or _=some b:=e
    rw [q] at e; cases e
    refine Xeaa (Option.bind_eq_some_iff.mp q) fun a h q2=>?_; clear q
    refine Xeaa (Option.map_eq_some_iff.mp q2) fun c h2 zz=>?_; clear q2; subst zz
    cases D.asStr_inv h; cases D.asStr_inv h2
    refine Xea (hx.str_inv) fun ta zz=>?_; subst zz
    refine Xea (hy.str_inv) fun tb zz=>?_; subst zz
    refine ⟨fun K=>PyProof.Rows.eq_str (by rw [mkS_beq]; exact K.bool t),fun K=>PyProof.Rows.ne_str ?_⟩
    show Q (.bool !(mkS _ == mkS _)) s
    rw [mkS_beq]; exact K.bool t
  | none =>
    have e:(x.asStr.bind fun a=>y.asStr.map fun b=>a == b).or _=some b:=e
    rw [q] at e
    refine Xaa (iteS e) fun hk zz=>?_; clear e; subst zz
    refine Xaa (Bool.and_eq_true_iff.mp hk) fun k1 k2=>?_
    refine Xea (reads_of 16 hx k1) fun _ ra=>?_
    refine Xea (reads_of 16 hy k2) fun _ rb=>?_
    have la:=okE_lay 16 _ k1
    have lb:=okE_lay 16 _ k2
    have ev:PyData.eqv (toP x) (toP y)=D.eqv x y:=rfl
    have sa:SeqAt.shaped (toP x)=true:=by unfold SeqAt.shaped; rw [la.1,Bool.true_and]; exact decide_eq_true (Nat.le_trans la.2 (by decide))
    have sb:SeqAt.shaped (toP y)=true:=by unfold SeqAt.shaped; rw [lb.1,Bool.true_and]; exact decide_eq_true (Nat.le_trans lb.2 (by decide))
    exact ⟨fun K=>eq_dataH ra rb sa sb ha (by rw [ev]; exact K.bool t),fun K=>ne_dataH ra rb sa sb ha (by rw [ev]; exact K.bool t)⟩

theorem cmp_ok {o:Cm} {x y:D} {vx vy:Value} {b:Bool} (ha:A.units + 64 < cLine) (t:St C X lc ρ ow ol σ s) (hx:relD C X ol lc s.heap x vx) (hy:relD C X ol lc s.heap y vy)
    (e:cmpD o x y=some b) (K:KD C X lc ρ ow ol σ s Q (.bool b)):wpAny C.M A (compareOp (cmP o) vx vy) Q E s:=by
  cases o with
  | eq=>exact (eq_ok ha t hx hy e).1 K
  | ne =>
    refine Xeaa (Option.map_eq_some_iff.mp e) fun b' e' zz1=>?_; subst zz1
    exact (eq_ok ha t hx hy e').2 K
  | lt =>
    refine Xeeaaa (int2_inv e) fun a b z1 z2 e2=>?_; clear e; subst z1 z2
    refine Xea (hx.int_inv) fun _ zz=>?_; subst zz; refine Xea (hy.int_inv) fun _ zz=>?_; subst zz; cases e2; exact PyProof.Rows.lt_int (K.bool t)
  | le =>
    cases hx with
    | int a u =>
      refine Xeaa (Option.map_eq_some_iff.mp e) fun b h zz=>?_; clear e; subst zz
      cases D.asInt_inv h; refine Xea (hy.int_inv) fun _ zz=>?_; subst zz; exact PyProof.Rows.le_int (K.bool t)
    | str a u =>
      refine Xeaa (Option.map_eq_some_iff.mp e) fun b h zz=>?_; clear e; subst zz
      cases D.asStr_inv h; refine Xea (hy.str_inv) fun _ zz=>?_; subst zz
      refine P.le_str ?_
      have:=K.bool t
      rw [strLe_eq] at this
      exact this
    | _=>cases e
  | gt =>
    refine Xeeaaa (int2_inv e) fun a b z1 z2 e2=>?_; clear e; subst z1 z2
    refine Xea (hx.int_inv) fun _ zz=>?_; subst zz; refine Xea (hy.int_inv) fun _ zz=>?_; subst zz; cases e2; exact PyProof.Rows.gt_int (K.bool t)
  | ge =>
    refine Xeeaaa (int2_inv e) fun a b z1 z2 e2=>?_; clear e; subst z1 z2
    refine Xea (hx.int_inv) fun _ zz=>?_; subst zz; refine Xea (hy.int_inv) fun _ zz=>?_; subst zz; cases e2; exact PyProof.Rows.ge_int (K.bool t)
  | isIn=>exact (in_ok t hx hy e).1 K
  | notIn =>
    refine Xeaa (Option.map_eq_some_iff.mp e) fun b' e' zz1=>?_; subst zz1
    exact (in_ok t hx hy e').2 K
  | is =>
    cases hz:y.isNl with
    | false=>have e:(if y.isNl=true then some x.isNl else none)=some b:=e; rw [hz] at e; cases e
    | true =>
      cases D.isNl_inv hz
      obtain rfl:=hy.null_inv; cases e
      refine is_none_gen ?_
      have:=K.bool t
      cases hx <;> exact this
  | isNot =>
    cases hz:y.isNl with
    | false=>have e:(if y.isNl=true then some (!x.isNl) else none)=some b:=e; rw [hz] at e; cases e
    | true =>
      cases D.isNl_inv hz
      obtain rfl:=hy.null_inv; cases e
      refine isnot_none_gen ?_
      have:=K.bool t
      cases hx <;> exact this
end
section
variable {prog:Program} {w:World} {A:Around} {E:Value→Shared→Prop} {s:Shared} {Q:Value→Shared→Prop}
theorem tail_ok {value slice:Expr} {o i:Value} {T id:String} {ops:List Value} (hT:s.TypeIs o T)
    (hl:typeLookup (.type T) "__getitem__"=pure (some (.builtin id))) (hs:subscripted slice false o i=operate ops (getItem o i))
    (h:wpAny (model prog w) A (getItem o i) Q E s):wpAny (model prog w) A (subscriptTail value slice o i) Q E s:=by
  refine wpAny_bind ?_
  rw [getitemInPython_of_ne hT.not_modules]
  refine wpAny_bind (wpAny_specialOf hT hl ?_)
  have fin:wpAny (model prog w) A (subscripted slice false o i) (fun r s₃=>wpAny (model prog w) A (letTemporaryGo value o r >>= fun _=>pure r) Q E s₃) E s:=by
    rw [hs]
    exact wpAny_operating (wpAny_mono h (fun r s₃ h₃=>wpAny_bind (wpAny_letTemporaryGo (wpAny_pure h₃))) fun _ _ x=>x)
  first
    | exact wpAny_pure (wpAny_bind fin)
    | exact wpAny_bind (wpAny_pure (wpAny_bind fin))
    | exact wpAny_bind fin
end

noncomputable def notSlice (a:Expr):Bool:=a.ctorIdx != 26
theorem subscripted_plain {slice:Expr} (h:notSlice slice=true) (o i:Value):subscripted slice false o i=operate [o,i] (getItem o i):=by
  cases slice <;> first | rfl | cases h

section
variable {C:Cst} {A:Around} {X:Act} {lc:Loc} {ρ:Ro} {ow:Nat→Option Addr} {ol:List Addr} {σ:Store} {s:Shared} {Q:Value→Shared→Prop} {E:Value→Shared→Prop} {n:Nat}

theorem idx_some {α:Type} {l:List α} {i:Int} {x:α} (h:idx l i=some x):0 ≤ i∧l[i.toNat]?=some x∧i.toNat < l.length:=by
  unfold idx at h
  split at h
  · refine ⟨‹_›,h,?_⟩
    exact (List.getElem?_eq_some_iff.mp h).1
  · cases h
theorem seqIndex_of {i:Int} {n:Nat} (h0:0 ≤ i) (h:i.toNat < n):seqIndex? i n=some i.toNat:=by
  unfold seqIndex?
  simp only [if_neg (show ¬ i < 0 by exact Int.not_lt_of_ge h0)]
  rw [if_pos (by simp only [Bool.and_eq_true,decide_eq_true_eq]; lia)]

noncomputable def small (i:Int):Prop:=-(2 ^ 63) ≤ i∧i < 2 ^ 63

theorem sub_ok {value slice:Expr} {x:V} {y:D} {vx vy:Value} (hn:notSlice slice=true) (t:St C X lc ρ ow ol σ s) (hx:relV C X ol lc s.heap x vx) (hy:relD C X ol lc s.heap y vy)
    (K:Cont C X (relV C X ol) lc ρ ow ol s (subV x y σ) Q E):wpAny C.M A (subscriptTail value slice vx vy) Q E s:=by
  cases x with
  | d x =>
    refine Xeaa (Cont.od K) fun d e KK=>?_
    have hx:relD C X ol lc s.heap x vx:=hx
    cases hx with
    | tup h1 r1 =>
      refine Xeaa (Option.bind_eq_some_iff.mp e) fun a h e2=>?_; clear e
      cases D.asInt_inv h
      refine Xea (hy.int_inv) fun u zz=>?_; subst zz
      refine Xaa (iteO e2) fun hi e=>?_
      refine Xaaa (idx_some e) fun h0 h2 h3=>?_
      refine Xeaa (r1.get h2) fun v hv rv=>?_
      have hl:=r1.length
      exact tail_ok (isTuple_of h1).typeIs slot_tuple_getitem.lookup (subscripted_plain hn _ _) (getItem_tuple (isTuple_of h1) (by lia) (by lia) (seqIndex_of h0 (by simpa [← hl] using h3)) (by simpa using hv) (KK.here t rv))
    | lst h1 r1 =>
      refine Xeaa (Option.bind_eq_some_iff.mp e) fun a h e2=>?_; clear e
      cases D.asInt_inv h
      refine Xea (hy.int_inv) fun u zz=>?_; subst zz
      refine Xaa (iteO e2) fun hi e=>?_
      refine Xaaa (idx_some e) fun h0 h2 h3=>?_
      refine Xeaa (r1.get h2) fun v hv rv=>?_
      exact tail_ok (isList_of h1).typeIs list_getitem_lookup (subscripted_plain hn _ _) (wpAny_getItem_list (isList_of h1) h0 (by lia) (by simpa using hv) (KK.here t rv))
    | str l u1 =>
      refine Xeaa (Option.bind_eq_some_iff.mp e) fun a h e2=>?_; clear e
      cases D.asInt_inv h
      refine Xea (hy.int_inv) fun u zz=>?_; subst zz
      refine Xaa (iteO e2) fun hi e=>?_
      refine Xeaa (Option.map_eq_some_iff.mp e) fun c e' zz1=>?_; subst zz1
      refine Xaaa (idx_some e') fun h0 h2 h3=>?_
      refine tail_ok (T:="str") (typeIs_str _ _ _) F.slot_str_getitem.lookup (subscripted_plain hn _ _) (PyProof.Rows.getItem_str (c:=c) (by simp only [Bool.or_eq_false_iff,decide_eq_false_iff_not]; lia) ?_ (KK.str t rfl))
      rw [seqIndex_of h0 (by rw [mkS_length]; exact h3)]
      simpa using h2
    | dcI hn' hd hk hr =>
      refine Xeaa (Option.bind_eq_some_iff.mp e) fun a h e2=>?_; clear e
      cases D.asInt_inv h
      refine Xea (hy.int_inv) fun u zz1=>?_; subst zz1
      refine Xeaa ((RelDs.vlookup _ hk hr).1 d e2) fun v hv rv=>?_
      exact tail_ok (dictOf_to hd).typeIs slot_dict_getitem.lookup (subscripted_plain hn _ _) (wpAny_getItem_of (intKind_is _ _ _ _) (dictOf_to hd).mapOf hv (KK.toks t rv))
    | dcS hn' hd hk hr =>
      refine Xeaa (Option.bind_eq_some_iff.mp e) fun a h e2=>?_; clear e
      cases D.asStr_inv h
      refine Xea (hy.str_inv) fun u zz1=>?_; subst zz1
      refine Xeaa ((vlookupS _ hk hr).1 d e2) fun v hv rv=>?_
      exact tail_ok (dictOf_to hd).typeIs slot_dict_getitem.lookup (subscripted_plain hn _ _) (wpAny_getItem_of (strKind_is _ _ _ _) (dictOf_to hd).mapOf hv (KK.toks t rv))
    | _=>cases e
  | box =>
    refine Xeaa (hx) fun p e zz1=>?_; subst zz1
    have hb:=t.g.box
    cases y with
    | int i =>
      refine Xea (hy.int_inv) fun u zz1=>?_; subst zz1
      rw [e] at hb
      cases q:σ.box with
      | none=>rw [q] at hb; exact hb.elim
      | some z =>
        rw [q] at hb
        refine Xaeeaaa (hb) fun _ tk xs h1 h2 h3=>?_
        rw [subV0] at K
        by_cases hi:i=0
        · subst hi
          rw [if_pos rfl] at K
          exact tail_ok h1.isList.typeIs list_getitem_lookup (subscripted_plain hn _ _) (wpAny_getItem_list h1.isList (by lia) (by lia) (x:=.ref p.2) rfl (K.ok .bxl σ lc s _ rfl (Ext.refl t) ⟨p,e,rfl⟩))
        · rw [if_neg hi] at K
          by_cases hi:i=1
          · subst hi
            rw [if_pos rfl,q] at K
            exact tail_ok h1.isList.typeIs list_getitem_lookup (subscripted_plain hn _ _) (wpAny_getItem_list h1.isList (by exact Int.one_nonneg) (by lia) (x:=.int z.2 tk) rfl (K.ok (.d (.int z.2)) σ lc s _ rfl (Ext.refl t) (RelD.int _ _)))
          · rw [if_neg hi] at K
            exact absurd rfl K.nb
    | _=>exact absurd rfl K.nb
  | bxl=>exact absurd rfl K.nb
  | rd=>exact absurd rfl K.nb
  | own l=>exact absurd rfl K.nb
  | raw u=>exact absurd rfl K.nb
end
theorem slice_run {α:Type} (l:List α) (lo hi:Int):(l.drop (min lo.toNat l.length)).take (min hi.toNat l.length - min lo.toNat l.length)=slice l lo hi:=by
  unfold slice
  rw [List.drop_take]
  generalize lo.toNat=a
  generalize hi.toNat=b
  by_cases h1:l.length ≤ a
  · rw [Nat.min_eq_right h1,List.drop_length,List.drop_of_length_le h1]; simp
  · rw [Nat.min_eq_left (by exact Nat.le_of_not_ge h1:a ≤ l.length)]
    by_cases h2:l.length ≤ b
    · rw [Nat.min_eq_right h2,List.take_of_length_le (by simp),List.take_of_length_le (by simp; lia)]
    · rw [Nat.min_eq_left (by lia:b ≤ l.length)]

theorem clip (a:Int) (n:Nat) (h:0 ≤ a):max 0 (min a (n:Int))=((min a.toNat n:Nat):Int):=by
  have e:=clipAt_cast n a
  rw [if_neg (Int.not_lt.mpr h),← Int.toNat_of_nonneg h,clipAt_nat] at e
  rw [← Int.toNat_of_nonneg h]
  exact e.symm
theorem sub_all {k m n:Nat} (hk:k ≤ n) (hm:m ≤ n) (h:k - m=n):m=0:=by omega
theorem strIndices (lo hi:Int) (n:Nat) (h0:0 ≤ lo) (h1:0 ≤ hi):Builtin.Str.strSliceIndices (some lo) (some hi) 1 n=(List.range (min hi.toNat n - min lo.toNat n)).map (min lo.toNat n + ·):=by
  unfold Builtin.Str.strSliceIndices
  have a1:¬ lo < 0:=by exact Int.not_lt_of_ge h0
  have a2:¬ hi < 0:=Int.not_lt_of_ge h1
  simp only [a1,a2,if_false,show (1:Int) > 0 by decide,if_true]
  rw [clip lo n h0,clip hi n h1,sliceRange_one]

theorem sliceMade_slc {l:List Nat} {t tl th:Tok} {lo hi:Int} (h0:0 ≤ lo) (h1:0 ≤ hi) (hl:l.length ≤ LIM) {Q:Value→Shared→Prop} {s:Shared}
    (K:∀ t' tk,Q (.str (mkS (slice l lo hi)) t') { s with toks:=tk }):(sliceMade (mkS l) t (some (lo,tl)) (some (hi,th)) none).post Q s:=by
  have e:slicePicked (mkS l) (some (lo,tl)) (some (hi,th)) none=(List.range (min hi.toNat l.length - min lo.toNat l.length)).map (min lo.toNat l.length + ·):=by
    unfold slicePicked
    rw [mkS_length]
    exact strIndices lo hi l.length h0 h1
  have e2:(slicePicked (mkS l) (some (lo,tl)) (some (hi,th)) none).filterMap ((mkS l).cps[·]?)=slice l lo hi:=by
    rw [e,pick_run]
    exact slice_run l lo hi
  unfold sliceMade
  split
  · rename_i hc
    have hlen:(min hi.toNat l.length - min lo.toNat l.length)=l.length:=by
      simp only [Bool.and_eq_true,beq_iff_eq] at hc
      have:=hc.2
      rw [e] at this
      simpa [Str.length] using this
    have:slice l lo hi=l:=by
      rw [← slice_run,hlen]
      have:min lo.toNat l.length=0:=sub_all (Nat.min_le_right _ _) (Nat.min_le_right _ _) hlen
      rw [this]; simp
    have k:=K t s.toks
    rw [this] at k
    exact k
  · refine ⟨?_,?_⟩
    · rw [e2]
      show (mkS _).length ≤ _
      rw [mkS_length]
      refine Nat.le_trans ?_ (lim_size hl)
      unfold slice
      rw [List.length_drop,List.length_take]; exact Nat.le_trans (Nat.sub_le _ _) (Nat.min_le_right _ _)
    · rw [e2]; exact K _ _

theorem pick_upto (items:Array Value) (hi:Int) (h:0 ≤ hi):slicePick items none (some hi) none=(items.toList.take hi.toNat).toArray:=by
  have e:=slicePick_upto' items hi.toNat
  rw [Int.toNat_of_nonneg h] at e
  exact e

section
variable {prog:Program} {w:World} {A:Around} {E:Value→Shared→Prop} {s:Shared} {Q:Value→Shared→Prop}
theorem sliceApplied_one0 {sl:Addr} {u:Tok} {Q:Int × Int × Nat→Shared→Prop} (hs:s.heap.IsSliceOf sl (.int 1 u) .none .none) (h:Q ((0:Int),1,0) s) :
    wpAny (model prog w) A (Builtin.Slice.sliceApplied (.ref sl) (pure (0:Int))) Q E s:=by
  refine Xeaaa (id hs) fun os hos hcs hds=>?_
  refine wpAny_bind (wpAny_bind (wpAny_field hos hds (x:=.int 1 u) rfl (wpAny_bind (wpAny_field hos hds (x:=.none) rfl (wpAny_bind (wpAny_field hos hds (x:=.none) rfl (wpAny_pure ?_)))))))
  refine wpAny_bind (slicePart_none ?_)
  show wpAny _ _ (if ((1:Int) == 0)=true then _ else _) _ _ s
  rw [if_neg (by decide)]
  refine wpAny_bind (slicePart_int (wpAny_bind (slicePart_none (wpAny_bind (wpAny_pure ?_)))))
  exact wpAny_pure h
theorem getItem_tuple_from0 {t sl:Addr} {u:Tok} (ht:IsTup s.heap t #[]) (hs:s.heap.IsSliceOf sl (.int 1 u) .none .none) (h:Q (.ref t) s):wpAny (model prog w) A (getItem (.ref t) (.ref sl)) Q E s:=by
  refine Xeaaa (id hs) fun os hos hcs hds=>?_
  have hTs:s.TypeIs (.ref sl) "slice":=⟨os,hos,hcs⟩
  unfold getItem
  try with_reducible refine wpAny_holding ?_
  first | refine wpAny_bind (wpAny_pure ?_) | skip
  refine wpAny_bind (wpAny_sequenceKey ht.typeIs (by decide) ?_)
  refine wpAny_bind (wpAny_callSpecial?_slot (name:=Str.ofString "__getitem__") ht.typeIs slot_tuple_getitem
    (wpAny_call_entry slot_tuple_getitem ht.typeIs entry_tuple_getitem ?_ (args_tuple_getitem _ _)))
  show wpAny _ _ (Builtin.Tuple.tupleItemsOf (.ref t) >>= _) _ _ s
  refine wpAny_bind (tupleItemsOf_ ht ?_)
  refine wpAny_bind (wpAny_typeOf hTs ?_)
  rw [if_pos (by decide)]
  refine wpAny_bind (sliceApplied_one0 hs ?_)
  show wpAny _ _ (if ((0:Int) == 0 && (1:Int) == 1 && (0:Nat) == 0)=true then _ else _) _ _ s
  rw [if_pos (by decide)]
  refine wpAny_bind (wpAny_bind (wpAny_typeOf ht.typeIs (wpAny_pure ?_)))
  rw [if_pos (by decide)]
  exact wpAny_bind (wpAny_rule (wpAny_pure ⟨_,rfl,wpAny_pure h⟩))
end

section
variable {C:Cst} {A:Around} {X:Act} {lc:Loc} {ρ:Ro} {ow:Nat→Option Addr} {ol:List Addr} {σ:Store} {s:Shared} {Q:Value→Shared→Prop} {E:Value→Shared→Prop} {n:Nat}
noncomputable abbrev sliceObj (a b:Value):Obj:={ cls:=.type "slice",data:=.fields #[a,b,.none] }
theorem KD.at {d:D} (K:KD C X lc ρ ow ol σ s Q d) (t:St C X lc ρ ow ol σ s) {h':Heap} {tk:Nat} {v:Value} (k:∀ b o,s.heap.get? b=some o→h'.get? b=some o) (r:relD C X ol lc h' d v):Q v { s with heap:=h',toks:=tk } :=
  K lc _ v (Ext.all t k) r
theorem relD.grown (t:St C X lc ρ ow ol σ s) {h':Heap} (k:∀ b o,s.heap.get? b=some o→h'.get? b=some o) {d:D} {v:Value} (r:relD C X ol lc s.heap d v):relD C X ol lc h' d v :=
  (Ext.all (s':={ s with heap:=h' }) t k).relD r
theorem relDs.grown (t:St C X lc ρ ow ol σ s) {h':Heap} (k:∀ b o,s.heap.get? b=some o→h'.get? b=some o) {d:List D} {v:List Value} (r:relDs C X ol lc s.heap d v):relDs C X ol lc h' d v :=
  (Ext.all (s':={ s with heap:=h' }) t k).relDs r

theorem slc_ok {value:Expr} {lower upper:Option Expr} {p:Pos} {x d:D} {vx:Value} {lo hi:Int} {tl th:Tok} (t:St C X lc ρ ow ol σ s) (hx:relD C X ol lc s.heap x vx) (e:slcD x lo hi=some d)
    (K:KD C X lc ρ ow ol σ s Q d):wpAny C.M A (subscriptTail value (.Slice lower upper none p) vx (.ref s.heap.objs.size)) Q E { s with heap:=s.heap.push (sliceObj (.int lo tl) (.int hi th)) }:=by
  refine Xeaa (Option.bind_eq_some_iff.mp e) fun l h e2=>?_; clear e
  cases D.asStr_inv h
  refine Xea (hx.str_inv) fun u1 zz=>?_; subst zz
  refine Xaa (iteS e2) fun hc zz=>?_; clear e2; subst zz
  · refine tail_ok (T:="str") (ops:=[.ref s.heap.objs.size,.str _ u1]) (typeIs_str _ _ _) F.slot_str_getitem.lookup rfl
      (wpAny_getItem_str_slice (l:=some (lo,tl)) (u:=some (hi,th)) (st:=none) ⟨_,Heap.get?_push_size _ rfl,rfl,rfl⟩ rfl (sliceMade_slc hc.1 hc.2.1 hc.2.2.2.2 fun t' tk=>?_))
    exact K.at t (fun _ _ e=>Heap.get?_push_of_some _ e) (.str _ _)

theorem slcFrom_ok {value:Expr} {lower:Option Expr} {p:Pos} {x d:D} {vx:Value} {lo:Int} {tl:Tok} (t:St C X lc ρ ow ol σ s) (hx:relD C X ol lc s.heap x vx) (e:slcFromD x lo=some d)
    (K:KD C X lc ρ ow ol σ s Q d):wpAny C.M A (subscriptTail value (.Slice lower none none p) vx (.ref s.heap.objs.size)) Q E { s with heap:=s.heap.push (sliceObj (.int lo tl) .none) }:=by
  refine Xeaa (Option.bind_eq_some_iff.mp e) fun l h e2=>?_; clear e
  cases D.asTup_inv h
  · refine Xeeaaa (hx.tup_inv) fun a xs zz1 h1 r1=>?_; subst zz1
    refine Xaa (iteS e2) fun hc zz=>?_; clear e2; subst zz
    have hl2:=hc.2; have zz:=hc.1; clear hc; subst zz
    have kp:∀ b o,s.heap.get? b=some o→(s.heap.push (sliceObj (.int 1 tl) .none)).get? b=some o:=fun _ _ e=>Heap.get?_push_of_some _ e
    have ht':IsTup (s.heap.push (sliceObj (.int 1 tl) .none)) a xs.toArray:=IsTup.keeps (isTuple_of h1) kp
    have hlen:=r1.length
    refine tail_ok (ops:=[.ref s.heap.objs.size,.ref a]) (Heap.IsTuple.typeIs (s:={ s with heap:=s.heap.push (sliceObj (.int 1 tl) .none) }) ht') slot_tuple_getitem.lookup rfl ?_
    cases xs with
    | nil =>
      have hd:(List.drop 1 l)=_:=List.drop_of_length_le (by simp [hlen])
      refine getItem_tuple_from0 ht' (Heap.IsSliceOf.new ..) ?_
      cases r1
      exact K.at t kp (.tup (tuple_sub (Sub.step (M:=[]) (.all kp) (fun _ q=>by cases q) fun _ q=>.inl q) h1) .nil)
    | cons v xs =>
      refine getItem_tuple_from ht' (Heap.IsSliceOf.new ..) (Nat.le_refl _) (by simp) ?_ (by simp only [List.size_toArray]; rw [← hlen]; exact lim_size hl2)
      have kp2:∀ b o,s.heap.get? b=some o→((s.heap.push (sliceObj (.int 1 tl) .none)).push { cls:=.type "tuple",data:=.seq ((v :: xs).toArray.toList.drop 1).toArray }).get? b=some o:=fun _ _ e=>Heap.get?_push_of_some _ (kp _ _ e)
      refine K.at t kp2 (relD_newTup t kp2 (a:=(s.heap.push (sliceObj (.int 1 tl) .none)).objs.size) (Heap.get?_none_of_le (by rw [Heap.size_push]; lia)) (xs:=xs) ?_ ?_)
      · exact ⟨_,Heap.get?_push_size _ rfl,rfl,0,by simp⟩
      · simpa using r1.drop 1

theorem slcTo_ok {value:Expr} {upper:Option Expr} {p:Pos} {x d:D} {vx:Value} {hi:Int} {th:Tok} (t:St C X lc ρ ow ol σ s) (hx:relD C X ol lc s.heap x vx) (e:slcToD x hi=some d)
    (K:KD C X lc ρ ow ol σ s Q d):wpAny C.M A (subscriptTail value (.Slice none upper none p) vx (.ref s.heap.objs.size)) Q E { s with heap:=s.heap.push (sliceObj .none (.int hi th)) }:=by
  refine Xeaa (Option.bind_eq_some_iff.mp e) fun l h e2=>?_; clear e
  cases D.asLst_inv h
  · refine Xeeaaa (hx.lst_inv) fun a xs zz1 h1 r1=>?_; subst zz1
    refine Xaa (iteS e2) fun hc zz=>?_; clear e2; subst zz
    have kp:∀ b o,s.heap.get? b=some o→(s.heap.push (sliceObj .none (.int hi th))).get? b=some o:=fun _ _ e=>Heap.get?_push_of_some _ e
    have hl':(s.heap.push (sliceObj .none (.int hi th))).IsList a xs.toArray:=(isList_of h1).push _
    have hlen:=r1.length
    refine tail_ok (ops:=[.ref s.heap.objs.size,.ref a]) (Heap.IsList.typeIs (s:={ s with heap:=s.heap.push (sliceObj .none (.int hi th)) }) hl') list_getitem_lookup rfl
      (wpAny_getItem_list_slice hl' (Heap.IsSliceOf.new ..) .none (.int hi th) .none (by simp) ?_ (by simp only [List.size_toArray]; rw [← hlen]; exact lim_size hc.2.2))
    rw [pick_upto _ _ hc.1]
    have kp2:∀ b o,s.heap.get? b=some o→((s.heap.push (sliceObj .none (.int hi th))).push { cls:=.type "list",data:=.seq (xs.toArray.toList.take hi.toNat).toArray }).get? b=some o:=fun _ _ e=>Heap.get?_push_of_some _ (kp _ _ e)
    refine K.at t kp2 (relD_newLst t kp2 (a:=(s.heap.push (sliceObj .none (.int hi th))).objs.size) (Heap.get?_none_of_le (by rw [Heap.size_push]; lia)) (xs:=xs.take hi.toNat) ?_ (r1.take _))
    exact ⟨_,Heap.get?_push_size _ rfl,rfl,0,by simp⟩
end
noncomputable def inB {α:Type} (n:Nat):KasT α→Bool
  | .ret _=>true
  | .ask i j k=>decide (i < n) && decide (j < n) && inB n (k true) && inB n (k false)

theorem kas_pure {α:Type} {n:Nat} {cmp:Nat→Nat→(Bool→Shared→Prop)→Shared→Prop} {f:Nat→Nat→Bool} {Q:α→Shared→Prop} {s:Shared} (hc:∀ i j,i < n→j < n→∀ C,C (f i j) s→cmp i j C s) :
    ∀ (t:KasT α),inB n t=true→Q (runK f t) s→t.kasWp cmp Q s
  | .ret _,_,h=>h
  | .ask i j k,hb,h=>by
    simp only [inB,Bool.and_eq_true,decide_eq_true_eq] at hb
    refine hc i j hb.1.1.1 hb.1.1.2 _ (kas_pure hc (k (f i j)) ?_ h)
    cases f i j
    · exact hb.2
    · exact hb.1.2

noncomputable def outB {α:Type} (g:α→Bool):KasT α→Bool
  | .ret a=>g a
  | .ask _ _ k=>outB g (k true) && outB g (k false)
theorem outB_run {α:Type} {g:α→Bool} (f:Nat→Nat→Bool):∀ t:KasT α,outB g t=true→g (runK f t)=true
  | .ret _,h=>h
  | .ask i j k,h=>by
    simp only [outB,Bool.and_eq_true] at h
    show g (runK f (k (f i j)))=true
    refine outB_run f _ ?_
    cases f i j
    · exact h.2
    · exact h.1
theorem outB_sort:∀ n,n ≤ 4→outB (fun p:Array Nat=>p.toList.all (· < n)) (kas_sort n)=true
  | 0,_=>by decide +kernel
  | 1,_=>by decide +kernel
  | 2,_=>by decide +kernel
  | 3,_=>by decide +kernel
  | 4,_=>by decide +kernel
  | n + 5,h=>by lia
theorem inB_sort:∀ n,n ≤ 4→inB n (kas_sort n)=true
  | 0,_=>by decide +kernel
  | 1,_=>by decide +kernel
  | 2,_=>by decide +kernel
  | 3,_=>by decide +kernel
  | 4,_=>by decide +kernel
  | n + 5,h=>by lia

inductive PairsAt (h:Heap) (N:Addr→Prop):List Value→List (Int × Int)→Prop
  | nil:PairsAt h N [] []
  | cons {t:Addr} {u1 u2:Tok} {p:Int × Int} {vs:List Value} {ps:List (Int × Int)}:N t→h.IsTuple t #[.int p.1 u1,.int p.2 u2]→PairsAt h N vs ps→PairsAt h N (.ref t :: vs) (p :: ps)
theorem PairsAt.length {h:Heap} {N:Addr→Prop}:∀ {vs:List Value} {ps:List (Int × Int)},PairsAt h N vs ps→vs.length=ps.length
  | _,_,.nil=>rfl
  | _,_,.cons _ _ r=>congrArg (· + 1) r.length
theorem PairsAt.at {h h':Heap} {N:Addr→Prop} (k:∀ b o,N b→h.get? b=some o→h'.get? b=some o):∀ {vs:List Value} {ps:List (Int × Int)},PairsAt h N vs ps→PairsAt h' N vs ps
  | _,_,.nil=>.nil
  | _,_,.cons n ⟨o,ho,r⟩ t=>.cons n ⟨o,k _ _ n ho,r⟩ (t.at k)
theorem PairsAt.get {h:Heap} {N:Addr→Prop}:∀ {vs:List Value} {ps:List (Int × Int)} {i:Nat},PairsAt h N vs ps→i < ps.length→∃ t u1 u2,vs.getD i .none=.ref t∧N t∧h.IsTuple t #[.int (getP ps i).1 u1,.int (getP ps i).2 u2]
  | _,_,0,.cons (t:=t) (u1:=u1) (u2:=u2) n h _,_=>⟨t,u1,u2,rfl,n,h⟩
  | _,_,i + 1,.cons _ _ r,hi=>r.get (i:=i) (by simpa using hi)

theorem PairsAt.tups {h:Heap} {N:Addr→Prop}:∀ {vs:List Value} {ps:List (Int × Int)},PairsAt h N vs ps→∃ fs,KatTups h vs fs∧fs.length=ps.length∧∀ v ∈ fs,∃ i u,v=.int i u
  | _,_,.nil=>⟨[],trivial,rfl,fun _ h=>by cases h⟩
  | _,_,.cons n ⟨o,ho,hc,k,hd⟩ r=>by
    refine Xeaaa (r.tups) fun fs h1 h2 h3=>?_
    refine ⟨_ :: fs,KatTups.cons ho hc hd rfl h1,congrArg (· + 1) h2,fun v hv=>?_⟩
    rcases List.mem_cons.mp hv with rfl | hv
    · exact ⟨_,_,rfl⟩
    · exact h3 v hv

section
variable {prog:Program} {w:World} {A:Around} {E:Value→Shared→Prop} {s:Shared}
theorem looks_int (M:Model) (h:Heap) (i:Int) (u:Tok):Looks M h (typeOf (.int i u)) (Value.type "int"):=fun _ _ _ _ _ q=>wpAny_typeOf (T:="int") rfl q

theorem pair_lt {x y:Value} {p q:Int × Int} {t r:Addr} {a1 a2 b1 b2:Tok} {C:Bool→Shared→Prop} (hx:x=.ref t) (hy:y=.ref r) (h1:s.heap.IsTuple t #[.int p.1 a1,.int p.2 a2]) (h2:s.heap.IsTuple r #[.int q.1 b1,.int q.2 b2])
    (h:C (pLt p q) s):wpAny (model prog w) A (keyLt' (tuples' true) x y) C (fun _ _=>False) s:=by
  subst hx hy
  refine Xeaaea (h1) fun o1 ho1 _ n1 d1=>?_
  refine Xeaaea (h2) fun o2 ho2 _ n2 d2=>?_
  refine kat_lt ho1 d1 ho2 d2 ?_
  show KatLex _ _ _ _ _ _ [(Value.int p.1 a1,Value.int q.1 b1),(Value.int p.2 a2,Value.int q.2 b2)] 0 s
  refine kat_cons (SeqAt.EqAt.int_int p.1 a1 q.1 b1 prog w _ _ ?_)
  unfold pLt at h
  by_cases e:p.1=q.1
  · rw [if_pos e] at h
    rw [show (p.1 == q.1)=true by simpa using e]
    refine kat_yes (kat_cons (SeqAt.EqAt.int_int p.2 a2 q.2 b2 prog w _ _ ?_))
    by_cases e2:p.2=q.2
    · rw [show (p.2 == q.2)=true by simpa using e2]
      refine kat_yes (kat_nil ?_)
      rw [show decide (p.2 < q.2)=false by simp [e2]] at h
      simpa using h
    · rw [show (p.2 == q.2)=false by simpa using e2]
      refine kat_no (kat_one _ _ (PyProof.Rows.lt_int ?_))
      exact h
  · rw [if_neg e] at h
    rw [show (p.1 == q.1)=false by simpa using e]
    exact kat_no (oneLt_int h)

theorem sort_pairs {a:Addr} {N:Addr→Prop} (hN:∀ t,N t→t ≠ a) {vs:List Value} {ps:List (Int × Int)} {n:Nat} {P:PySem.Fin→Shared→Prop} (ho:s.heap.get? a=some (seqObj "list" vs.toArray n)) (hp:PairsAt s.heap N vs ps) (h4:ps.length ≤ 4)
    (h:∀ h' out e,h'.get? a=some (seqObj "list" (List.toArray out) e)→PairsAt h' N out (sortP ps)→(∀ b o,b ≠ a→s.heap.get? b=some o→h'.get? b=some o)→P (.done (.ret .none)) { s with heap:=h' }) :
    wpAny (model prog w) A (Builtin.«list.sort» ⟨[.ref a],[]⟩) P E s:=by
  have hl:=hp.length
  have ha:a < s.heap.objs.size:=Heap.lt_size ho
  rw [list_sort_plain]
  refine wpAny_bind (listItems_at ho rfl ?_)
  refine wpAny_bind (listUpdate_at ho rfl ?_ (by rw [List.size_toArray,sizeLine_eq]; lia) (Nat.zero_le _))
  obtain ⟨e1,ho1⟩:∃ e1,(s.heap.update a (Obj.mapSeq fun _=>(#[]:Array Value))).get? a=some (seqObj "list" #[] e1):=⟨_,get?_update_seq ho fun _=>#[]⟩
  refine wpAny_bind (seqEpoch_at ho1 rfl ?_)
  refine wpAny_bind (wpAny_newTuple ?_ (by show vs.length ≤ _; rw [sizeLine_eq]; lia))
  refine wpAny_bind (wpAny_newList ?_ (Nat.zero_le _))
  refine wpAny_holding ?_
  generalize hH:((s.heap.update a (Obj.mapSeq fun _=>(#[]:Array Value))).push { cls:=.type "tuple",data:=.seq vs.toArray.toList.toArray }).push { cls:=.type "list",data:=.seq ([]:List Value).toArray }=H
  have kp:∀ b o,b ≠ a→s.heap.get? b=some o→H.get? b=some o:=fun b o hb e=>by
    rw [← hH]
    exact Heap.get?_push_of_some _ (Heap.get?_push_of_some _ ((Heap.get?_update_ne _ _ _ _ hb).trans e))
  have hoa:H.get? a=some (seqObj "list" #[] e1):=by
    rw [← hH]
    exact Heap.get?_push_of_some _ (Heap.get?_push_of_some _ ho1)
  have hp':PairsAt H N vs ps:=hp.at fun b o hb=>kp b o (hN b hb)
  show wpAny (model prog w) A _ P E { s with heap:=H }
  dsimp only
  have fin:∀ out,PairsAt H N out (sortP ps)→out.length ≤ 4→P (.done (.ret .none)) { s with heap:=H.update a (Obj.mapSeq fun _=>List.toArray out) }:=fun out hout _=>by
    have up:∀ b o,b ≠ a→H.get? b=some o→(H.update a (Obj.mapSeq fun _=>List.toArray out)).get? b=some o:=fun b o hb e=>(Heap.get?_update_ne _ _ _ _ hb).trans e
    exact h _ out _ (get?_update_seq hoa fun _=>List.toArray out) (hout.at fun b o hb=>up b o (hN b hb)) fun b o hb e=>up b o hb (kp b o hb e)
  by_cases h2:vs.toArray.size < 2
  · rw [if_pos h2,if_pos h2]
    refine wpAny_bind (wpAny_pure ?_)
    rw [StateT.run_pure]
    refine wpAny_bind (wpAny_pure ?_)
    dsimp only
    have hv:(arrOf (SortSt.mk' general' (vs.toArray.zip vs.toArray) #[] 7 none)).map (·.2)=List.toArray vs:=by
      show (vs.toArray.zip vs.toArray).map (·.2)=_
      apply Array.toList_inj.mp
      simp [List.zip_eq_zipWith]
      have:∀ l:List Value,(List.zipWith Prod.mk l l).map (·.2)=l:=fun l=>by induction l <;> simp_all
      simpa [List.map_zipWith] using this vs
    refine wpAny_bind (seqEpoch_at hoa rfl ?_)
    rw [hv]
    refine wpAny_bind (listUpdate_at hoa rfl ?_ (Nat.zero_le _) (by rw [List.size_toArray,sizeLine_eq]; lia))
    simp only [bne_self_eq_false,Bool.false_eq_true,if_false]
    refine wpAny_pure (fin vs ?_ (by exact le_of_eq_of_le hl h4))
    unfold sortP
    rw [if_pos (by simpa [← hl] using h2)]
    exact hp'
  · rw [if_neg h2,if_neg h2]
    rw [List.size_toArray] at h2
    refine Xeaaa (hp'.tups) fun fs k1 k2 k3=>?_
    refine wpAny_bind (kat_kind k1 (by lia) (T:=Value.type "int") (fun v hv=>?_) rfl ?_)
    · refine Xeea (k3 v hv) fun i u zz1=>?_; subst zz1
      exact looks_int _ _ i u
    have hk:(kas_sort vs.length).kasWp (kas_ask prog w A (tuples' (Value.type "int" != Value.type "tuple")) vs) (fun p s'=>s'={ s with heap:=H }∧p=runK (fun i j=>pLt (getP ps i) (getP ps j)) (kas_sort vs.length)) { s with heap:=H }:=by
      refine kas_pure (n:=vs.length) (f:=fun i j=>pLt (getP ps i) (getP ps j)) (fun i j hi hj C hC=>?_) _ (inB_sort _ (by lia)) ⟨rfl,rfl⟩
      refine Xeeeaaa (hp'.get (i:=i) (by exact Nat.lt_of_lt_of_eq hi hl)) fun t u1 u2 e1 _ g1=>?_
      refine Xeeeaaa (hp'.get (i:=j) (by lia)) fun r v1 v2 e2 _ g2=>?_
      exact pair_lt e1 e2 g1 g2 hC
    refine wpAny_bind (wpAny_mono (kat_run (ks:=vs) (vs:=vs) (Q:=fun st' s'=>s'={ s with heap:=H }∧∃ p,arrOf st'=p.map (kas_item (vs.toArray.zip vs.toArray))∧failedOf st'=none∧p.size=vs.length∧p=runK (fun i j=>pLt (getP ps i) (getP ps j)) (kas_sort vs.length))
      rfl (by exact Nat.le_of_not_lt h2) (by lia) (fun p st' s' a1 a2 a3 a4=>⟨a4.1,p,a2,a3,a1,a4.2⟩) hk) ?_ fun _ _ e=>e)
    rintro ⟨⟨⟩,st'⟩ s' ⟨rfl,p,har,hf,hsz,hpe⟩
    dsimp only
    have hout:=kat_snds (ks:=vs) (vs:=vs) rfl har
    refine wpAny_bind (seqEpoch_at hoa rfl ?_)
    rw [hout]
    have hz:(p.toList.map fun i=>vs.getD i Value.none).length=vs.length:=by rw [List.length_map,Array.length_toList,hsz]
    refine wpAny_bind (listUpdate_at hoa rfl ?_ (Nat.zero_le _) (by rw [List.size_toArray,hz,sizeLine_eq]; lia))
    rw [hf]
    simp only [bne_self_eq_false,Bool.false_eq_true,if_false]
    refine wpAny_pure (fin _ ?_ (by lia))
    unfold sortP
    rw [if_neg (by lia),← hl,← hpe]
    have hin:∀ i ∈ p.toList,i < ps.length:=fun i hi=>by
      have q:=outB_run (fun i j=>pLt (getP ps i) (getP ps j)) _ (outB_sort vs.length (by lia))
      rw [← hpe,List.all_eq_true] at q
      have:=q i hi
      simp only [decide_eq_true_eq] at this
      lia
    clear hout har hpe hk hz
    generalize p.toList=l at hin
    induction l with
    | nil=>exact .nil
    | cons i l ih =>
      refine Xeeeaaa (hp'.get (i:=i) (hin i (.head _))) fun t u1 u2 e1 nt g1=>?_
      rw [List.map_cons,List.map_cons,e1]
      exact .cons nt g1 (ih fun j hj=>hin j (.tail _ hj))

theorem sorted_ok {l:Addr} {T:String} {o:Obj} {vs:List Value} {ps:List (Int × Int)} {n:Nat} {Q:Value→Shared→Prop} (hT:T="list"∨T="tuple") (ho:s.heap.get? l=some o) (hc:o.cls=.type T) (hd:o.data=.seq vs.toArray n)
    {N:Addr→Prop} (hN:∀ t,N t→∃ o,s.heap.get? t=some o) (hp:PairsAt s.heap N vs ps) (h4:ps.length ≤ 4)
    (h:∀ h' a out e,s.heap.get? a=none→h'.get? a=some (seqObj "list" (List.toArray out) e)→PairsAt h' N out (sortP ps)→(∀ b o,s.heap.get? b=some o→h'.get? b=some o)→Q (.ref a) { s with heap:=h' }) :
    wpAny (model prog w) A (call (.builtin "sorted") [.ref l]) Q E s:=by
  have hl:vs.length=ps.length:=hp.length
  refine Calls.call_function_entry kind_sorted plain_sorted entry_sorted (args_sorted1 _) ?_
  refine wpAny_bind (m:=checkCount "sorted" 1 1 _) (wpAny_pure ?_)
  refine wpAny_bind (wpAny_collect_seq l hT ho hc hd (fun h₁ k₁=>?_) (by rw [List.size_toArray,sizeLine_eq]; lia))
  refine wpAny_bind (wpAny_newList ?_ (by show vs.length ≤ _; rw [sizeLine_eq]; lia))
  have hoL:(h₁.push (seqObj "list" vs.toArray 0)).get? h₁.objs.size=some (seqObj "list" vs.toArray 0):=Heap.get?_push_size _ rfl
  have hn:s.heap.get? h₁.objs.size=none:=by
    cases q:s.heap.get? h₁.objs.size with
    | none=>rfl
    | some o'=>exact absurd (Heap.lt_size (k₁ _ _ q)) (Nat.lt_irrefl _)
  have kp:∀ b o,s.heap.get? b=some o→(h₁.push (seqObj "list" vs.toArray 0)).get? b=some o:=fun b o e=>Heap.get?_push_of_some _ (k₁ _ _ e)
  refine wpAny_bind (wpAny_holding (wpAny_call_entry slot_list_sort ⟨_,hoL,rfl⟩ entry_list_sort
    (sort_pairs (s:={ s with heap:=h₁.push (seqObj "list" vs.toArray 0) }) (n:=0) (fun t ht q=>by obtain ⟨o',e'⟩:=hN t ht; rw [q] at e'; exact nsm hn e') hoL (hp.at fun b o _ e=>kp b o e) h4 fun h' out e e1 e2 k2=>⟨_,rfl,?_⟩) (args_list_sort _)))
  exact wpAny_pure ⟨_,rfl,h h' _ out e hn e1 e2 fun b o hb=>k2 b o (fun q=>by rw [q] at hb; exact nsm hn hb) (kp b o hb)⟩
end
end Mine
end
section
open PySem PySem.W PyProof.Rows
namespace Mine
section
variable {C:Cst} {A:Around} {X:Act} {lc:Loc} {ρ:Ro} {ow:Nat→Option Addr} {ol:List Addr} {σ:Store} {s:Shared} {Q:Value→Shared→Prop} {E:Value→Shared→Prop} {n:Nat}

noncomputable def biF:Bi→Value
  | .len=>.builtin "len"
  | .ord=>.builtin "ord"
  | .chr=>.builtin "chr"
  | .int=>.type "int"
  | .max=>.builtin "max"
  | .min=>.builtin "min"
  | .tuple=>.type "tuple"
  | .list=>.type "list"
  | .sorted=>.builtin "sorted"
  | .any=>.builtin "any"

theorem asPair_inv {d:D} {p:Int × Int} (h:asPair d=some p):d=pairD p:=by
  refine Xeaa (Option.bind_eq_some_iff.mp h) fun l h1 h=>?_
  refine Xeaa (Option.bind_eq_some_iff.mp h) fun q h2 h=>?_
  refine Xeeaaa (int2_inv h) fun a b z1 z2 e=>?_
  cases e
  rw [D.asTup_inv h1,two_inv h2,z1,z2]; rfl
theorem pairs_rel {h:Heap} {Z:List Addr}:∀ {l:List D} {xs:List Value} {ps:List (Int × Int)},RelDs C.prog C.w (fz h Z) l xs→l.mapM asPair=some ps→PairsAt h (fun t=>t ∉ Z∧∃ o,h.get? t=some o) xs ps
  | [],_,ps,.nil,e=>by
    simp at e; subst e; exact .nil
  | d :: l,_,ps,.cons h r,e=>by
    rw [List.mapM_cons] at e
    cases q:asPair d with
    | none=>rw [q] at e; cases e
    | some p =>
      rw [q] at e
      cases q2:l.mapM asPair with
      | none=>rw [q2] at e; cases e
      | some ps' =>
        rw [q2] at e
        cases e
        have:=asPair_inv q
        subst this
        refine Xeeaaa (h.tup_inv) fun t ys zz1 ht rs=>?_; subst zz1
        cases rs with
        | cons h1 rs =>
          cases rs with
          | cons h2 rs =>
            cases rs
            obtain ⟨u1,rfl⟩:=h1.int_inv
            obtain ⟨u2,rfl⟩:=h2.int_inv
            refine Xeaa (ht) fun o ho hc=>?_
            obtain ⟨ho,hz⟩:=fz_get.mp ho
            exact .cons ⟨hz,o,ho⟩ ⟨o,ho,hc⟩ (pairs_rel r q2)
theorem pairsAt_rel {h:Heap} {Z:List Addr} {N:Addr→Prop} (hN:∀ t,N t→t ∉ Z):∀ {xs:List Value} {ps:List (Int × Int)},PairsAt h N xs ps→RelDs C.prog C.w (fz h Z) (ps.map pairD) xs
  | _,_,.nil=>.nil
  | _,_,.cons n ⟨o,ho,hc,r⟩ q=>.cons (.tup ⟨o,fz_get.mpr ⟨ho,hN _ n⟩,hc,r⟩ (.cons (.int _ _) (.cons (.int _ _) .nil))) (pairsAt_rel hN q)

theorem mapM_bools {l:List D} {xs:List Value} {F:Heap}:∀ {bs:List Bool},RelDs C.prog C.w F l xs→l.mapM D.asBool=some bs→xs=bs.map Value.bool:=by
  induction l generalizing xs with
  | nil=>intro bs r e; cases r; simp at e; subst e; rfl
  | cons d l ih =>
    intro bs r e
    cases r with
    | cons h r =>
      rw [List.mapM_cons] at e
      cases q:D.asBool d with
      | none=>rw [q] at e; cases e
      | some b =>
        rw [q] at e
        cases q2:l.mapM D.asBool with
        | none=>rw [q2] at e; cases e
        | some bs' =>
          rw [q2] at e
          cases e
          cases d <;> simp [D.asBool] at q
          subst q
          obtain rfl:=h.bool_inv
          rw [ih r q2]; rfl

theorem RelDs.one {F:Heap} {d:D} {vs:List Value} (r:RelDs C.prog C.w F [d] vs):∃ v,vs=[v]∧RelD C.prog C.w F d v:=by
  cases r with
  | cons h r=>cases r; exact ⟨_,rfl,h⟩
theorem RelDs.two {F:Heap} {d e:D} {vs:List Value} (r:RelDs C.prog C.w F [d,e] vs):∃ v u,vs=[v,u]∧RelD C.prog C.w F d v∧RelD C.prog C.w F e u:=by
  cases r with
  | cons h r=>cases r with
    | cons h2 r=>cases r; exact ⟨_,_,rfl,h,h2⟩
theorem RelDs.of_get {F:Heap}:∀ {l:List D} {xs:List Value},l.length=xs.length→(∀ (j:Nat) d v,l[j]?=some d→xs[j]?=some v→RelD C.prog C.w F d v)→RelDs C.prog C.w F l xs
  | [],[],_,_=>.nil
  | [],_ :: _,h,_=>by simp at h
  | _ :: _,[],h,_=>by simp at h
  | d :: l,v :: xs,h,g=>.cons (g 0 d v rfl rfl) (RelDs.of_get (by simpa using h) fun j d v h1 h2=>g (j + 1) d v (by simpa using h1) (by simpa using h2))
theorem any_range (bs:List Bool):((List.range bs.length).any fun i=>bs.getD i false)=bs.any id:=by
  induction bs with
  | nil=>rfl
  | cons b bs ih =>
    rw [List.length_cons,List.range_succ_eq_map,List.any_cons,List.any_map,List.any_cons,← ih]
    rfl

theorem bi_len {x d:D} {v:Value} (t:St C X lc ρ ow ol σ s) (h:relD C X ol lc s.heap x v) (e:lenD x=some d) (K:KD C X lc ρ ow ol σ s Q d):wpAny C.M A (call (biF .len) [v]) Q E s:=by
  cases h with
  | str l u =>
    refine Xaa (iteS e) fun hl zz=>?_; clear e; subst zz
    refine PyProof.Rows.len_str (by rw [mkS_length]; unfold LIM at hl; omega) ?_
    rw [mkS_length]
    exact K.toks t (.int _ _)
  | @tup l a xs h1 r1 =>
    refine Xaa (iteS e) fun hl zz=>?_; clear e; subst zz
    have:=r1.length
    refine len_tuple (isTuple_of h1) (by rw [List.size_toArray,← this]; unfold LIM at hl; omega) ?_
    rw [List.size_toArray,← this]
    exact K.toks t (.int _ _)
  | @lst l a xs h1 r1 =>
    refine Xaa (iteS e) fun hl zz=>?_; clear e; subst zz
    have:=r1.length
    refine PyProof.Rows.len_list (isList_of h1) (by rw [List.size_toArray,← this]; unfold LIM at hl; omega) ?_
    rw [List.size_toArray,← this]
    exact K.toks t (.int _ _)
  | _=>cases e
theorem bi_int {x d:D} {v:Value} (t:St C X lc ρ ow ol σ s) (h:relD C X ol lc s.heap x v) (e:intD x=some d) (K:KD C X lc ρ ow ol σ s Q d):wpAny C.M A (call (biF .int) [v]) Q E s:=by
  cases h with
  | int i u=>cases e; exact call_int_int (K.here t (.int _ _))
  | str l u =>
    refine Xaa (iteO e) fun hl e=>?_
    refine Xeaa (Option.map_eq_some_iff.mp e) fun i e' zz1=>?_; subst zz1
    exact KIN.call_text e' (by rw [mkS_length]; exact Nat.le_trans hl (by decide)) (K.int t)
  | _=>cases e
theorem bi_max {a b:Int} {t1 t2:Tok} (hh:A.handled=none) (t:St C X lc ρ ow ol σ s) (K:KD C X lc ρ ow ol σ s Q (.int (max a b))):wpAny C.M A (call (biF .max) [.int a t1,.int b t2]) Q E s:=by
  refine max_two_ints hh fun h' tk k=>?_
  have e:(if b > a then Value.int b t2 else Value.int a t1)=Value.int (max a b) (if b > a then t2 else t1):=by
    split <;> (congr 1; lia)
  rw [e]
  exact K.at t k (.int _ _)
theorem bi_min {a b:Int} {t1 t2:Tok} (hh:A.handled=none) (t:St C X lc ρ ow ol σ s) (K:KD C X lc ρ ow ol σ s Q (.int (min a b))):wpAny C.M A (call (biF .min) [.int a t1,.int b t2]) Q E s:=by
  refine min_two_ints hh fun h' tk k=>?_
  have e:(if b < a then Value.int b t2 else Value.int a t1)=Value.int (min a b) (if b < a then t2 else t1):=by
    split <;> (congr 1; grind)
  rw [e]
  exact K.at t k (.int _ _)
theorem bi_tuple {l:List D} {a:Addr} {xs:List Value} (t:St C X lc ρ ow ol σ s) (h1:(fz s.heap (X.Z C lc ol)).IsList a xs.toArray) (r1:relDs C X ol lc s.heap l xs) (hl:l.length ≤ LIM) (K:KD C X lc ρ ow ol σ s Q (.tup l)):wpAny C.M A (call (biF .tuple) [.ref a]) Q E s:=by
  refine call_tuple_list (isList_of h1) (fun h' k=>?_) (by rw [List.size_toArray,← r1.length]; exact lim_size hl)
  have k2:∀ b o,s.heap.get? b=some o→(h'.push { cls:=.type "tuple",data:=.seq xs.toArray }).get? b=some o:=fun _ _ e=>Heap.get?_push_of_some _ (k _ _ e)
  refine K.at t (tk:=s.toks) k2 (relD_newTup t k2 ?_ (isTuple_push ..) r1)
  cases q:s.heap.get? h'.objs.size with
  | none=>rfl
  | some o=>exact absurd (Heap.lt_size (k _ _ q)) (Nat.lt_irrefl _)
theorem bi_list {l:List (Int × D)} {v:Value} (hh:A.handled=none) (t:St C X lc ρ ow ol σ s) (h:relD C X ol lc s.heap (.dcI l) v) (hl:l.length ≤ LIM) (K:KD C X lc ρ ow ol σ s Q (.lst (l.map fun p=>.int p.1))):wpAny C.M A (call (biF .list) [v]) Q E s:=by
  cases h with
  | dcI hn hd hk hr =>
    rename_i kvs
    obtain ⟨ep,hat⟩:=(dictOf_to hd).dictAt
    have hlen:=congrArg List.length hk
    rw [List.length_map,List.length_map] at hlen
    refine kdl_call (kdl_dict (knd:=PySem.intKind C.prog C.w) (ep:=ep) hn) hh hat (by rw [hlen]; exact lim_size hl) fun h' tk acc c k ha hi=>?_
    refine K.at t k (relD_newLst t k (a:=s.heap.objs.size) (none_at_end _) (xs:=acc.toList) ⟨_,ha,rfl,c,by simp⟩ (RelDs.of_get ?_ fun j d v h1 h2=>?_))
    · rw [List.length_map,← hlen,← hi.1]; rfl
    · obtain ⟨kk,x,h3,h4⟩:=hi.2 j v (by simpa using h2)
      obtain ⟨u,rfl⟩:=Value.isInt_shape h4
      have h5:=congrArg (fun z=>z[j]?) hk
      simp only [List.getElem?_map,h3] at h5
      rw [List.getElem?_map] at h1
      cases q:l[j]? with
      | none=>rw [q] at h1; cases h1
      | some p =>
        rw [q] at h1 h5
        cases h1
        simp at h5
        rw [h5]
        exact .int _ _
theorem bi_sorted {T:String} (hT:T="list"∨T="tuple") {l:List D} {d:D} {a:Addr} {xs:List Value} (t:St C X lc ρ ow ol σ s) (h1:∃ o,s.heap.get? a=some o∧o.cls=.type T∧∃ n,o.data=.seq xs.toArray n) (r1:relDs C X ol lc s.heap l xs) (e:srtD l=some d) (K:KD C X lc ρ ow ol σ s Q d) :
    wpAny C.M A (call (biF .sorted) [.ref a]) Q E s:=by
  have e:(if l.length ≤ 4 then (l.mapM asPair).map fun ps=>D.lst ((sortP ps).map pairD) else none)=some d:=e
  split at e
  · rename_i hl
    refine Xeaa (Option.map_eq_some_iff.mp e) fun ps e' zz1=>?_; subst zz1
    refine Xeaaea h1 fun o ho hc n hd=>?_
    have hp:=pairs_rel r1 e'
    have hlen:ps.length ≤ 4:=by rw [← hp.length,← r1.length]; exact hl
    refine sorted_ok (T:=T) hT ho hc hd (fun t ht=>ht.2) hp hlen fun h' a out c hn ha hp' k=>?_
    exact K.at t (tk:=s.toks) k (relD_newLst t k hn ⟨_,ha,rfl,c,rfl⟩ (pairsAt_rel (fun t ht=>ht.1) ((hp'.at (h':=s.heap) fun b o hb e=>by obtain ⟨o',e'⟩:=hb.2; cases ssm (k _ _ e') e; exact e'))))
  · cases e
theorem bi_any {l:List D} {bs:List Bool} {a:Addr} {xs:List Value} (hh:A.handled=none) (t:St C X lc ρ ow ol σ s) (h1:(fz s.heap (X.Z C lc ol)).IsList a xs.toArray) (r1:relDs C X ol lc s.heap l xs) (e':l.mapM D.asBool=some bs) (K:KD C X lc ρ ow ol σ s Q (.bool (bs.any id))) :
    wpAny C.M A (call (biF .any) [.ref a]) Q E s:=by
  have hx:=mapM_bools r1 e'
  subst hx
  have hI:=isList_of h1
  refine call_any_walk (wpAny_pyIter_list hI ?_)
  have hne:a ≠ s.heap.objs.size:=fun q=>by obtain ⟨o,ho,_⟩:=hI; exact Nat.lt_irrefl _ (q ▸ Heap.lt_size ho)
  refine ⟨_,_,_,_,_,_,fun i=>bs.getD i false,rfl,Walks.list (A:=A.in1) hh _ a hne _,⟨⟨_,Heap.get?_push_size _ rfl,rfl,rfl⟩,hI.push _⟩,fun i v s Q E hP hQ=>?_,fun h' tk k=>?_⟩
  · have hP:((bs.map Value.bool).toArray)[i]?=some v:=hP
    simp only [List.getElem?_toArray,List.getElem?_map] at hP
    cases q:bs[i]? with
    | none=>rw [q] at hP; cases hP
    | some b =>
      rw [q] at hP; cases hP
      refine wpAny_truthy_bool ?_
      simpa [List.getD,q] using hQ
  · have e:((List.range (bs.map Value.bool).toArray.size).any fun i=>bs.getD i false)=bs.any id:=by
      rw [List.size_toArray,List.length_map]; exact any_range bs
    rw [e]
    refine K.at t (fun b o e=>k b o (fun q=>?_) (Heap.get?_push_of_some _ e)) (.bool _)
    rw [List.mem_singleton.mp q] at e
    rw [none_at_end] at e
    cases e
theorem isTuple_ex {a:Addr} {xs:Array Value} {h:Heap} (x:h.IsTuple a xs):∃ o,h.get? a=some o∧o.cls=.type "tuple"∧∃ n,o.data=.seq xs n:=x
theorem isList_ex {a:Addr} {xs:Array Value} {h:Heap} (x:h.IsList a xs):∃ o,h.get? a=some o∧o.cls=.type "list"∧∃ n,o.data=.seq xs n:=x
theorem rel2 {l:List D} {vs:List Value} {F:Heap} {f:Int→Int→Option D} {d:D} (r:RelDs C.prog C.w F l vs) (e:((two l).bind fun p=>int2 p.1 p.2 f)=some d):∃ a b t1 t2,vs=[.int a t1,.int b t2]∧f a b=some d:=by
  refine Xeaa (Option.bind_eq_some_iff.mp e) fun p q e2=>?_; clear e
  cases two_inv q
  refine Xeeaaa (int2_inv e2) fun a b z1 z2 e=>?_; clear e2
  rw [z1,z2] at r
  refine Xeeaaa r.two fun v u zz h h2=>?_; subst zz
  refine Xea h.int_inv fun t1 zz=>?_; subst zz
  refine Xea h2.int_inv fun t2 zz=>?_; subst zz
  exact ⟨a,b,t1,t2,rfl,e⟩
theorem rel1 {l:List D} {vs:List Value} {F:Heap} {f:D→Option D} {d:D} (r:RelDs C.prog C.w F l vs) (e:(one l).bind f=some d):∃ x v,vs=[v]∧RelD C.prog C.w F x v∧f x=some d :=
  (Option.bind_eq_some_iff.mp e).elim fun x p=>by
    cases one_inv p.1
    exact r.one.elim fun v q=>⟨x,v,q.1,q.2,p.2⟩
theorem bi_ok {b:Bi} {l:List D} {vs:List Value} {d:D} (hh:A.handled=none) (t:St C X lc ρ ow ol σ s) (r:relDs C X ol lc s.heap l vs) (e:biD b l=some d) (K:KD C X lc ρ ow ol σ s Q d) :
    wpAny C.M A (call (biF b) vs) Q E s:=by
  cases b with
  | len=>refine Xeeaaa (rel1 r e) fun x v zz h e=>?_; subst zz; exact bi_len t h e K
  | ord =>
    refine Xeeaaa (rel1 r e) fun x v zz h e2=>?_; subst zz; clear e
    refine Xeaa (Option.bind_eq_some_iff.mp e2) fun _ p e3=>?_; clear e2
    cases D.asStr_inv p
    refine Xeaa (Option.map_eq_some_iff.mp e3) fun c p zz=>?_; subst zz; clear e3
    cases one_inv p
    refine Xea h.str_inv fun _ zz=>?_; subst zz
    exact ord_of_one rfl (K.toks t (.int _ _))
  | chr =>
    refine Xeeaaa (rel1 r e) fun x v zz h e2=>?_; subst zz; clear e
    refine Xeaa (Option.bind_eq_some_iff.mp e2) fun _ p e3=>?_; clear e2
    cases D.asInt_inv p
    refine Xea h.int_inv fun _ zz=>?_; subst zz
    refine Xaa (iteS e3) fun hi zz=>?_; clear e3; subst zz
    exact chr_of_range hi.1 (by lia) (K.str t rfl)
  | int=>refine Xeeaaa (rel1 r e) fun x v zz h e=>?_; subst zz; exact bi_int t h e K
  | max=>refine Xeeeeaa (rel2 r e) fun a b t1 t2 zz e=>?_; subst zz; cases e; exact bi_max hh t K
  | min=>refine Xeeeeaa (rel2 r e) fun a b t1 t2 zz e=>?_; subst zz; cases e; exact bi_min hh t K
  | tuple =>
    refine Xeeaaa (rel1 r e) fun x v zz h e2=>?_; subst zz; clear e
    refine Xeaa (Option.bind_eq_some_iff.mp e2) fun _ p e3=>?_; clear e2
    cases D.asLst_inv p
    refine Xeeaaa h.lst_inv fun a xs zz h1 r1=>?_; subst zz
    refine Xaa (iteS e3) fun hl zz=>?_; clear e3; subst zz
    exact bi_tuple t h1 r1 ‹_› K
  | list =>
    refine Xeeaaa (rel1 r e) fun x v zz h e2=>?_; subst zz; clear e
    refine Xeaa (Option.bind_eq_some_iff.mp e2) fun _ p e3=>?_; clear e2
    cases D.asDcI_inv p
    refine Xaa (iteS e3) fun hl zz=>?_; clear e3; subst zz
    exact bi_list hh t h ‹_› K
  | sorted =>
    refine Xeeaaa (rel1 r e) fun x v zz h e2=>?_; subst zz; clear e
    cases h with
    | lst h1 r1=>exact bi_sorted (.inl rfl) t (isList_ex (isList_of h1)) r1 e2 K
    | tup h1 r1=>exact bi_sorted (.inr rfl) t (isTuple_ex (isTuple_of h1)) r1 e2 K
    | _=>cases e2
  | any =>
    refine Xeeaaa (rel1 r e) fun x v zz h e2=>?_; subst zz; clear e
    refine Xeaa (Option.bind_eq_some_iff.mp e2) fun _ p e3=>?_; clear e2
    cases D.asLst_inv p
    refine Xeeaaa h.lst_inv fun a xs zz h1 r1=>?_; subst zz
    refine Xeaa (Option.map_eq_some_iff.mp e3) fun bs e' zz=>?_; subst zz
    exact bi_any hh t h1 r1 e' K
end
end Mine
end
section
set_option tactic.hygienic false
open PySem PySem.W PyProof.Rows
namespace Mine
structure Sp where
  scope:Scope
  sl:List (Option (Str × NameKind))
  cn:List Str
  code:Value
  qual:Str

structure SpX (X:Act) (sp:Sp):Prop where
  scope:X.env.scope=sp.scope
  sl:X.sl=sp.sl
  cn:X.cells.map (·.1)=sp.cn
  code:X.env.code=sp.code
  qual:X.env.qual=sp.qual

structure Names where
  g:Nat→Option Str
  f:Nat→Option Str

noncomputable def biN:Bi→Str
  | .len=>"len"
  | .ord=>"ord"
  | .chr=>"chr"
  | .int=>"int"
  | .max=>"max"
  | .min=>"min"
  | .tuple=>"tuple"
  | .list=>"list"
  | .sorted=>"sorted"
  | .any=>"any"

structure COK (C:Cst) (G:Nat→D) (NM:Names):Prop where
  gl:C.h₀.Ns mainGlobals C.mg
  bl:C.h₀.Ns builtinsNs C.mb
  kin:C.K.In C.h₀
  glob:∀ g x,NM.g g=some x→∃ v,C.mg x=some v∧RelD C.prog C.w C.h₀ (G g) v
  fn:∀ f x,NM.f f=some x→C.mg x=some (.ref (C.fa f))∧keepIn C.K (.ref (C.fa f))=true
  bi:∀ b,C.mg (biN b)=none∧C.mb (biN b)=some (biF b)
  rng:C.mg "range"=none∧C.mb "range"=some (.type "range")
  zip:C.mg "zip"=none∧C.mb "zip"=some (.type "zip")

section
variable {C:Cst} {lc lc':Loc} {F h:Heap}
inductive RelVs (C:Cst) (F h:Heap) (lc:Loc):List V→List Value→Prop
  | nil:RelVs C F h lc [] []
  | cons {v:V} {x:Value} {vs:List V} {xs:List Value}:RelV C F h lc none v x→RelVs C F h lc vs xs→RelVs C F h lc (v :: vs) (x :: xs)
end
noncomputable abbrev relVs (C:Cst) (X:Act) (ol:List Addr) (lc:Loc) (h:Heap) (v:List V) (x:List Value):Prop:=RelVs C (fz h (X.Z C lc ol)) h lc v x
theorem RelVs.keep {C:Cst} {lc lc':Loc} {Z Z':List Addr} {h h':Heap} (hs:Sub (fz h Z) (fz h' Z')) (gr:Grow C lc lc' h):∀ {v:List V} {x:List Value},RelVs C (fz h Z) h lc v x→RelVs C (fz h' Z') h' lc' v x
  | _,_,.nil=>.nil
  | _,_,.cons r t=>.cons (RelV.keep hs gr (fun _ _ e=>by cases e) r) (t.keep hs gr)

section
variable {C:Cst} {A:Around} {X:Act} {lc lc':Loc} {ρ:Ro} {ow:Nat→Option Addr} {ol:List Addr} {σ σ':Store} {s s':Shared} {Q:Value→Shared→Prop} {E:Value→Shared→Prop} {n:Nat}
theorem Ext.relVs (x:Ext C X lc lc' ρ ow ol σ' s s') {d:List V} {v:List Value} (r:relVs C X ol lc s.heap d v):relVs C X ol lc' s'.heap d v:=r.keep x.sub x.grow

theorem RelVs.unV {F h:Heap} {vs:List V} {xs:List Value} (r:RelVs C F h lc vs xs):∀ {l:List D},unV vs=some l→RelDs C.prog C.w F l xs:=by
  induction r with
  | nil=>intro l e; cases e; exact .nil
  | @cons x v vs xs r t ih =>
    intro l e
    cases x with
    | d x =>
      have e:(Mine.unV vs).map (x :: ·)=some l:=e
      refine Xeaa (Option.map_eq_some_iff.mp e) fun l' e' zz1=>?_; subst zz1
      exact .cons r (ih e')
    | _=>cases e
end

section
variable (C:Cst) (G:Nat→D) (H:Hd) (n:Nat) (sp:Sp)
noncomputable def EvOK (a:Expr) (e:E):Prop:=∀ (A:Around) (X:Act) (lc:Loc) (ρ:Ro) (ow:Nat→Option Addr) (ol:List Addr) (σ:Store) (s:Shared),SpX X sp→AOK C A X n→St C X lc ρ ow ol σ s →
  Den C A X (relV C X ol) lc ρ ow ol s (evE G H e ρ σ) (eval a X.env)
noncomputable def TrOK (a:Expr) (e:E):Prop:=∀ (A:Around) (X:Act) (lc:Loc) (ρ:Ro) (ow:Nat→Option Addr) (ol:List Addr) (σ:Store) (s:Shared),SpX X sp→AOK C A X n→St C X lc ρ ow ol σ s →
  Den C A X relB lc ρ ow ol s (toB (evE G H e ρ σ)) (isTrue a X.env (eval a X.env))
noncomputable def EvsOK (as:List Expr) (es:Es):Prop:=∀ (A:Around) (X:Act) (lc:Loc) (ρ:Ro) (ow:Nat→Option Addr) (ol:List Addr) (σ:Store) (s:Shared) (pos:Pos),SpX X sp→AOK C A X n→St C X lc ρ ow ol σ s →
  Den C A X (relVs C X ol) lc ρ ow ol s (evVs G H es ρ σ) (spliced (backTo pos (starEach as X.env)))
noncomputable def BsOK (isAnd:Bool) (as:List Expr) (es:Es):Prop:=(∀ (A:Around) (X:Act) (lc:Loc) (ρ:Ro) (ow:Nat→Option Addr) (ol:List Addr) (σ:Store) (s:Shared),SpX X sp→AOK C A X n→St C X lc ρ ow ol σ s →
  Den C A X relB lc ρ ow ol s (evBs G H isAnd es ρ σ) (allTrue (if isAnd then .And else .Or) as X.env)) ∧
  (as ≠ []→∀ (A:Around) (X:Act) (lc:Loc) (ρ:Ro) (ow:Nat→Option Addr) (ol:List Addr) (σ:Store) (s:Shared) (pos:Pos),SpX X sp→AOK C A X n→St C X lc ρ ow ol σ s →
  Den C A X (fun _ _ b v=>v=Value.bool b) lc ρ ow ol s (evBs G H isAnd es ρ σ) (boolOp pos (if isAnd then .And else .Or) (evalEach as X.env)))
end

section
variable {C:Cst} {G:Nat→D} {H:Hd} {n:Nat} {sp:Sp} {A:Around} {X:Act} {lc:Loc} {ρ:Ro} {ow:Nat→Option Addr} {ol:List Addr} {σ:Store} {s:Shared}

theorem Den.toD {r:R V} {t:Sem Value} (h:Den C A X (relV C X ol) lc ρ ow ol s r t):Den C A X (relD C X ol) lc ρ ow ol s (toD r) t:=fun Q E K=>h Q E
  ⟨fun e=>K.nb (by rw [e]; rfl),fun a σ' lc' s' x e xt p=>by
    cases a with
    | d d=>exact K.ok d σ' lc' s' x (by rw [e]; rfl) xt p
    | _=>exact absurd (by rw [e]; rfl) K.nb,
   fun k t σ' lc' s' x e er=>K.ex k t σ' lc' s' x (by rw [e]; rfl) er⟩
theorem Den.toB {r:R V} {t:Sem Value} (h:Den C A X (relV C X ol) lc ρ ow ol s r t):Den C A X (fun _ _ b v=>v=Value.bool b) lc ρ ow ol s (toB r) t:=fun Q E K=>h Q E
  ⟨fun e=>K.nb (by rw [e]; rfl),fun a σ' lc' s' x e xt p=>by
    cases a with
    | d d =>
      cases d with
      | bool b=>exact K.ok b σ' lc' s' x (by rw [e]; rfl) xt (RelD.bool_inv p)
      | _=>exact absurd (by rw [e]; rfl) K.nb
    | _=>exact absurd (by rw [e]; rfl) K.nb,
   fun k t σ' lc' s' x e er=>K.ex k t σ' lc' s' x (by rw [e]; rfl) er⟩
theorem Den.toDs {r:R (List V)} {t:Sem (List Value)} (h:Den C A X (relVs C X ol) lc ρ ow ol s r t):Den C A X (relDs C X ol) lc ρ ow ol s (toDs r) t:=fun Q E K=>h Q E
  ⟨fun e=>K.nb (by rw [e]; rfl),fun a σ' lc' s' x e xt p=>by
    cases q:unV a with
    | none=>exact absurd (by rw [e]; simp [Mine.toDs,q,ofOpt]) K.nb
    | some l=>exact K.ok l σ' lc' s' x (by rw [e]; simp [Mine.toDs,q,ofOpt]) xt (RelVs.unV p q),
   fun k t σ' lc' s' x e er=>K.ex k t σ' lc' s' x (by rw [e]; rfl) er⟩

theorem AOK.next {s':Shared} (a:AOK C A X n):AOK C A X n:=a
theorem AOK.eqRoom (a:AOK C A X n):A.units + 64 < cLine:=by have:=a.units; lia

noncomputable def plainE:Expr→Bool
  | .UnaryOp .Not _ _ | .BoolOp .. | .IfExp .. | .Compare ..=>false
  | _=>true
theorem isTrue_plain {a:Expr} (h:plainE a=true) (env:Env) (whole:Sem Value):isTrue a env whole=(do let v ← whole; standAt a.pos; holding [v] (truthy v)):=by
  cases a with
  | UnaryOp op x p=>cases op <;> first | rfl | cases h
  | _=>first | rfl | cases h

theorem tr_plain {a:Expr} {e:E} (hp:plainE a=true) (h:EvOK C G H n sp a e):TrOK C G H n sp a e:=fun A X lc ρ ow ol σ s hs ha t Q E K=>by
  refine wpAny_isTrue_value ?_ (isTrue_plain hp _ _)
  exact (h A X lc ρ ow ol σ s hs ha t).toB _ _ ⟨K.nb,fun b σ' lc' s' x e xt p=>by subst p; exact wpAny_truthy_bool (K.ok b σ' lc' s' b e xt rfl),K.ex⟩

theorem ev_bin {a b:Expr} {e₁ e₂:E} {o:Op} {pos:Pos} (h1:EvOK C G H n sp a e₁) (h2:EvOK C G H n sp b e₂):EvOK C G H n sp (.BinOp a (opP o) b pos) (.bin o e₁ e₂):=fun A X lc ρ ow ol σ s hs ha t Q E K =>
  wpAny_BinOp ((h1 A X lc ρ ow ol σ s hs ha t).toD.here K fun _ _ _ _ _ _ xt1 p1 K1=>(h2 A X _ ρ ow ol _ _ hs ha xt1.st).toD.here K1 fun _ _ _ _ _ _ xt2 p2 K2=>bin_ok xt2.st (xt2.relD p1) p2 K2)

theorem ev_neg {a:Expr} {e₁:E} {pos:Pos} (h1:EvOK C G H n sp a e₁):EvOK C G H n sp (.UnaryOp .USub a pos) (.neg e₁):=fun A X lc ρ ow ol σ s hs ha t Q E K=>by
  refine wpAny_UnaryOp ((h1 A X lc ρ ow ol σ s hs ha t).toD.here K fun _ _ d _ _ _ xt1 p1 K1=>?_)
  have K1:Cont _ _ _ _ _ _ _ _ (ofOpt _ (d.asInt.map fun i=>V.d (.int (-i)))) _ _:=K1
  cases d with
  | int i =>
    refine Xea (RelD.int_inv p1) fun _ zz1=>?_; subst zz1
    exact neg_int (K1.ok _ _ _ _ _ rfl (Ext.toks xt1.st) (RelD.int _ _))
  | _=>exact absurd rfl K1.nb

theorem ev_not {a:Expr} {e₁:E} {pos:Pos} (h1:EvOK C G H n sp a e₁):EvOK C G H n sp (.UnaryOp .Not a pos) (.not e₁):=fun A X lc ρ ow ol σ s hs ha t Q E K=>by
  refine wpAny_UnaryOp ((h1 A X lc ρ ow ol σ s hs ha t).toB.here K fun _ _ b _ _ _ xt1 p1 K1=>?_)
  subst p1
  exact not_of (wpAny_truthy_bool (K1.ok _ _ _ _ _ rfl (Ext.refl xt1.st) (RelD.bool _)))
theorem tr_not {a:Expr} {e₁:E} {pos:Pos} (h1:TrOK C G H n sp a e₁):TrOK C G H n sp (.UnaryOp .Not a pos) (.not e₁):=fun A X lc ρ ow ol σ s hs ha t Q E K=>by
  refine wpAny_isTrue_Not ?_
  refine h1 A X lc ρ ow ol σ s hs ha t _ _ ⟨fun e=>K.nb ?_,fun b σ' lc' s' x e xt p=>?_,fun k t σ' lc' s' x e er=>K.ex k t σ' lc' s' x ?_ er⟩
  · simp only [xEf,e]; rfl
  · subst p
    exact K.ok (!b) σ' lc' s' _ (by simp only [xEf,e]; rfl) xt rfl
  · simp only [xEf,e]; rfl

theorem ev_ite {c a b:Expr} {e₀ e₁ e₂:E} {pos:Pos} (h0:TrOK C G H n sp c e₀) (h1:EvOK C G H n sp a e₁) (h2:EvOK C G H n sp b e₂):EvOK C G H n sp (.IfExp c a b pos) (.ite e₀ e₁ e₂):=fun A X lc ρ ow ol σ s hs ha t Q E K=>by
  refine wpAny_IfExp ((h0 A X lc ρ ow ol σ s hs ha t).here K fun _ _ c _ _ _ xt1 p1 K1=>?_)
  subst p1
  cases c with
  | true=>exact h1 A X _ ρ ow ol _ _ hs ha xt1.st _ _ K1
  | false=>exact h2 A X _ ρ ow ol _ _ hs ha xt1.st _ _ K1
end
theorem R.bind_toB {α:Type} (r:R α) (f:α→Store→R V):toB (r.bind f)=r.bind fun a σ=>toB (f a σ):=by cases r <;> rfl
theorem toB_ofB {o:Option Bool} {σ:Store}:toB (ofOpt σ (o.map fun t=>V.d (.bool t)))=ofOpt σ o:=by cases o <;> rfl

noncomputable def unmarked (op:CmpOp) (r:Expr):Bool:=!behindInMarks op r

section
variable {C:Cst} {G:Nat→D} {H:Hd} {n:Nat} {sp:Sp} {A:Around} {X:Act} {lc:Loc} {ρ:Ro} {ow:Nat→Option Addr} {ol:List Addr} {σ:Store} {s:Shared}

theorem ev_cmp {a b:Expr} {e₁ e₂:E} {o:Cm} {pos:Pos} (hm:unmarked (cmP o) b=true) (h1:EvOK C G H n sp a e₁) (h2:EvOK C G H n sp b e₂):EvOK C G H n sp (.Compare a [cmP o] [b] pos) (.cmp o e₁ e₂):=fun A X lc ρ ow ol σ s hs ha t Q E K =>
  wpAny_Compare1 ((h1 A X lc ρ ow ol σ s hs ha t).toD.here K fun _ _ _ _ _ _ xt1 p1 K1=>(h2 A X _ ρ ow ol _ _ hs ha xt1.st).toD.here K1 fun _ _ _ _ _ _ xt2 p2 K2=>by
    refine Xeaa (Cont.ob K2) fun b e K3=>?_
    exact cmp_ok ha.eqRoom xt2.st (xt2.relD p1) p2 e K3) (by simpa [unmarked] using hm)
theorem tr_cmp {a b:Expr} {e₁ e₂:E} {o:Cm} {pos:Pos} (hm:unmarked (cmP o) b=true) (h1:EvOK C G H n sp a e₁) (h2:EvOK C G H n sp b e₂):TrOK C G H n sp (.Compare a [cmP o] [b] pos) (.cmp o e₁ e₂):=fun A X lc ρ ow ol σ s hs ha t Q E K=>by
  have K:Cont C X relB lc ρ ow ol s (((toD (evE G H e₁ ρ σ)).bind fun x σ₁=>(toD (evE G H e₂ ρ σ₁)).bind fun y σ₂=>ofOpt σ₂ (cmpD o x y))) Q E:=by
    simp only [xEi,R.bind_toB,toB_ofB] at K
    exact K
  refine wpAny_isTrue_Compare1 ((h1 A X lc ρ ow ol σ s hs ha t).toD.here K fun _ _ x _ _ _ xt1 p1 K1=>(h2 A X _ ρ ow ol _ _ hs ha xt1.st).toD.here K1 fun _ s₂ y σ₂ lc₂ _ xt2 p2 K2=>?_) (by simpa [unmarked] using hm)
  cases q:cmpD o x y with
  | none=>exact absurd (by rw [q]; rfl) K2.nb
  | some b =>
    refine cmp_ok ha.eqRoom xt2.st (xt2.relD p1) p2 q fun lc' s' v xt r=>?_
    obtain rfl:=RelD.bool_inv r
    exact wpAny_truthy_bool (K2.ok b _ lc' s' _ (by rw [q]; rfl) xt rfl)

theorem ev_chain {a b c:Expr} {e₁ e₂ e₃:E} {o p:Cm} {pos:Pos} (hm:unmarked (cmP p) c=true) (h1:EvOK C G H n sp a e₁) (h2:EvOK C G H n sp b e₂) (h3:EvOK C G H n sp c e₃) :
    EvOK C G H n sp (.Compare a [cmP o,cmP p] [b,c] pos) (.chain o p e₁ e₂ e₃):=fun A X lc ρ ow ol σ s hs ha t Q E K=>by
  rw [arm_eval_Compare]
  have em:markedEach [cmP o,cmP p] [b,c] (evalEach [b,c] X.env)=[eval b X.env,eval c X.env]:=by
    show [eval b X.env,markedBehindIn (cmP p) c (eval c X.env)]=_
    rw [markedBehindIn_of_false (by simpa [unmarked] using hm)]
  rw [em]
  refine wpAny_bind ((h1 A X lc ρ ow ol σ s hs ha t).toD.here K fun vx s₁ x σ₁ lc₁ _ xt1 p1 K1=>?_)
  refine wpAny_bind (wpAny_holding ((h2 A X _ ρ ow ol _ _ hs ha xt1.st).toD.here K1 fun vy s₂ y σ₂ lc₂ _ xt2 p2 K2=>wpAny_bind (wpAny_standAt (wpAny_bind (wpAny_holding ?_)))))
  cases q:cmpD o x y with
  | none=>exact absurd (by rw [q]; rfl) K2.nb
  | some b₁ =>
    rw [q] at K2
    refine cmp_ok ha.eqRoom xt2.st (xt2.relD p1) p2 q fun lc' s' v xt r=>?_
    obtain rfl:=RelD.bool_inv r
    refine wpAny_bind (wpAny_release (wpAny_bind (wpAny_holding (wpAny_truthy_bool ?_))))
    have K3:=(Cont.bind (P:=relB) K2).ok b₁ σ₂ lc' s' b₁ rfl xt rfl
    obtain ⟨b2,σ3,lc3,e3,xt3,p3,K3⟩:=K3
    have e4:b2=b₁:=p3
    have e5:σ₂=σ3:=by injection e3
    subst e4 e5
    cases b2 with
    | false=>exact wpAny_pure (K3.ok _ _ _ _ _ rfl (Ext.refl xt3.st) (RelD.bool _))
    | true =>
      rw [if_pos rfl]
      refine wpAny_bind (wpAny_holding ((h3 A X _ ρ ow ol _ _ hs ha xt3.st).toD.here K3 fun vz s₄ z σ₄ lc₄ _ xt4 p4 K4=>wpAny_bind (wpAny_standAt (wpAny_operating ?_))))
      refine Xeaa (Cont.ob K4) fun b e K5=>?_
      exact cmp_ok ha.eqRoom xt4.st (xt4.relD (xt3.relD p2)) p4 e K5
theorem tr_chain {a b c:Expr} {e₁ e₂ e₃:E} {o p:Cm} {pos:Pos} (hm:unmarked (cmP p) c=true) (h1:EvOK C G H n sp a e₁) (h2:EvOK C G H n sp b e₂) (h3:EvOK C G H n sp c e₃) :
    TrOK C G H n sp (.Compare a [cmP o,cmP p] [b,c] pos) (.chain o p e₁ e₂ e₃):=fun A X lc ρ ow ol σ s hs ha t Q E K=>by
  rw [arm_isTrue_Compare]
  have em:markedEach [cmP o,cmP p] [b,c] (evalEach [b,c] X.env)=[eval b X.env,eval c X.env]:=by
    show [eval b X.env,markedBehindIn (cmP p) c (eval c X.env)]=_
    rw [markedBehindIn_of_false (by simpa [unmarked] using hm)]
  rw [em]
  simp only [xEj,R.bind_toB] at K
  refine wpAny_bind ((h1 A X lc ρ ow ol σ s hs ha t).toD.here K fun vx s₁ x σ₁ lc₁ _ xt1 p1 K1=>?_)
  refine wpAny_bind (wpAny_holding ((h2 A X _ ρ ow ol _ _ hs ha xt1.st).toD.here K1 fun vy s₂ y σ₂ lc₂ _ xt2 p2 K2=>wpAny_bind (wpAny_standAt (wpAny_bind (wpAny_holding ?_)))))
  cases q:cmpD o x y with
  | none=>exact absurd (by rw [q]; rfl) K2.nb
  | some b₁ =>
    rw [q] at K2
    refine cmp_ok ha.eqRoom xt2.st (xt2.relD p1) p2 q fun lc' s' v xt r=>?_
    obtain rfl:=RelD.bool_inv r
    refine wpAny_bind (wpAny_release (wpAny_bind (wpAny_holding (wpAny_truthy_bool ?_))))
    have K3:=(Cont.bind (P:=relB) K2).ok b₁ σ₂ lc' s' b₁ rfl xt rfl
    obtain ⟨b2,σ3,lc3,e3,xt3,p3,K3⟩:=K3
    have e4:b2=b₁:=p3
    have e5:σ₂=σ3:=by injection e3
    subst e4 e5
    cases b2 with
    | false=>exact wpAny_pure (K3.ok _ _ _ _ _ rfl (Ext.refl xt3.st) rfl)
    | true =>
      rw [if_pos rfl]
      simp only [R.bind_toB,toB_ofB] at K3
      refine wpAny_bind (wpAny_holding ((h3 A X _ ρ ow ol _ _ hs ha xt3.st).toD.here K3 fun vz s₄ z σ₄ lc₄ _ xt4 p4 K4=>wpAny_bind (wpAny_standAt (wpAny_bind (wpAny_operating ?_)))))
      cases q:cmpD p y z with
      | none=>exact absurd (by rw [q]; rfl) K4.nb
      | some b =>
        refine cmp_ok ha.eqRoom xt4.st (xt4.relD (xt3.relD p2)) p4 q fun lc' s' v xt r=>?_
        obtain rfl:=RelD.bool_inv r
        exact wpAny_holding (wpAny_truthy_bool (K4.ok b _ lc' s' _ (by rw [q]; rfl) xt rfl))

theorem tr_ite {c a b:Expr} {e₀ e₁ e₂:E} {pos:Pos} (h0:TrOK C G H n sp c e₀) (h1:TrOK C G H n sp a e₁) (h2:TrOK C G H n sp b e₂):TrOK C G H n sp (.IfExp c a b pos) (.ite e₀ e₁ e₂):=fun A X lc ρ ow ol σ s hs ha t Q E K=>by
  simp only [xEh,R.bind_toB] at K
  rw [arm_isTrue_IfExp]
  refine wpAny_bind ((h0 A X lc ρ ow ol σ s hs ha t).here K fun _ _ c _ _ _ xt1 p1 K1=>?_)
  subst p1
  cases c with
  | true=>exact h1 A X _ ρ ow ol _ _ hs ha xt1.st _ _ K1
  | false=>exact h2 A X _ ρ ow ol _ _ hs ha xt1.st _ _ K1

theorem bs_nil {isAnd:Bool}:BsOK C G H n sp isAnd [] .nil:=⟨fun A X lc ρ ow ol σ s hs ha t Q E K=>by
  rw [arm_allTrue_nil]
  refine wpAny_pure ?_
  have e:((if isAnd=true then BoolOp.And else BoolOp.Or) == BoolOp.And)=isAnd:=by cases isAnd <;> rfl
  rw [e]
  exact K.ok isAnd σ lc s _ rfl (Ext.refl t) rfl,fun h=>absurd rfl h⟩
theorem bs_cons {isAnd:Bool} {a:Expr} {as:List Expr} {e:E} {es:Es} (h1:EvOK C G H n sp a e) (h1':TrOK C G H n sp a e) (h2:BsOK C G H n sp isAnd as es) (hn:as=[]→es=.nil):BsOK C G H n sp isAnd (a :: as) (.cons e es):=by
  refine ⟨fun A X lc ρ ow ol σ s hs ha t Q E K=>?_,fun _ A X lc ρ ow ol σ s pos hs ha t Q E K=>?_⟩
  · rw [arm_allTrue_cons]
    refine wpAny_bind ((h1' A X lc ρ ow ol σ s hs ha t).here K fun _ _ b _ _ _ xt1 p1 K1=>?_)
    subst p1
    by_cases q:b=isAnd
    · rw [if_pos q] at K1
      subst q
      have:=h2.1 A X _ ρ ow ol _ _ hs ha xt1.st _ _ K1
      cases b <;> exact this
    · rw [if_neg q] at K1
      have:=K1.ok b _ _ _ b rfl (Ext.refl xt1.st) rfl
      cases b <;> cases isAnd <;> first | exact absurd rfl q | exact wpAny_pure this
  · cases as with
    | nil =>
      obtain rfl:=hn rfl
      show wpAny C.M A (eval a X.env) Q E s
      refine (h1 A X lc ρ ow ol σ s hs ha t).toB.here K fun _ _ b _ _ _ xt1 p1 K1=>?_
      subst p1
      refine K1.ok b _ _ _ _ ?_ (Ext.refl xt1.st) rfl
      by_cases q:b=isAnd
      · rw [if_pos q,q]; rfl
      · rw [if_neg q]
    | cons a' as =>
      show wpAny C.M A (boolOp pos _ (eval a X.env :: eval a' X.env :: evalEach as X.env)) Q E s
      refine wpAny_bind ((h1 A X lc ρ ow ol σ s hs ha t).toB.here K fun _ _ b _ _ _ xt1 p1 K1=>wpAny_bind (wpAny_standAt (wpAny_bind (wpAny_holding ?_))))
      subst p1
      refine wpAny_truthy_bool ?_
      by_cases q:b=isAnd
      · rw [if_pos q] at K1
        subst q
        have:=h2.2 (by simp) A X _ ρ ow ol _ _ pos hs ha xt1.st _ _ K1
        cases b <;> exact this
      · rw [if_neg q] at K1
        have:=K1.ok b _ _ _ (.bool b) rfl (Ext.refl xt1.st) rfl
        cases b <;> cases isAnd <;> first | exact absurd rfl q | exact wpAny_pure this

theorem ev_bop {isAnd:Bool} {as:List Expr} {es:Es} {pos:Pos} (hn:as ≠ []) (h:BsOK C G H n sp isAnd as es):EvOK C G H n sp (.BoolOp (if isAnd then .And else .Or) as pos) (.bop isAnd es):=fun A X lc ρ ow ol σ s hs ha t Q E K=>by
  rw [arm_eval_BoolOp]
  refine (h.2 hn A X lc ρ ow ol σ s pos hs ha t).here K fun _ _ b _ _ _ xt1 p1 K1=>?_
  subst p1
  exact K1.ok _ _ _ _ _ rfl (Ext.refl xt1.st) (RelD.bool _)
theorem tr_bop {isAnd:Bool} {as:List Expr} {es:Es} {pos:Pos} (h:BsOK C G H n sp isAnd as es):TrOK C G H n sp (.BoolOp (if isAnd then .And else .Or) as pos) (.bop isAnd es):=fun A X lc ρ ow ol σ s hs ha t Q E K=>by
  rw [arm_isTrue_BoolOp]
  simp only [xEg,R.bind_toB] at K
  refine (h.1 A X lc ρ ow ol σ s hs ha t).here K fun _ _ b _ _ _ xt1 p1 K1=>?_
  subst p1
  exact K1.ok _ _ _ _ _ rfl (Ext.refl xt1.st) rfl
end
noncomputable def cstD:Const→Option D
  | .none=>some .null
  | .bool b=>some (.bool b)
  | .int i=>some (.int i)
  | .str s=>some (.str s.cps.toList)
  | _=>none

noncomputable def okName (x:Str):Bool:=!(x == ("__debug__":Str)) && !(x == ("__classdict__":Str))

section
variable {C:Cst} {G:Nat→D} {NM:Names} {H:Hd} {n:Nat} {sp:Sp} {A:Around} {X:Act} {lc:Loc} {ρ:Ro} {ow:Nat→Option Addr} {ol:List Addr} {σ:Store} {s:Shared}

theorem RelV.noOwn {F h:Heap} {o:Option Addr} {v:V} {x:Value} (hv:locV (some v)=some v) (r:RelV C F h lc o v x):RelV C F h lc none v x:=by
  cases v <;> first | exact r | cases hv

theorem load_slot {k:Nat} {x:Str} {kd:NameKind} {v:V} {Q:Value→Shared→Prop} {E:Value→Shared→Prop} (hx:okName x=true) (hs:SpX X sp) (hk:sp.sl[k]?=some (some (x,kd))) (t:St C X lc ρ ow ol σ s) (hv:ρ.get k=some v)
    (h:∀ val,Held X.env (fun y=>if y=x then some val else none) s.heap x kd val→RelV C (fz s.heap (X.Z C lc ol)) s.heap lc (ow k) v val→Q val s):wpAny C.M A (loadName X.env x) Q E s:=by
  have hk':X.sl[k]?=some (some (x,kd)):=by rw [hs.sl]; exact hk
  refine Xeaa (t.f.ns) fun m hn hr=>?_
  refine Xeaa (hr k v x kd hv hk') fun val hh r=>?_
  have kdo:=t.f.slots k x kd hk'
  cases kd with
  | «local»=>exact wpAny_loadName_local t.f.kind kdo hn hh (h val (by simp [Held]) r)
  | cell =>
    refine Xeeaaa (hh) fun c o e1 e2 e3=>?_
    exact wpAny_loadName_cell t.f.kind kdo e1 ⟨o,e2,e3⟩ (h val ⟨c,o,e1,e2,e3⟩ r)
  | free =>
    refine Xeeaaa (hh) fun c o e1 e2 e3=>?_
    refine wpAny_loadName_free t.f.kind kdo e1 ⟨o,e2,e3⟩ (h val ⟨c,o,e1,e2,e3⟩ r) ?_
    simp only [okName,Bool.and_eq_true,Bool.not_eq_true'] at hx
    exact hx.2
  | _=>exact hh.elim

theorem ev_loc {k:Nat} {x:Str} {kd:NameKind} {pos:Pos} (hx:okName x=true) (hk:sp.sl[k]?=some (some (x,kd))):EvOK C G H n sp (.Name x pos) (.loc k):=fun A X lc ρ ow ol σ s hs ha t Q E K=>by
  refine wpAny_Name ?_ (by simp only [okName,Bool.and_eq_true,Bool.not_eq_true'] at hx; exact hx.1)
  cases q:ρ.get k with
  | none=>exact absurd (by simp [xEa,q,locV,ofOpt]) K.nb
  | some v =>
    by_cases hv:locV (some v)=some v
    · exact load_slot hx hs hk t q fun val _ r=>K.ok v σ lc s val (by simp only [xEa,q,hv]; rfl) (Ext.refl t) (r.noOwn hv)
    · exact absurd (by cases v <;> first | exact absurd rfl hv | (simp only [xEa,q,locV]; rfl)) K.nb

theorem ev_cst {c:Const} {d:D} {k:Nat} {pos:Pos} (hc:cstD c=some d):EvOK C G H n sp (.Constant c k pos) (.cst d):=fun A X lc ρ ow ol σ s hs ha t Q E K=>by
  have K:KD C X lc ρ ow ol σ s Q d:=fun lc' s' v xt r=>K.ok (.d d) σ lc' s' v rfl xt r
  cases c <;> cases hc
  · exact wpAny_Constant_none (K.here t .null)
  · exact wpAny_Constant_bool (K.here t (.bool _))
  · exact wpAny_Constant_int (K.int t)
  · exact wpAny_Constant_str (K.str t (by simp))

theorem load_glob {x:Str} {Q:Value→Shared→Prop} {E:Value→Shared→Prop} (ok:COK C G NM) (hs:SpX X sp) (hk:sp.scope.names.lookup x=some .globalImplicit) (t:St C X lc ρ ow ol σ s) {v:Value} (hv:C.mg x=some v) (h:Q v s) :
    wpAny C.M A (loadName X.env x) Q E s:=by
  rw [loadName_read t.f.kind (by unfold Env.kindOf; rw [hs.scope]; exact hk)]
  exact Calls.loadGlobal_global (by rw [t.f.globals]; exact ok.gl.at' fun o e=>t.g.base _ _ e) hv h
theorem load_built {x:Str} {Q:Value→Shared→Prop} {E:Value→Shared→Prop} (ok:COK C G NM) (hs:SpX X sp) (hk:sp.scope.names.lookup x=some .globalImplicit) (t:St C X lc ρ ow ol σ s) {v:Value} (hm:C.mg x=none) (hv:C.mb x=some v) (h:Q v s) :
    wpAny C.M A (loadName X.env x) Q E s:=by
  rw [loadName_read t.f.kind (by unfold Env.kindOf; rw [hs.scope]; exact hk)]
  exact Calls.loadGlobal_builtin (by rw [t.f.globals]; exact ok.gl.at' fun o e=>t.g.base _ _ e) hm (by rw [t.f.builtins]; exact ok.bl.at' fun o e=>t.g.base _ _ e) hv h

theorem ev_glob {g:Nat} {x:Str} {pos:Pos} (ok:COK C G NM) (hx:okName x=true) (hk:sp.scope.names.lookup x=some .globalImplicit) (hg:NM.g g=some x):EvOK C G H n sp (.Name x pos) (.glob g):=fun A X lc ρ ow ol σ s hs ha t Q E K=>by
  refine wpAny_Name ?_ (by simp only [okName,Bool.and_eq_true,Bool.not_eq_true'] at hx; exact hx.1)
  refine Xeaa (ok.glob g x hg) fun v hv r=>?_
  exact load_glob ok hs hk t hv (K.ok (.d (G g)) σ lc s v rfl (Ext.refl t) (RelD.mono t.base r))

theorem ev_sub {a i:Expr} {e₁ e₂:E} {pos:Pos} (hn:notSlice i=true) (h1:EvOK C G H n sp a e₁) (h2:EvOK C G H n sp i e₂):EvOK C G H n sp (.Subscript a i pos) (.sub e₁ e₂):=fun A X lc ρ ow ol σ s hs ha t Q E K =>
  Subscript_ ((h1 A X lc ρ ow ol σ s hs ha t).here K fun _ _ _ _ _ _ xt1 p1 K1=>(h2 A X _ ρ ow ol _ _ hs ha xt1.st).toD.here K1 fun _ _ _ _ _ _ xt2 p2 K2=>sub_ok hn xt2.st (xt2.relV p1) p2 K2)

theorem ev_slc {a b c:Expr} {e₁ e₂ e₃:E} {p pos:Pos} (h1:EvOK C G H n sp a e₁) (h2:EvOK C G H n sp b e₂) (h3:EvOK C G H n sp c e₃):EvOK C G H n sp (.Subscript a (.Slice (some b) (some c) none p) pos) (.slc e₁ e₂ e₃):=fun A X lc ρ ow ol σ s hs ha t Q E K=>by
  refine Subscript_ ((h1 A X lc ρ ow ol σ s hs ha t).toD.here K fun _ _ x _ _ _ xt1 p1 K1=>wpAny_Slice ?_)
  rw [evalPart_some,evalPart_some]
  refine (h2 A X _ ρ ow ol _ _ hs ha xt1.st).toD.here K1 fun _ _ y _ _ _ xt2 p2 K2=>(h3 A X _ ρ ow ol _ _ hs ha xt2.st).toD.here K2 fun _ _ z _ _ _ xt3 p3 K3=>?_
  rw [evalPart_none]
  refine wpAny_pure ?_
  cases y with
  | int l =>
    cases z with
    | int h =>
      obtain ⟨_,rfl⟩:=RelD.int_inv (xt3.relD p2); obtain ⟨_,rfl⟩:=RelD.int_inv p3
      refine Xeaa (Cont.od K3) fun d e K4=>?_
      exact slc_ok xt3.st (xt3.relD (xt2.relD p1)) e K4
    | _=>exact absurd rfl K3.nb
  | _=>exact absurd rfl K3.nb
theorem ev_slcFrom {a b:Expr} {e₁ e₂:E} {p pos:Pos} (h1:EvOK C G H n sp a e₁) (h2:EvOK C G H n sp b e₂):EvOK C G H n sp (.Subscript a (.Slice (some b) none none p) pos) (.slcFrom e₁ e₂):=fun A X lc ρ ow ol σ s hs ha t Q E K=>by
  refine Subscript_ ((h1 A X lc ρ ow ol σ s hs ha t).toD.here K fun _ _ x _ _ _ xt1 p1 K1=>wpAny_Slice ?_)
  rw [evalPart_some]
  refine (h2 A X _ ρ ow ol _ _ hs ha xt1.st).toD.here K1 fun _ _ y _ _ _ xt2 p2 K2=>?_
  rw [evalPart_none]
  refine wpAny_pure (wpAny_pure ?_)
  cases y with
  | int l =>
    refine Xea (RelD.int_inv p2) fun _ zz1=>?_; subst zz1
    refine Xeaa (Cont.od K2) fun d e K4=>?_
    exact slcFrom_ok xt2.st (xt2.relD p1) e K4
  | _=>exact absurd rfl K2.nb
theorem ev_slcTo {a b:Expr} {e₁ e₂:E} {p pos:Pos} (h1:EvOK C G H n sp a e₁) (h2:EvOK C G H n sp b e₂):EvOK C G H n sp (.Subscript a (.Slice none (some b) none p) pos) (.slcTo e₁ e₂):=fun A X lc ρ ow ol σ s hs ha t Q E K=>by
  refine Subscript_ ((h1 A X lc ρ ow ol σ s hs ha t).toD.here K fun _ _ x _ _ _ xt1 p1 K1=>wpAny_Slice ?_)
  rw [evalPart_none,evalPart_some]
  refine wpAny_pure ((h2 A X _ ρ ow ol _ _ hs ha xt1.st).toD.here K1 fun _ _ y _ _ _ xt2 p2 K2=>?_)
  refine wpAny_pure ?_
  cases y with
  | int l =>
    refine Xea (RelD.int_inv p2) fun _ zz1=>?_; subst zz1
    refine Xeaa (Cont.od K2) fun d e K4=>?_
    exact slcTo_ok xt2.st (xt2.relD p1) e K4
  | _=>exact absurd rfl K2.nb

noncomputable def notStar (a:Expr):Bool:=a.ctorIdx != 22
theorem starEach_cons {a:Expr} (h:notStar a=true) (as:List Expr) (env:Env):starEach (a :: as) env=(false,eval a env) :: starEach as env:=by
  cases a <;> first | rfl | cases h
theorem evs_nil:EvsOK C G H n sp [] .nil:=fun A X lc ρ ow ol σ s pos hs ha t Q E K=>by
  show wpAny _ _ (pure []) _ _ _
  exact wpAny_pure (K.ok [] σ lc s [] rfl (Ext.refl t) .nil)
theorem evs_cons {a:Expr} {as:List Expr} {e:E} {es:Es} (hn:notStar a=true) (h1:EvOK C G H n sp a e) (h2:EvsOK C G H n sp as es):EvsOK C G H n sp (a :: as) (.cons e es):=fun A X lc ρ ow ol σ s pos hs ha t Q E K=>by
  rw [starEach_cons hn]
  show wpAny _ _ (spliced ((false,eval a X.env) :: backTo pos (starEach as X.env))) _ _ _
  refine Calls.spliced_cons ((h1 A X lc ρ ow ol σ s hs ha t).here K fun _ _ v _ _ _ xt1 p1 K1=>(h2 A X _ ρ ow ol _ _ pos hs ha xt1.st).here K1 fun _ _ vs _ _ _ xt2 p2 K2=>?_)
  exact K2.ok _ _ _ _ _ rfl (Ext.refl xt2.st) (.cons (xt2.relV p1) p2)

theorem ev_tup {as:List Expr} {es:Es} {k:Nat} {pos:Pos} (h:EvsOK C G H n sp as es):EvOK C G H n sp (.Tuple as k pos) (.tup es):=fun A X lc ρ ow ol σ s hs ha t Q E K =>
  wpAny_Tuple_spliced ((h A X lc ρ ow ol σ s pos hs ha t).toDs.here K fun vs s₁ l σ₁ lc₁ _ xt1 p1 K1=>by
    have K1:Cont _ _ _ _ _ _ _ _ (if l.length ≤ LIM then R.ok (V.d (.tup l)) σ₁ else .bad) _ _:=K1
    split at K1
    · rename_i hl
      have K2:KD C X lc₁ ρ ow ol σ₁ s₁ Q (.tup l):=fun lc' s' v xt r=>K1.ok _ _ lc' s' v rfl xt r
      exact ⟨by rw [← RelDs.length p1]; exact lim_size hl,K2.tup xt1.st p1 (tk:=s₁.toks)⟩
    · exact absurd rfl K1.nb)
theorem ev_lst {as:List Expr} {es:Es} {pos:Pos} (h:EvsOK C G H n sp as es):EvOK C G H n sp (.List as pos) (.lst es):=fun A X lc ρ ow ol σ s hs ha t Q E K =>
  wpAny_List_spliced ((h A X lc ρ ow ol σ s pos hs ha t).toDs.here K fun vs s₁ l σ₁ lc₁ _ xt1 p1 K1=>by
    have K1:Cont _ _ _ _ _ _ _ _ (if l.length ≤ LIM then R.ok (V.d (.lst l)) σ₁ else .bad) _ _:=K1
    split at K1
    · rename_i hl
      have K2:KD C X lc₁ ρ ow ol σ₁ s₁ Q (.lst l):=fun lc' s' v xt r=>K1.ok _ _ lc' s' v rfl xt r
      exact ⟨by rw [← RelDs.length p1]; exact lim_size hl,K2.lst xt1.st p1 (tk:=s₁.toks)⟩
    · exact absurd rfl K1.nb)
end
theorem noStar_any {pos:Pos} {env:Env}:∀ {as:List Expr},as.all notStar=true→(backTo pos (starEach as env)).any (·.1)=false
  | [],_=>rfl
  | a :: as,h=>by
    rw [List.all_cons,Bool.and_eq_true] at h
    rw [starEach_cons h.1]
    exact noStar_any (as:=as) h.2

section
variable {M:Model} {A:Around} {E:Value→Shared→Prop} {s:Shared}
theorem evalArgs_ok {f:Value} {as:List Expr} {env:Env} {pos:Pos} {Q:Args→Shared→Prop} (hn:as.all notStar=true) (h:wpAny M A (spliced (backTo pos (starEach as env))) (fun vs s'=>Q ⟨vs,[]⟩ s') E s) :
    wpAny M A (evalArgs f true (backTo pos (starEach as env)) []) Q E s:=by
  cases as with
  | nil =>
    show wpAny M A (spliced [] >>= _) Q E s
    refine wpAny_bind (wpAny_mono h (fun vs s' h'=>?_) fun _ _ x=>x)
    refine wpAny_holding ?_
    exact wpAny_bind (wpAny_pure (wpAny_bind (wpAny_pure (wpAny_pure h'))))
  | cons a as =>
    rw [List.all_cons,Bool.and_eq_true] at hn
    rw [starEach_cons hn.1] at h ⊢
    exact Calls.evalArgs_plain h
end
theorem biF_kind (b:Bi):(∃ id,biF b=.builtin id)∨∃ T,biF b=.type T:=by
  cases b <;> first | exact .inl ⟨_,rfl⟩ | exact .inr ⟨_,rfl⟩

section
variable {C:Cst} {G:Nat→D} {NM:Names} {H:Hd} {n:Nat} {sp:Sp} {A:Around} {X:Act} {lc:Loc} {ρ:Ro} {ow:Nat→Option Addr} {ol:List Addr} {σ:Store} {s:Shared}

theorem callWith_bi {b:Bi} {as:List Expr} {env:Env} {pos:Pos} {Q:Value→Shared→Prop} {E:Value→Shared→Prop} (hn:as.all notStar=true)
    (h:wpAny C.M A (spliced (backTo pos (starEach as env))) (fun vs s'=>wpAny C.M A (call (biF b) vs) Q E s') E s):wpAny C.M A (callWith pos (biF b) [] (backTo pos (starEach as env)) []) Q E s:=by
  rcases biF_kind b with ⟨id,e⟩ | ⟨T,e⟩
  · rw [e] at h ⊢
    exact Calls.callWith_builtin (noStar_any hn) (evalArgs_ok hn h)
  · rw [e] at h ⊢
    exact PySem.callWith_type (noStar_any hn) (evalArgs_ok hn h)

theorem ev_bi {b:Bi} {as:List Expr} {es:Es} {p pos:Pos} (ok:COK C G NM) (hn:as.all notStar=true) (hk:sp.scope.names.lookup (biN b)=some .globalImplicit) (h:EvsOK C G H n sp as es) :
    EvOK C G H n sp (.Call (.Name (biN b) p) as [] pos) (.bi b es):=fun A X lc ρ ow ol σ s hs ha t Q E K=>by
  refine wpAny_Call_NameR (wpAny_Name (load_built ok hs hk t (ok.bi b).1 (ok.bi b).2 ?_) (by cases b <;> decide))
  refine callWith_bi hn ((h A X lc ρ ow ol σ s pos hs ha t).toDs.here K fun vs s₁ l σ₁ lc₁ _ xt1 p1 K1=>?_)
  refine Xeaa (Cont.od K1) fun d e K2=>?_
  exact bi_ok ha.handled xt1.st p1 e K2
end
noncomputable def baseOK (a:Expr):Bool:=a.ctorIdx == 23 || a.ctorIdx == 21 || a.ctorIdx == 6
theorem base_eq {o:Expr} (h:baseOK o=true) (name:Str) (env:Env) (whole:Sem Value):attributeBase o name env whole=whole:=by
  cases o <;> first | rfl | (unfold attributeBase; rfl) | cases h

theorem few_ok {as:List Expr} {pos:Pos} {env:Env} (hn:as.all notStar=true) (hl:as.length < 20) :
    methodCallForm (as.length + ([]:List Keyword).length) (backTo pos (starEach as env)) (backToKw pos (keywordEach [] env))=true:=by
  unfold methodCallForm
  have h1:(backTo pos (starEach as env)).all (fun x=>!x.1)=true:=by
    have:=noStar_any (pos:=pos) (env:=env) hn
    rw [List.all_eq_true]
    rw [List.any_eq_false] at this
    intro x hx
    have:=this x hx
    simpa using this
  rw [h1]
  have h2:(backToKw pos (keywordEach [] env))=[]:=rfl
  rw [h2]
  simp
  lia

structure HOK (C:Cst) (H:Hd) (n:Nat):Prop where
  call:∀ (f:Nat) (vs:List V) (vals:List Value) (A:Around) (X:Act) (lc:Loc) (ρ:Ro) (ow:Nat→Option Addr) (ol:List Addr) (σ:Store) (s:Shared),AOK C A X n→St C X lc ρ ow ol σ s→relVs C X ol lc s.heap vs vals →
    Den C A X (relD C X ol) lc ρ ow ol s (H f vs σ) (call (.ref (C.fa f)) vals)

noncomputable def attrN:List Str:=["text","at","groups","farthest_back"]
structure ROK (C:Cst) (NM:Names) (mN:Nat→Option Str):Prop where
  ga:findIn C.K (.ref C.PR) "__getattribute__"=some (some (.builtin "object.__getattribute__"))
  gt:findIn C.K (.ref C.PR) "__getattr__"=some none
  sa:findIn C.K (.ref C.PR) "__setattr__"=some (some (.builtin "object.__setattr__"))
  po:plainOver C.K C.PR=true
  hd:(clsIn C.K C.PR).any (·.hasDict)=true
  at_:∀ (j:Nat) x,attrN[j]?=some x→findIn C.K (.ref C.PR) x=some none
  m:∀ f x,mN f=some x→findIn C.K (.ref C.PR) x=some (some (.ref (C.fa f)))∧typeIn C.K (.ref (C.fa f))=some (.type "function")∧keepIn C.K (.ref (C.fa f))=true ∧
    attrN.all (fun y=>!(y == x))=true

section
variable {C:Cst} {G:Nat→D} {NM:Names} {H:Hd} {n:Nat} {sp:Sp} {A:Around} {X:Act} {lc:Loc} {ρ:Ro} {ow:Nat→Option Addr} {ol:List Addr} {σ:Store} {s:Shared}

theorem COK.at (ok:COK C G NM) (g:GRel C lc σ s):C.K.In s.heap:=ok.kin.keeps g.base

theorem Den.ofD {r:R D} {t:Sem Value} (h:Den C A X (relD C X ol) lc ρ ow ol s r t):Den C A X (relV C X ol) lc ρ ow ol s (ofD r) t:=fun Q E K=>h Q E
  ⟨fun e=>K.nb (by rw [e]; rfl),fun a σ' lc' s' x e xt p=>K.ok (.d a) σ' lc' s' x (by rw [e]; rfl) xt p,
   fun k t σ' lc' s' x e er=>K.ex k t σ' lc' s' x (by rw [e]; rfl) er⟩

theorem ev_call {f:Nat} {x:Str} {as:List Expr} {es:Es} {p pos:Pos} (ok:COK C G NM) (hok:HOK C H n) (hx:okName x=true) (hn:as.all notStar=true) (hk:sp.scope.names.lookup x=some .globalImplicit) (hf:NM.f f=some x) (h:EvsOK C G H n sp as es) :
    EvOK C G H n sp (.Call (.Name x p) as [] pos) (.call f es):=fun A X lc ρ ow ol σ s hs ha t Q E K=>by
  obtain ⟨hv,hkp⟩:=ok.fn f x hf
  refine wpAny_Call_NameR (wpAny_Name (load_glob ok hs hk t hv ?_) (by simp only [okName,Bool.and_eq_true,Bool.not_eq_true'] at hx; exact hx.1))
  refine callWith_of (P:=C.K.In) (by rw [noStar_any hn]; rfl) (keeps_K hkp) (evalArgs_ok hn ?_)
  exact (h A X lc ρ ow ol σ s pos hs ha t).here K fun vs s₁ l σ₁ lc₁ _ xt1 p1 K1=>⟨ok.at xt1.st.g,(hok.call f l vs A X lc₁ ρ ow ol σ₁ s₁ ha xt1.st p1).ofD _ _ K1⟩

theorem rd_inst (t:St C X lc ρ ow ol σ s) {v:Value} (hv:relV C X ol lc s.heap .rd v) {r:Rd} (hr:σ.rd=some r) :
    ∃ p es m,lc.rd=some p∧v=.ref p.1∧RdEs es r∧s.heap.get? p.2=some (PySem.W.dictOf es m)∧InstAt s.heap p.1 (instObj C.PR p.2) C.PR (some (PySem.W.dictOf es m)):=by
  refine Xeaa (hv) fun p e zz1=>?_; subst zz1
  have hb:=t.g.rd
  rw [e,hr] at hb
  refine Xaeeaa (hb) fun e1 es m e2 e3=>?_
  exact ⟨p,es,m,e,rfl,e3,e2,⟨e1,rfl,rfl,e2⟩⟩
theorem rd_store (t:St C X lc ρ ow ol σ s) {v:Value} (hv:relV C X ol lc s.heap .rd v):∃ r,σ.rd=some r:=by
  refine Xeaa (hv) fun p e zz1=>?_; subst zz1
  have hb:=t.g.rd
  rw [e] at hb
  cases q:σ.rd with
  | none=>rw [q] at hb; exact hb.elim
  | some r=>exact ⟨r,rfl⟩

theorem getL_rd {es:List DictEntry} {r:Rd} (h:RdEs es r) {x:Str} (hx:attrN.all (fun y=>!(y == x))=true):getL x es=some none:=by
  refine Xeeeeeeeeeeeea (h) fun h0 k0 t0 h1 k1 t1 h2 k2 t2 h3 k3 t3 zz1=>?_; subst zz1
  simp only [attrN,List.all_cons,List.all_nil,Bool.and_true,Bool.and_eq_true,Bool.not_eq_true'] at hx
  refine Xaaaa (hx) fun a1 a2 a3 a4=>?_
  unfold getL
  simp [List.find?_cons,Value.isStr,a1,a2,a3,a4,DictEntry.refKey]

theorem ev_meth {f:Nat} {x:Str} {o:Expr} {e:E} {as:List Expr} {es:Es} {ap pos:Pos} {mN:Nat→Option Str} (ok:COK C G NM) (rk:ROK C NM mN) (hok:HOK C H n) (hb:baseOK o=true) (hl:ap.endLine=pos.line) (hlen:as.length < 20)
    (hn:as.all notStar=true) (hf:mN f=some x) (h1:EvOK C G H n sp o e) (h:EvsOK C G H n sp as es):EvOK C G H n sp (.Call (.Attribute o x ap) as [] pos) (.meth f e es):=fun A X lc ρ ow ol σ s hs ha t Q E K=>by
  refine Xaaaa (rk.m f x hf) fun m1 m2 m3 m4=>?_
  rw [arm_eval_Call,base_eq hb]
  refine wpAny_bind ((h1 A X lc ρ ow ol σ s hs ha t).here K fun ov s₁ v σ₁ lc₁ _ xt1 p1 K1=>wpAny_bind (wpAny_standAt ?_))
  cases v with
  | rd =>
    obtain ⟨r,hr⟩:=rd_store xt1.st p1
    refine Xeeeaaaaa (rd_inst xt1.st p1 hr) fun p es' m e1 zz1 e2 e3 I=>?_; subst zz1
    unfold methodCall
    rw [few_ok hn hlen]
    refine wpAny_bind (wpAny_holding (method_fn (ok.at xt1.st.g) I rk.ga rk.gt m1 m2 ?_ ?_))
    · show (lookIn x (PySem.W.dictOf es' m)).map (·.isSome)=some false
      rw [lookIn_dict,getL_rd e2 m4]
      rfl
    · have hpos:methodCallPos true o X.env ap pos=pure pos:=by unfold methodCallPos; simp [hl]
      refine wpAny_bind (wpAny_of_eq hpos ?_)
      refine callWith_of (P:=C.K.In) (by rw [noStar_any hn]; rfl) (keeps_K m3) (evalArgs_ok hn ?_)
      refine (h A X _ ρ ow ol _ _ pos hs ha xt1.st).here K1 fun vs s₂ l σ₂ lc₂ _ xt2 p2 K2=>⟨ok.at xt2.st.g,?_⟩
      exact (hok.call f (.rd :: l) (.ref p.1 :: vs) A X lc₂ ρ ow ol σ₂ s₂ ha xt2.st (.cons (xt2.relV p1) p2)).ofD _ _ K2
  | _=>exact absurd rfl K1.nb

theorem ev_cnt {o b:Expr} {e₁ e₂:E} {ap pos:Pos} (hb:baseOK o=true) (hl:ap.endLine=pos.line) (hn:notStar b=true) (h1:EvOK C G H n sp o e₁) (h2:EvOK C G H n sp b e₂) :
    EvOK C G H n sp (.Call (.Attribute o "count" ap) [b] [] pos) (.cnt e₁ e₂):=fun A X lc ρ ow ol σ s hs ha t Q E K=>by
  refine wpAny_Call_method (T:="str") (id:="str.count") (base_eq hb _ _ _) (by rw [starEach_cons hn]; rfl) (by simp [hl]) PySem.F.plainAttrs_str PySem.F.slot_str_count PySem.F.type_str_count ?_
  refine (h1 A X lc ρ ow ol σ s hs ha t).toD.here K fun ov s₁ v σ₁ lc₁ _ xt1 p1 K1=>?_
  cases v with
  | str x =>
    obtain ⟨u,rfl⟩:=RelD.str_inv p1
    refine ⟨typeIs_str _ _ _,fun a e=>(by cases e),?_⟩
    rw [starEach_cons hn]
    refine Calls.callWith_builtin (first:=[_]) rfl (Calls.evalArgs_plain (Calls.spliced_cons ((h2 A X _ ρ ow ol _ _ hs ha xt1.st).toD.here K1 fun vy s₂ y σ₂ lc₂ _ xt2 p2 K2=>?_)))
    show wpAny _ _ (pure []) _ _ _
    refine wpAny_pure ?_
    refine Xeaa (Cont.od K2) fun d e K3=>?_
    refine Xeaa (Option.bind_eq_some_iff.mp e) fun l h e2=>?_; clear e
    cases D.asStr_inv h
    refine Xeaa (Option.map_eq_some_iff.mp e2) fun c h zz=>?_; clear e2; subst zz
    cases one_inv h
    refine Xea (RelD.str_inv p2) fun u2 zz=>?_; subst zz
    refine call_gives PySem.F.slot_str_count (typeIs_str _ _ _) PySem.F.entry_str_count (PySem.F.args_str_count_2 _ _) (gives_str_count _ _ _ _) ?_
    rw [mkS_length]
    exact K3.int xt2.st
  | _=>exact absurd rfl K1.nb

theorem ev_get {o b:Expr} {e₁ e₂:E} {ap pos:Pos} (hb:baseOK o=true) (hl:ap.endLine=pos.line) (hn:notStar b=true) (h1:EvOK C G H n sp o e₁) (h2:EvOK C G H n sp b e₂) :
    EvOK C G H n sp (.Call (.Attribute o "get" ap) [b] [] pos) (.get e₁ e₂):=fun A X lc ρ ow ol σ s hs ha t Q E K=>by
  refine wpAny_Call_method (T:="dict") (id:="dict.get") (base_eq hb _ _ _) (by rw [starEach_cons hn]; rfl) (by simp [hl]) PySem.F.plainAttrs_dict PySem.F.slot_dict_get PySem.F.type_dict_get ?_
  refine (h1 A X lc ρ ow ol σ s hs ha t).toD.here K fun ov s₁ v σ₁ lc₁ _ xt1 p1 K1=>?_
  cases v with
  | dcS x =>
    cases p1 with
    | dcS hn' hd hk hr =>
      refine ⟨(dictOf_to hd).typeIs,(dictOf_to hd).mapOf.noDict,?_⟩
      rw [starEach_cons hn]
      refine wpAny_dict_get1 (knd:=PySem.strKind C.prog C.w) hn' ((h2 A X _ ρ ow ol _ _ hs ha xt1.st).toD.here K1 fun vy s₂ y σ₂ lc₂ _ xt2 p2 K2=>?_)
      refine Xeaa (Cont.od K2) fun d e K3=>?_
      refine Xeaa (Option.map_eq_some_iff.mp e) fun k h zz=>?_; clear e; subst zz
      cases D.asStr_inv h
      · refine Xea (RelD.str_inv p2) fun u2 zz=>?_; subst zz
        have hd2:=dict_sub xt2.sub hd
        refine ⟨mkS k,_,strKind_is _ _ _ _,(dictOf_to hd2).mapOf,?_⟩
        have hv:=vlookupS k hk (RelDs.mono xt2.sub hr)
        cases q:x.lookup k with
        | none =>
          rw [hv.2 q]
          rw [q] at K3
          exact K3.toks xt2.st .null
        | some d =>
          refine Xeaa (hv.1 d q) fun v e r=>?_
          rw [e]
          rw [q] at K3
          exact K3.toks xt2.st r
  | _=>exact absurd rfl K1.nb

theorem ev_attr {o:Expr} {e:E} {x:Str} {j:Nat} {pos:Pos} {mN:Nat→Option Str} (ok:COK C G NM) (rk:ROK C NM mN) (hb:baseOK o=true) (hj:attrN[j]?=some x) (h1:EvOK C G H n sp o e) :
    EvOK C G H n sp (.Attribute o x pos) (.attr e j):=fun A X lc ρ ow ol σ s hs ha t Q E K=>by
  rw [arm_eval_Attribute,base_eq hb]
  refine wpAny_bind ((h1 A X lc ρ ow ol σ s hs ha t).here K fun ov s₁ v σ₁ lc₁ _ xt1 p1 K1=>wpAny_bind (wpAny_standAt ?_))
  cases v with
  | rd =>
    obtain ⟨r,hr⟩:=rd_store xt1.st p1
    refine Xeeeaaaaa (rd_inst xt1.st p1 hr) fun p es' m e1 zz1 e2 e3 I=>?_; subst zz1
    have K1:Cont _ _ _ _ _ _ _ _ (attrV .rd j σ₁) Q E:=K1
    simp only [attrV,hr] at K1
    refine Xeaa (Cont.od K1) fun d e4 K2=>?_
    refine Xeaa (any_some rk.hd) fun cd hcd hdict=>?_
    have hnone:=rk.at_ j x hj
    have key:∀ v,getL x es'=some (some v)→handedIn v=true→relD C X ol lc₁ s₁.heap d v→wpAny C.M A (do let r ← holding [Value.ref p.1] (getAttr (.ref p.1) x true); letTemporaryGo o (.ref p.1) r; pure r) Q E s₁:=fun v hg hh hr=>by
      refine wpAny_bind (wpAny_holding (get_value (v:=v) (ok.at xt1.st.g) I rk.ga ?_ hh ?_))
      · unfold findObj
        rw [hcd,Option.bind_some,hnone,Option.bind_some]
        simp only [Option.bind_some,PySem.W.ownOf,hdict,if_true]
        rw [lookIn_dict,hg]
        rfl
      · exact wpAny_bind (wpAny_letTemporaryGo (wpAny_pure (K2.toks xt1.st hr)))
    refine Xeeeeeeeeeeeea (e2) fun h0 k0 t0 h1 k1 t1 h2 k2 t2 h3 k3 t3 zz1=>?_; subst zz1
    rcases rdGet_inv e4 with ⟨q,zz⟩ | ⟨q,zz⟩ | ⟨q,zz⟩ | ⟨q,zz⟩ <;> subst q <;> subst zz <;> cases hj
    · exact key _ rfl rfl (.str _ _)
    · exact key _ rfl rfl (.int _ _)
    · exact key _ rfl rfl (.int _ _)
    · exact key _ rfl rfl (.int _ _)
  | _=>exact absurd rfl K1.nb
end
section
variable {C:Cst} {G:Nat→D} {NM:Names} {H:Hd} {n:Nat} {sp:Sp} {A:Around} {X:Act} {lc:Loc} {ρ:Ro} {ow:Nat→Option Addr} {ol:List Addr} {σ:Store} {s:Shared}

theorem IntsAre.cons_inv {xs:List Value} {n:Int} {l:List Int} (h:IntsAre xs (n :: l)):∃ u xs',xs=.int n u :: xs'∧IntsAre xs' l:=by
  cases h with
  | cons n t r=>exact ⟨_,_,rfl,r⟩

theorem plain_upd {h:Heap} {a:Addr} {xs:Array Value} {m:Nat} (ho:h.get? a=some { cls:=.type "list",data:=.seq xs m }) (g:Array Value→Array Value):(h.update a (Obj.mapSeq g)).PlainList a (g xs) :=
  ⟨_,get?_update_seq ho g⟩
theorem mu_tab {q:Addr × Addr} (h:q ∈ C.tabs):q.2 ∈ lc.mu C:=List.mem_append_left _ (List.mem_map.mpr ⟨q,h,rfl⟩)
theorem mu_box1 {p:Addr × Addr} (h:lc.box=some p):p.1 ∈ lc.mu C:=List.mem_append_right _ (List.mem_append_left _ (by rw [h]; simp))
theorem mu_box2 {p:Addr × Addr} (h:lc.box=some p):p.2 ∈ lc.mu C:=List.mem_append_right _ (List.mem_append_left _ (by rw [h]; simp))
theorem mu_rd {p:Addr × Addr} (h:lc.rd=some p):p.2 ∈ lc.mu C:=List.mem_append_right _ (List.mem_append_right _ (by rw [h]; simp))

theorem GRel.turn {a:Addr} {σ':Store} {s':Shared} (g:GRel C lc σ s) (ha:a ∈ lc.mu C) (hs:Heap.SameBut a s.heap s'.heap) (ht:∀ q ∈ C.tabs,q.2=a→∃ ps,s'.heap.get? q.2=some (tabObj ps)∧TriplesOk ps.toList∧CodesOk C s'.heap q.1 ps)
    (hb:BoxRel lc.box σ'.box s'.heap) (hr:RdRel C.PR lc.rd σ'.rd s'.heap) (h1:s'.gens=s.gens:=by rfl) (h2:s'.drawn=s.drawn:=by rfl) (h3:s'.os=s.os:=by rfl):GRel C lc σ' s' :=
  ⟨fun b o e=>hs.extBut b o (fun q=>by rw [q] at e; exact nsm (g.new a ha) e) (g.base b o e),
   fun q hq=>by
     by_cases z:q.2=a
     · exact ht q hq z
     · refine Xeaaa (g.tab q hq) fun ps e t c=>?_
       refine ⟨ps,hs.extBut _ _ z e,t,c.keep fun b o ho e=>hs.extBut _ _ (fun w=>?_) e⟩
       refine Xeaa (Loc.mu_code g a ha) fun o' e' n=>?_
       rw [w] at e; cases ssm e' e; exact n ho.1,
   hb,hr,g.new,h1.trans g.gens,h2.trans g.drawn,h3.trans g.os⟩
theorem tab_ne' {a:Addr} {o:Obj} {h':Heap} (g:GRel C lc σ s) (ho:s.heap.get? a=some o) (hd:∀ ps,o ≠ tabObj ps):∀ q ∈ C.tabs,q.2=a→∃ ps,h'.get? q.2=some (tabObj ps)∧TriplesOk ps.toList∧CodesOk C h' q.1 ps:=fun q hq e=>by
  refine Xeaa (g.tab q hq) fun ps e' _=>?_
  rw [e,ho] at e'
  cases e'
  exact absurd rfl (hd ps)

theorem rd_apart {a:Addr} {o:Obj} {h':Heap} (g:GRel C lc σ s) (ho:s.heap.get? a=some o) (hc:o.cls=.type "list") (hs:Heap.SameBut a s.heap h'):RdRel C.PR lc.rd σ.rd h':=by
  have hb:=g.rd
  cases q:lc.rd <;> cases q2:σ.rd <;> rw [q,q2] at hb <;> first | exact hb.elim | trivial | skip
  refine Xaeeaa (hb) fun e1 es n e2 r=>?_
  refine ⟨hs.extBut _ _ (fun z=>?_) e1,es,n,hs.extBut _ _ (fun z=>?_) e2,r⟩
  · rw [z] at e1; cases ssm ho e1; simp at hc
  · rw [z] at e2; cases ssm ho e2; simp at hc

theorem set_bxl {p:Addr × Addr} {z:List Int × Int} {l':List Int} {xs':List Value} {h':Heap} {tk:Nat} (t:St C X lc ρ ow ol σ s) (hp:lc.box=some p) (hz:σ.box=some z) (hs:Heap.SameBut p.2 s.heap h') (hl:h'.PlainList p.2 xs'.toArray) (hi:IntsAre xs' l') :
    Ext C X lc lc ρ ow ol { σ with box:=some (l',z.2) } s { s with heap:=h',toks:=tk }:=by
  have hb:=t.g.box
  rw [hp,hz] at hb
  obtain ⟨ne,tt,xs,h1,⟨k,h2⟩,h3⟩:=hb
  refine Ext.of t (t.g.turn (mu_box2 hp) hs (tab_ne' t.g h2 fun ps e=>?_) ?_ (show RdRel C.PR lc.rd σ.rd h' from rd_apart t.g h2 rfl hs)) (Keep.same hs (mu_box2 hp)) (.refl ..)
  · have:=congrArg Obj.cls e; simp [tabObj] at this
  · rw [hp]
    exact ⟨ne,tt,xs',h1.extBut hs.extBut ne,hl,hi⟩

theorem ev_popBox {o:Expr} {e:E} {k:Nat} {p₀ ap pos:Pos} (hb:baseOK o=true) (hl:ap.endLine=pos.line) (h1:EvOK C G H n sp o e) :
    EvOK C G H n sp (.Call (.Attribute o "pop" ap) [.Constant (.int 0) k p₀] [] pos) (.popBox e):=fun A X lc ρ ow ol σ s hs ha t Q E K=>by
  refine wpAny_Call_method (T:="list") (id:="list.pop") (base_eq hb _ _ _) rfl (by simp [hl]) PySem.F.plainAttrs_list PySem.F.slot_list_pop PySem.F.type_list_pop ?_
  refine (h1 A X lc ρ ow ol σ s hs ha t).here K fun ov s₁ v σ₁ lc₁ _ xt1 p1 K1=>?_
  cases v with
  | bxl =>
    refine Xeaa (p1) fun p e1 zz1=>?_; subst zz1
    have hb:=xt1.st.g.box
    rw [e1] at hb
    cases q:σ₁.box with
    | none=>rw [q] at hb; exact hb.elim
    | some z =>
      rw [q] at hb
      obtain ⟨ne,tt,xs,g1,⟨m,g2⟩,g3⟩:=hb
      have K1:Cont _ _ _ _ _ _ _ _ (popV .bxl σ₁) Q E:=K1
      obtain ⟨l,i⟩:=z
      cases l with
      | nil=>exact absurd (by simp [popV,q]) K1.nb
      | cons nn l =>
        simp only [popV,q] at K1
        split at K1
        · rename_i hlen
          refine Xeeaa (IntsAre.cons_inv g3) fun u xs' zz1 hi=>?_; subst zz1
          refine ⟨⟨_,g2,rfl⟩,fun a e=>by cases e; exact ⟨_,g2,rfl⟩,?_⟩
          refine Calls.callWith_builtin (first:=[_]) rfl (Calls.evalArgs_plain (Calls.spliced_cons (wpAny_Constant_int (k:=k) (pos:=p₀) ?_)))
          show wpAny _ _ (pure []) _ _ _
          refine wpAny_pure ?_
          have hxl:xs'.length=l.length:=hi.length
          refine call_meets PySem.F.slot_list_pop ⟨_,g2,rfl⟩ PySem.F.entry_list_pop (PySem.F.args_list_pop_2 _ _) (MeetsSeq.list_pop_at p.2 (Value.int nn u :: xs').toArray m 0 _ 0 (.int nn u) (by decide) (by simp [seqIndex?]) (by simp) (by simp only [List.size_toArray,List.length_cons,hxl]; have:=lim_size hlen; unfold LIM at hlen; rw [sizeLine_eq]; lia)) ?_
          refine ⟨g2,?_⟩
          have hs':=Heap.SameBut.update s₁.heap p.2 (Obj.mapSeq fun xs=>xs.eraseIdxIfInBounds 0)
          refine K1.ok _ _ lc₁ _ _ rfl (set_bxl (tk:=s₁.toks + 1) xt1.st e1 q hs' (xs':=xs') ?_ hi) (RelD.int _ _)
          have:=plain_upd g2 (fun xs=>xs.eraseIdxIfInBounds 0)
          rwa [show (Value.int nn u :: xs').toArray.eraseIdxIfInBounds 0=xs'.toArray by simp [Array.eraseIdxIfInBounds]] at this
        · exact absurd rfl K1.nb
  | _=>exact absurd rfl K1.nb

theorem ev_boxLen {o:Expr} {e:E} {p pos:Pos} (ok:COK C G NM) (hn:notStar o=true) (hk:sp.scope.names.lookup ("len":Str)=some .globalImplicit) (h1:EvOK C G H n sp o e) :
    EvOK C G H n sp (.Call (.Name "len" p) [o] [] pos) (.boxLen e):=fun A X lc ρ ow ol σ s hs ha t Q E K=>by
  refine wpAny_Call_NameR (wpAny_Name (load_built ok hs hk t (ok.bi .len).1 (ok.bi .len).2 ?_) (by decide))
  refine callWith_bi (b:=.len) (by simp [hn]) ?_
  rw [starEach_cons hn]
  refine Calls.spliced_cons ((h1 A X lc ρ ow ol σ s hs ha t).here K fun ov s₁ v σ₁ lc₁ _ xt1 p1 K1=>?_)
  show wpAny _ _ (pure []) _ _ _
  refine wpAny_pure ?_
  cases v with
  | bxl =>
    refine Xeaa (p1) fun p e1 zz1=>?_; subst zz1
    have hb:=xt1.st.g.box
    rw [e1] at hb
    cases q:σ₁.box with
    | none=>rw [q] at hb; exact hb.elim
    | some z =>
      rw [q] at hb
      refine Xaeeaaa (hb) fun ne tt xs g1 g2 g3=>?_
      have K1:Cont _ _ _ _ _ _ _ _ (boxLenV .bxl σ₁) Q E:=K1
      simp only [boxLenV,q] at K1
      split at K1
      · rename_i hlen
        have hxl:xs.length=z.1.length:=g3.length
        refine PyProof.Rows.len_list g2.isList (by rw [List.size_toArray,hxl]; unfold LIM at hlen; lia) ?_
        refine K1.ok _ _ lc₁ _ _ rfl (Ext.toks xt1.st) ?_
        rw [List.size_toArray,hxl]
        exact RelD.int _ _
      · exact absurd rfl K1.nb
  | _=>exact absurd rfl K1.nb

theorem own_slot {k:Nat} {x:Str} {l:List D} {Q:Value→Shared→Prop} {E:Value→Shared→Prop} (hx:okName x=true) (hs:SpX X sp) (hk:sp.sl[k]?=some (some (x,.local))) (t:St C X lc ρ ow ol σ s) (hv:ρ.get k=some (.own l))
    (h:∀ a xs,ow k=some a→s.heap.PlainList a xs.toArray→relDs C X ol lc s.heap l xs→Q (.ref a) s):wpAny C.M A (loadName X.env x) Q E s :=
  load_slot hx hs hk t hv fun val _ r=>by
    refine Xeeaaaa (r) fun a xs zz1 e hl hr=>?_; subst zz1
    exact h a xs e hl hr
theorem ownOf_some {ρ:Ro} {k:Nat} {l:List D} (h:ownOf (ρ.get k)=some l):ρ.get k=some (.own l):=by
  exact ownOf_inv h

theorem ev_oLen {k:Nat} {x:Str} {p p' pos:Pos} (ok:COK C G NM) (hx:okName x=true) (hk:sp.sl[k]?=some (some (x,.local))) (hg:sp.scope.names.lookup ("len":Str)=some .globalImplicit) :
    EvOK C G H n sp (.Call (.Name "len" p) [.Name x p'] [] pos) (.oLen k):=fun A X lc ρ ow ol σ s hs ha t Q E K=>by
  refine wpAny_Call_NameR (wpAny_Name (load_built ok hs hg t (ok.bi .len).1 (ok.bi .len).2 ?_) (by decide))
  refine callWith_bi (b:=.len) rfl ?_
  refine Xeaa (Cont.od K) fun d e K1=>?_
  refine Xeaa (Option.bind_eq_some_iff.mp e) fun l q e2=>?_; clear e
  have q:=ownOf_inv q
  · refine Xaa (iteS e2) fun hl zz=>?_; clear e2; subst zz
    refine Calls.spliced_cons (wpAny_Name (own_slot hx hs hk t q fun a xs _ g1 g2=>?_) (by simp only [okName,Bool.and_eq_true,Bool.not_eq_true'] at hx; exact hx.1))
    show wpAny _ _ (pure []) _ _ _
    refine wpAny_pure ?_
    have:=g2.length
    refine PyProof.Rows.len_list g1.isList (by rw [List.size_toArray]; unfold LIM at hl; lia) ?_
    rw [List.size_toArray,← this]
    exact K1.toks t (.int _ _)

theorem ev_oIdx {k:Nat} {x:Str} {i:Expr} {e:E} {p pos:Pos} (hn:notSlice i=true) (hx:okName x=true) (hk:sp.sl[k]?=some (some (x,.local))) (h1:EvOK C G H n sp i e) :
    EvOK C G H n sp (.Subscript (.Name x p) i pos) (.oIdx k e):=fun A X lc ρ ow ol σ s hs ha t Q E K=>by
  have hd:(x == ("__debug__":Str))=false:=by simp only [okName,Bool.and_eq_true,Bool.not_eq_true'] at hx; exact hx.1
  have K:Cont _ _ _ _ _ _ _ _ ((ofOpt σ (ownOf (ρ.get k))).bind fun l σ=>(toD (evE G H e ρ σ)).bind fun y σ₁=>ofOpt σ₁ ((oIdxV l y).map V.d)) Q E:=K
  cases q:ownOf (ρ.get k) with
  | none=>exact absurd (by rw [q]; rfl) K.nb
  | some l =>
    rw [q] at K
    have K:Cont _ _ _ _ _ _ _ _ ((toD (evE G H e ρ σ)).bind fun y σ₁=>ofOpt σ₁ ((oIdxV l y).map V.d)) Q E:=K
    have q':=ownOf_some q
    refine Subscript_ (wpAny_Name (own_slot hx hs hk t q' fun a xs ea g1 g2=>?_) hd)
    refine (h1 A X lc ρ ow ol σ s hs ha t).toD.here K fun vi s₁ y σ₁ lc₁ _ xt1 p1 K1=>?_
    refine Xeaa (Cont.od K1) fun d e2 K2=>?_
    have hm:a ∉ lc.mu C:=(t.f.ownNew a (t.f.ownIn k a ea)).1
    have g1':=PlainList.keep xt1.keep hm g1
    have g2':=xt1.relDs g2
    refine Xeaa (Option.bind_eq_some_iff.mp e2) fun i h e2=>?_
    cases D.asInt_inv h
    refine Xea (RelD.int_inv p1) fun u zz1=>?_; subst zz1
    refine Xaa (iteO e2) fun hi e2=>?_
    · refine Xaaa (idx_some e2) fun h0 h2 h3=>?_
      · refine Xeaa (g2'.get h2) fun v hv rv=>?_
        exact tail_ok g1'.isList.typeIs list_getitem_lookup (subscripted_plain hn _ _) (wpAny_getItem_list g1'.isList h0 (by lia) (by simpa using hv) (K2.here xt1.st rv))

theorem oNe_go {k:Nat} {x:Str} {p pos:Pos} {Q:Value→Shared→Prop} {E:Value→Shared→Prop} {d:D} (hx:okName x=true) (hk:sp.sl[k]?=some (some (x,.local))) (hs:SpX X sp) (ha:AOK C A X n) (t:St C X lc ρ ow ol σ s)
    (e:oNeV (ρ.get k)=some d) (K:KD C X lc ρ ow ol σ s Q d) :
    wpAny C.M A (eval (.Name x p) X.env) (fun a s₁=>wpAny C.M A (eval (.List [] pos) X.env) (fun b s₂=>wpAny C.M A (compareOp .NotEq a b) Q E s₂) E s₁) E s:=by
  have hd:(x == ("__debug__":Str))=false:=by simp only [okName,Bool.and_eq_true,Bool.not_eq_true'] at hx; exact hx.1
  refine Xeaa (Option.bind_eq_some_iff.mp e) fun l q e2=>?_; clear e
  have q:=ownOf_inv q
  · refine Xaa (iteS e2) fun hl zz=>?_; clear e2; subst zz
    refine wpAny_Name (own_slot hx hs hk t q fun a xs ea g1 g2=>?_) hd
    refine wpAny_List_spliced ?_
    show wpAny _ _ (pure []) _ _ _
    refine wpAny_pure ⟨Nat.zero_le _,?_⟩
    have kp:∀ b o,s.heap.get? b=some o→(s.heap.push { cls:=.type "list",data:=.seq ([]:List Value).toArray }).get? b=some o:=fun b o e=>Heap.get?_push_of_some _ e
    have g2':=relDs.grown t kp g2
    refine Xea (reads_all (reads_of 15) g2' hl) fun as ra=>?_
    refine Xea (g1) fun m g1=>?_
    have la:(PyData.list (toPs l)).canLay0=true∧(PyData.list (toPs l)).depth ≤ 16:=okE_lay 16 (.lst l) hl
    refine ne_dataH (da:=.list (toPs l)) (db:=.list []) (reads_list_at (kp _ _ g1) rfl rfl (by simpa using ra)) (reads_list_at (Heap.get?_push_size _ rfl) rfl rfl ReadsAll.nil) ?_ (by decide) ha.eqRoom ?_
    · unfold SeqAt.shaped; rw [la.1,Bool.true_and]; exact decide_eq_true (Nat.le_trans la.2 (by decide))
    · have:(!PyData.eqv (.list (toPs l)) (.list []))=!l.isEmpty:=by cases l <;> rfl
      rw [this]
      exact K.at t (tk:=s.toks) kp (.bool _)
theorem ev_oNe {k:Nat} {x:Str} {p p' pos:Pos} (hx:okName x=true) (hk:sp.sl[k]?=some (some (x,.local))):EvOK C G H n sp (.Compare (.Name x p) [.NotEq] [.List [] p'] pos) (.oNe k):=fun A X lc ρ ow ol σ s hs ha t Q E K=>by
  refine Xeaa (Cont.od K) fun d e K1=>?_
  exact wpAny_Compare1 (oNe_go hx hk hs ha t e K1) rfl
theorem tr_oNe {k:Nat} {x:Str} {p p' pos:Pos} (hx:okName x=true) (hk:sp.sl[k]?=some (some (x,.local))):TrOK C G H n sp (.Compare (.Name x p) [.NotEq] [.List [] p'] pos) (.oNe k):=fun A X lc ρ ow ol σ s hs ha t Q E K=>by
  have K:Cont _ _ _ _ _ _ _ _ (toB (ofOpt σ ((oNeV (ρ.get k)).map V.d))) Q E:=K
  cases q:oNeV (ρ.get k) with
  | none=>exact absurd (by rw [q]; rfl) K.nb
  | some d =>
    rw [q] at K
    refine wpAny_isTrue_Compare1 (oNe_go hx hk hs ha t q fun lc' s' v xt r=>?_) rfl
    cases d with
    | bool b =>
      obtain rfl:=r.bool_inv
      exact wpAny_truthy_bool (K.ok b _ _ _ b rfl xt rfl)
    | _=>exact absurd rfl K.nb
end
section
variable {C:Cst} {X:Act} {lc lc':Loc} {ρ:Ro} {ow:Nat→Option Addr} {ol:List Addr} {σ σ':Store} {s:Shared} {h':Heap}

noncomputable abbrev Act.hid (X:Act) (wr:List Addr):Act:={ X with hx:=wr++X.hx }

noncomputable def OutObj (o:Obj):Prop:=(∀ c d,o ≠ instObj c d)∧(∀ v,o.data ≠ .cell v)∧¬ isFrameObj o∧¬ CodeObj o

theorem FRel.move {M hx':List Addr} (f:FRel C X lc ρ ow ol s.heap) (k:Keep M s.heap h') (hZ:∀ a ∈ M,a ∈ X.Z C lc ol∨s.heap.get? a=none) (hloc:X.env.locals ∉ M)
    (hcell:∀ a ∈ M,∀ o,s.heap.get? a=some o→∀ v,o.data ≠ .cell v) (hol:∀ a ∈ ol,a ∉ M) (gr:Grow C lc lc' s.heap)
    (hx1:∀ a ∈ hx',a ∈ X.hx∨s.heap.get? a=none) (hx2:∀ a ∈ hx',∃ o,h'.get? a=some o) (hx3:∀ a ∈ hx',C.h₀.get? a=none):FRel C { X with hx:=hx' } lc' ρ ow ol h':=by
  have hs:Sub (fz s.heap (X.Z C lc ol)) (fz h' (({ X with hx:=hx' }:Act).Z C lc' ol)):=by
    refine Sub.step k hZ fun a ha=>?_
    unfold Act.Z at ha ⊢
    rcases List.mem_append.mp ha with ha | ha
    · exact .inl (List.mem_append_left _ ha)
    · rcases List.mem_append.mp ha with ha | ha
      · rcases gr.mu a ha with q | q
        · exact .inl (Act.mut_Z q)
        · exact .inr q
      · rcases hx1 a ha with q | q
        · exact .inl (List.mem_append_right _ (List.mem_append_right _ q))
        · exact .inr q
  have not':∀ a o,s.heap.get? a=some o→a ∉ lc.mu C→a ∉ lc'.mu C:=fun a o e n q=>by
    rcases gr.mu a q with q | q
    · exact n q
    · exact nsm q e
  have hcellM:∀ env m x kd v,Held env m s.heap x kd v→Held env m h' x kd v:=by
    intro env m x kd v H
    have cell:(∃ c o,env.cells.lookup x=some c∧s.heap.get? c=some o∧o.data=.cell (some v))→∃ c o,env.cells.lookup x=some c∧h'.get? c=some o∧o.data=.cell (some v):=by
      rintro ⟨c,o,e1,e2,e3⟩
      have hc:c ∉ M:=fun q=>hcell c q o e2 _ e3
      refine Xeaa (k c o hc e2) fun o' e' sm=>?_
      exact ⟨c,o',e1,e',sm.data.1 ▸ e3⟩
    cases kd with
    | «local»=>exact H
    | cell=>exact cell H
    | free=>exact cell H
    | _=>exact H.elim
  refine { kind:=f.kind,globals:=f.globals,builtins:=f.builtins,frame:=f.frame,slots:=f.slots,cells:=f.cells,cellInj:=f.cellInj,slInj:=f.slInj,ownLoc:=f.ownLoc,ownIn:=f.ownIn,ownInj:=f.ownInj,locNew:=f.locNew,ns:=?_,cellAt:=?_,ownNew:=?_,locMut:=?_,hxOld:=hx2,hxNew:=hx3 }
  · refine Xeaa (f.ns) fun m hn hr=>?_
    refine ⟨m,Ns.keep k hloc hn,fun i v x kd e e1=>?_⟩
    refine Xeaa (hr i v x kd e e1) fun val e2 e3=>?_
    refine ⟨val,hcellM _ _ _ _ _ e2,e3.keep hs gr fun a xs e hx=>?_⟩
    exact PlainList.keep k (hol a (f.ownIn i a e)) hx
  · intro q hq
    obtain ⟨h1,⟨o,v,ho,hd⟩,h2⟩:=f.cellAt q hq
    have hc:q.2 ∉ M:=fun z=>hcell _ z o ho _ hd
    refine Xeaa (k _ o hc ho) fun o' ho' sm=>?_
    exact ⟨h1,⟨o',v,ho',sm.data.1 ▸ hd⟩,h2⟩
  · intro a ha
    refine Xaaaaea (f.ownNew a ha) fun n1 n2 n3 n4 xs hx=>?_
    refine Xea (id hx) fun _ ho=>?_
    exact ⟨not' a _ ho n1,n2,n3,fun q=>(hx1 a q).elim n4 fun z=>(nsm z ho),xs,PlainList.keep k (hol a ha) hx⟩
  · obtain ⟨m,⟨o,es,ep,ho,_⟩,_⟩:=f.ns
    exact not' _ o ho f.locMut

theorem GRel.apart {M:List Addr} {s':Shared} (g:GRel C lc σ s) (k:∀ b o,b ∉ M→s.heap.get? b=some o→s'.heap.get? b=some o) (hM:∀ a ∈ M,a ∉ lc.mu C∧C.h₀.get? a=none∧∀ o,s.heap.get? a=some o→(∀ c d,o ≠ instObj c d)∧¬ CodeObj o)
    (h1:s'.gens=s.gens:=by rfl) (h2:s'.drawn=s.drawn:=by rfl) (h3:s'.os=s.os:=by rfl):GRel C lc σ s':=by
  have km:∀ b o,b ∈ lc.mu C→s.heap.get? b=some o→s'.heap.get? b=some o:=fun b o hb e=>k b o (fun q=>(hM b q).1 hb) e
  refine ⟨fun b o e=>k b o (fun q=>nsm ((hM b q).2.1) e) (g.base b o e),fun q hq=>?_,?_,?_,g.new,h1.trans g.gens,h2.trans g.drawn,h3.trans g.os⟩
  · refine Xeaaa (g.tab q hq) fun ps e t c=>?_
    exact ⟨ps,km _ _ (mu_tab hq) e,t,c.keep fun b o ho e=>k b o (fun q=>((hM b q).2.2 o e).2 ho) e⟩
  · have hb:=g.box
    cases q:lc.box <;> cases q2:σ.box <;> rw [q,q2] at hb <;> first | exact hb.elim | trivial | skip
    obtain ⟨ne,t,xs,⟨n1,e1⟩,⟨n2,e2⟩,hi⟩:=hb
    exact ⟨ne,t,xs,⟨n1,km _ _ (mu_box1 q) e1⟩,⟨n2,km _ _ (mu_box2 q) e2⟩,hi⟩
  · have hb:=g.rd
    cases q:lc.rd <;> cases q2:σ.rd <;> rw [q,q2] at hb <;> first | exact hb.elim | trivial | skip
    refine Xaeeaa (hb) fun e1 es n e2 r=>?_
    refine ⟨k _ _ (fun z=>?_) e1,es,n,km _ _ (mu_rd q) e2,r⟩
    exact ((hM _ z).2.2 _ e1).1 _ _ rfl

theorem FrOK.apart {frs:List Env} {M:List Addr} {h:Heap} (f:FrOK C frs h) (k:∀ b o,b ∉ M→h.get? b=some o→h'.get? b=some o) (hM:∀ a ∈ M,∀ o,h.get? a=some o→OutObj o):FrOK C frs h':=fun e he=>by
  refine Xaeeaaaaa (f e he) fun h1 L o h2 h3 h4 h5 h6=>?_
  exact ⟨h1,L,o,h2,k L o (fun q=>(hM L q o h3).2.2.1 h4) h3,h4,h5,h6⟩

theorem St.hide {wr:List Addr} {tk:Nat} (t:St C X lc ρ ow ol σ s) (k:∀ b o,s.heap.get? b=some o→h'.get? b=some o) (hw:∀ b ∈ wr,s.heap.get? b=none∧∃ o,h'.get? b=some o) :
    St C (X.hid wr) lc ρ ow ol σ { s with heap:=h',toks:=tk }:=by
  have h0:∀ b ∈ wr,C.h₀.get? b=none:=fun b hb=>by
    cases q:C.h₀.get? b with
    | none=>rfl
    | some o=>have:=t.g.base b o q; exact nsm ((hw b hb).1) this
  refine ⟨t.g.keepAll k,t.f.move (M:=[]) (.all k) (fun _ q=>by cases q) (by simp) (fun _ q=>by cases q) (fun _ _=>by simp) (.refl ..) (fun a ha=>?_) (fun a ha=>?_) (fun a ha=>?_),t.fr.apart (M:=[]) (fun b o _=>k b o) fun _ q=>by cases q⟩
  · rcases List.mem_append.mp ha with q | q
    · exact .inr (hw a q).1
    · exact .inl q
  · rcases List.mem_append.mp ha with q | q
    · exact (hw a q).2
    · refine Xea (t.f.hxOld a q) fun o ho=>?_
      exact ⟨o,k _ _ ho⟩
  · rcases List.mem_append.mp ha with q | q
    · exact h0 a q
    · exact t.f.hxNew a q

theorem St.turn {wr:List Addr} {tk:Nat} (t:St C (X.hid wr) lc ρ ow ol σ s) (k:∀ b o,b ∉ wr→s.heap.get? b=some o→h'.get? b=some o) (hw:∀ b ∈ wr,b ∉ lc.mu C∧b ∉ ol∧b ≠ X.env.locals∧(∀ o,s.heap.get? b=some o→OutObj o)∧∃ o,h'.get? b=some o) :
    St C (X.hid wr) lc ρ ow ol σ { s with heap:=h',toks:=tk }:=by
  refine ⟨t.g.apart k fun a ha=>⟨(hw a ha).1,t.f.hxNew a (List.mem_append_left _ ha),fun o e=>⟨((hw a ha).2.2.2.1 o e).1,((hw a ha).2.2.2.1 o e).2.2.2⟩⟩,
    t.f.move (M:=wr) (hx':=wr++X.hx) (.of k) (fun a ha=>.inl (List.mem_append_right _ (List.mem_append_right _ (List.mem_append_left _ ha)))) (fun q=>(hw _ q).2.2.1 rfl) (fun a ha o ho=>((hw a ha).2.2.2.1 o ho).2.1)
      (fun a ha q=>(hw a q).2.1 ha) (.refl ..) (fun a ha=>.inl ha) (fun a ha=>?_) t.f.hxNew,t.fr.apart k fun a ha=>(hw a ha).2.2.2.1⟩
  by_cases q:a ∈ wr
  · exact (hw a q).2.2.2.2
  · refine Xea (t.f.hxOld a ha) fun o ho=>?_
    exact ⟨o,k _ _ q ho⟩

theorem St.turnOut {wr:List Addr} {tk:Nat} (t:St C (X.hid wr) lc ρ ow ol σ s) (k:∀ b o,b ∉ wr→s.heap.get? b=some o→h'.get? b=some o) (hw:∀ b ∈ wr,b ∉ lc.mu C∧b ∉ ol∧b ≠ X.env.locals∧b ∉ X.hx∧(∀ o,s.heap.get? b=some o→OutObj o)) :
    St C X lc ρ ow ol σ { s with heap:=h',toks:=tk }:=by
  refine ⟨t.g.apart k fun a ha=>⟨(hw a ha).1,t.f.hxNew a (List.mem_append_left _ ha),fun o e=>⟨((hw a ha).2.2.2.2 o e).1,((hw a ha).2.2.2.2 o e).2.2.2⟩⟩,
    t.f.move (M:=wr) (hx':=X.hx) (.of k) (fun a ha=>.inl (List.mem_append_right _ (List.mem_append_right _ (List.mem_append_left _ ha)))) (fun q=>(hw _ q).2.2.1 rfl) (fun a ha o ho=>((hw a ha).2.2.2.2 o ho).2.1)
      (fun a ha q=>(hw a q).2.1 ha) (.refl ..) (fun a ha=>.inl (List.mem_append_right _ ha)) (fun a ha=>?_) (fun a ha=>t.f.hxNew a (List.mem_append_right _ ha)),t.fr.apart k fun a ha=>(hw a ha).2.2.2.2⟩
  refine Xea (t.f.hxOld a (List.mem_append_right _ ha)) fun o ho=>?_
  exact ⟨o,k _ _ (fun q=>(hw a q).2.2.2.1 ha) ho⟩

theorem St.unhide {wr:List Addr} (t:St C (X.hid wr) lc ρ ow ol σ s):St C X lc ρ ow ol σ s:=by
  have hs:Sub (fz s.heap ((X.hid wr).Z C lc ol)) (fz s.heap (X.Z C lc ol)):=Sub.of_fz fun a ha=>by
    unfold Act.Z at ha ⊢
    rcases List.mem_append.mp ha with ha | ha
    · exact List.mem_append_left _ ha
    · rcases List.mem_append.mp ha with ha | ha
      · exact List.mem_append_right _ (List.mem_append_left _ ha)
      · exact List.mem_append_right _ (List.mem_append_right _ (List.mem_append_right _ ha))
  have f:=t.f
  refine ⟨t.g,{ kind:=f.kind,globals:=f.globals,builtins:=f.builtins,frame:=f.frame,slots:=f.slots,cells:=f.cells,cellInj:=f.cellInj,slInj:=f.slInj,ownLoc:=f.ownLoc,ownIn:=f.ownIn,ownInj:=f.ownInj,locNew:=f.locNew,ns:=?_,cellAt:=f.cellAt,ownNew:=fun a ha=>let ⟨n1,n2,n3,n4,r⟩:=f.ownNew a ha; ⟨n1,n2,n3,fun q=>n4 (List.mem_append_right _ q),r⟩,locMut:=f.locMut,hxOld:=fun a ha=>f.hxOld a (List.mem_append_right _ ha),hxNew:=fun a ha=>f.hxNew a (List.mem_append_right _ ha) },t.fr⟩
  refine Xeaa (f.ns) fun m hn hr=>?_
  refine ⟨m,hn,fun i v x kd e e1=>?_⟩
  refine Xeaa (hr i v x kd e e1) fun val e2 e3=>?_
  exact ⟨val,e2,e3.keep hs (.refl ..) fun _ _ _ x=>x⟩

theorem relD.unhide {wr:List Addr} {h:Heap} {d:D} {v:Value} (r:relD C (X.hid wr) ol lc h d v):relD C X ol lc h d v:=RelD.mono (Sub.of_fz fun a ha=>by
    unfold Act.Z at ha ⊢
    rcases List.mem_append.mp ha with ha | ha
    · exact List.mem_append_left _ ha
    · rcases List.mem_append.mp ha with ha | ha
      · exact List.mem_append_right _ (List.mem_append_left _ ha)
      · exact List.mem_append_right _ (List.mem_append_right _ (List.mem_append_right _ ha))) r
end

noncomputable def RelI (C:Cst) (tg:Expr) (Z:List Addr) (h:Heap) (x:D) (v:Value):Prop :=
  RelD C.prog C.w (fz h Z) x v∨((∃ es kk p,tg=.Tuple es kk p)∧∃ T l vs,x=.tup l∧v=.ref T∧h.IsTuple T vs.toArray∧RelDs C.prog C.w (fz h Z) l vs)

structure Itr (C:Cst) (A:Around) (tg:Expr) (it:Value) (wr:List Addr) (I:List D→List Addr→Heap→Prop):Prop where
  frame:∀ xs Z Z' h h',I xs Z h→(∀ b ∈ wr,∀ o,h.get? b=some o→h'.get? b=some o)→Sub (fz h Z) (fz h' Z')→I xs Z' h'
  objs:∀ xs Z h,I xs Z h→∀ b ∈ wr,∃ o,h.get? b=some o∧OutObj o
  self:∀ xs Z (s:Shared) (Q:Value→Shared→Prop) (E:Value→Shared→Prop),I xs Z s.heap→Q it s→wpAny C.M A (pyIter it) Q E s
  item:∀ x xs Z (s:Shared) (Q:Value→Shared→Prop) (E:Value→Shared→Prop),I (x :: xs) Z s.heap→(∀ b ∈ wr,b ∈ Z) →
    (∀ v h' tk,RelI C tg Z h' x v→I xs Z h'→(∀ b o,b ∉ wr→s.heap.get? b=some o→h'.get? b=some o)→Q v { s with heap:=h',toks:=tk }) →
    wpAny C.M A (pyNext it) (fun r s₁=>∃ v,r=some v∧wpAny C.M A (letOwnedTupleGo tg it v) (fun _=>Q v) E s₁) E s
  done:∀ Z (s:Shared) (Q:Shared→Prop) (E:Value→Shared→Prop),I [] Z s.heap →
    (∀ h' tk,(∀ b o,b ∉ wr→s.heap.get? b=some o→h'.get? b=some o)→Q { s with heap:=h',toks:=tk })→wpAny C.M A (pyNext it) (fun r s₁=>r=none∧Q s₁) E s
noncomputable def owned (n:String):Bool:=["enumerate","zip","dict_itemiterator","dict_reverseitemiterator","odict_iterator","itertools.zip_longest","itertools.pairwise"].contains n

theorem let_go_plain {M:Model} {A:Around} {E:Value→Shared→Prop} {s:Shared} {tg:Expr} {r:Addr} {v:Value} {o:Obj} {n:String} {Q:Unit→Shared→Prop} (ho:s.heap.get? r=some o) (hc:o.cls=.type n) (hn:owned n=false) (h:Q () s) :
    wpAny M A (letOwnedTupleGo tg (.ref r) v) Q E s:=by
  unfold letOwnedTupleGo
  have go:∀ a,wpAny M A (do
      let o ← load r
      match o.cls,o.data with
      | .type n,.fields vs =>
        if ["enumerate","zip","dict_itemiterator","dict_reverseitemiterator","odict_iterator","itertools.zip_longest","itertools.pairwise"].contains n && vs[0]? == some (rawInt a) then
          rule "for.unpacks-the-owned-tuple"
          updateField r 0 .none
      | _,_=>pure ():Sem Unit) Q E s:=fun a=>by
    refine wpAny_bind (wpAny_load ho ?_)
    obtain ⟨cls,d,data,sl⟩:=o
    dsimp only at hc
    subst hc
    dsimp only
    cases data with
    | fields vs =>
      dsimp only
      rw [if_neg (fun z=>by rw [Bool.and_eq_true] at z; have:=z.1; unfold owned at hn; rw [hn] at this; cases this)]
      exact wpAny_pure h
    | _=>exact wpAny_pure h
  have z:wpAny M A (match (Value.ref r,v) with
    | (.ref r,.ref a)=>(do
      let o ← load r
      match o.cls,o.data with
      | .type n,.fields vs =>
        if ["enumerate","zip","dict_itemiterator","dict_reverseitemiterator","odict_iterator","itertools.zip_longest","itertools.pairwise"].contains n && vs[0]? == some (rawInt a) then
          rule "for.unpacks-the-owned-tuple"
          updateField r 0 .none
      | _,_=>pure ():Sem Unit)
    | _=>pure ()) Q E s:=by
    cases v <;> first | exact go _ | exact wpAny_pure h
  cases tg <;> first | exact wpAny_pure h | exact z

noncomputable def ItObj (o:Obj):Prop:=∃ n,o.cls=.type n∧owned n=false∧(n ≠ "frame"∧n ≠ "code")∧∀ v,o.data ≠ .cell v
theorem ItObj.out {o:Obj} (h:ItObj o):OutObj o:=by
  refine Xeaaaa (h) fun n h1 _ h2 h3=>?_
  refine ⟨fun c d e=>(by rw [e] at h1; cases h1),h3,fun e=>?_,fun e=>?_⟩
  · unfold isFrameObj at e
    rw [h1] at e
    injection e with e
    exact h2.1 e
  · have e:=e.1
    rw [h1] at e
    injection e with e
    exact h2.2 e

theorem itr_walk {C:Cst} {A:Around} {tg:Expr} {I:Addr} {fp:List Addr} {n:Nat} {P:Nat→Value→Prop} {St:Nat→Heap→Prop} (W:Walks C.prog C.w A I fp [I] n P St) (ho:∀ i h,St i h→∃ o,h.get? I=some o∧ItObj o)
    (xs:List D) (hn:xs.length=n) (src:List Addr→Heap→Prop) (hs:∀ Z Z' h h',src Z h→Sub (fz h Z) (fz h' Z')→src Z' h')
    (hf:∀ Z h,src Z h→∀ b ∈ fp,b=I∨∃ o,(fz h Z).get? b=some o∧DataObj o) (hP:∀ i v x Z h,src Z h→P i v→xs[i]?=some x→RelD C.prog C.w (fz h Z) x v) :
    Itr C A tg (.ref I) [I] fun ys Z h=>∃ i,i ≤ n∧St i h∧src Z h∧ys=xs.drop i where
  frame:=fun ys Z Z' h h' hI hw hsub=>by
    refine Xeaaaa (hI) fun i hi st sr zz1=>?_; subst zz1
    refine ⟨i,hi,W.frame i h h' st fun b hb o e=>?_,hs _ _ _ _ sr hsub,rfl⟩
    rcases hf Z h sr b hb with rfl | ⟨o',e',dd⟩
    · exact hw _ (.head _) o e
    · have:=hsub b o' e' dd
      have e2:=Sub.to e'
      rw [e] at e2
      cases e2
      exact Sub.to this
  objs:=fun ys Z h hI b hb=>by
    refine Xeaaaa (hI) fun i hi st sr zz1=>?_; subst zz1
    rw [List.mem_singleton.mp hb]
    refine Xeaa (ho i h st) fun o e x=>?_
    exact ⟨o,e,x.out⟩
  self:=fun ys Z s Q E hI hQ=>by
    refine Xeaaaa (hI) fun i hi st sr zz1=>?_; subst zz1
    exact W.self i s Q E st hQ
  item:=fun x ys Z s Q E hI hw hQ=>by
    refine Xeaaaa (hI) fun i hi st sr e=>?_
    have hx:xs[i]?=some x:=by
      have:=congrArg (·[0]?) e
      simp at this
      exact this.symm
    have hlt:i < n:=by rw [← hn]; exact (List.getElem?_eq_some_iff.mp hx).1
    have hys:ys=xs.drop (i + 1):=by
      have:=congrArg (List.drop 1) e
      rw [List.drop_drop] at this
      simpa [Nat.add_comm] using this
    refine W.item i s _ E hlt st fun v h' tk hp st' k=>⟨v,rfl,?_⟩
    refine Xeaeaaa (ho (i + 1) h' st') fun o e1 nm e2 e3 _=>?_
    have hsub:Sub (fz s.heap Z) (fz h' Z):=Sub.step (M:=[I]) (.of k) (fun a ha=>.inl (hw a ha)) fun a ha=>.inl ha
    refine let_go_plain (s:={ s with heap:=h',toks:=tk }) e1 e2 e3 (hQ v h' tk (.inl (RelD.mono hsub (hP i v x Z _ sr hp hx))) ⟨i + 1,hlt,st',hs _ _ _ _ sr hsub,hys⟩ k)
  done:=fun Z s Q E hI hQ=>by
    refine Xeaaaa (hI) fun i hi st sr e=>?_
    have hin:i=n:=by
      have:xs.length ≤ i:=by
        have:=congrArg List.length e
        simp at this
        lia
      lia
    subst hin
    exact W.done s _ E st fun h' tk k=>⟨rfl,hQ h' tk k⟩

section
variable {C:Cst} {A:Around} {tg:Expr}
theorem itr_list (hh:A.handled=none) {I ax:Addr} (hne:ax ≠ I) {l:List D} {vs:List Value}:Itr C A tg (.ref I) [I] fun ys Z h=>∃ i,i ≤ vs.length∧(h.IsListIter I ax i∧h.IsList ax vs.toArray)∧((fz h Z).IsList ax vs.toArray∧RelDs C.prog C.w (fz h Z) l vs)∧ys=l.drop i:=by
  by_cases hl:l.length=vs.length
  · have:=itr_walk (C:=C) (tg:=tg) (Walks.list (prog:=C.prog) (w:=C.w) hh I ax hne vs.toArray) (fun i h st=>by
      obtain ⟨⟨o,e,hc,hd⟩,_⟩:=st
      exact ⟨o,e,_,hc,by decide,by decide,fun v=>by rw [hd]; simp⟩) l (by simpa using hl) (fun Z h=>(fz h Z).IsList ax vs.toArray∧RelDs C.prog C.w (fz h Z) l vs)
      (fun Z Z' h h' sr hs=>⟨list_sub hs sr.1,RelDs.mono hs sr.2⟩) (fun Z h sr b hb=>by
        rcases List.mem_cons.mp hb with rfl | hb
        · exact .inl rfl
        · rw [List.mem_singleton.mp hb]
          obtain ⟨⟨o,e,hc,_⟩,_⟩:=sr
          exact .inr ⟨o,e,.inr (.inl hc)⟩) (fun i v x Z h sr hp hx=>by
        refine Xeaa (sr.2.get' (i:=i) (v:=v) (by simpa using hp)) fun d e r=>?_
        cases ssm hx e; exact r)
    simpa using this
  · have no:∀ ys Z h,¬ ∃ i,i ≤ vs.length∧(h.IsListIter I ax i∧h.IsList ax vs.toArray)∧((fz h Z).IsList ax vs.toArray∧RelDs C.prog C.w (fz h Z) l vs)∧ys=l.drop i:=fun ys Z h ⟨_,_,_,⟨_,r⟩,_⟩=>hl r.length
    exact ⟨fun ys Z _ h _ x=>absurd x (no ys Z h),fun ys Z h x=>absurd x (no ys Z h),fun ys Z s Q E h=>absurd h (no _ Z _),fun x ys Z s Q E h=>absurd h (no _ Z _),fun Z s Q E h=>absurd h (no _ Z _)⟩

theorem itr_tuple (hh:A.handled=none) {I ax:Addr} (hne:ax ≠ I) {l:List D} {vs:List Value}:Itr C A tg (.ref I) [I] fun ys Z h=>∃ i,i ≤ vs.length∧(h.IsTupleIter I ax i∧h.IsTuple ax vs.toArray)∧((fz h Z).IsTuple ax vs.toArray∧RelDs C.prog C.w (fz h Z) l vs)∧ys=l.drop i:=by
  by_cases hl:l.length=vs.length
  · have:=itr_walk (C:=C) (tg:=tg) (Walks.tuple (prog:=C.prog) (w:=C.w) hh I ax hne vs.toArray) (fun i h st=>by
      obtain ⟨⟨o,e,hc,hd⟩,_⟩:=st
      exact ⟨o,e,_,hc,by decide,by decide,fun v=>by rw [hd]; simp⟩) l (by simpa using hl) (fun Z h=>(fz h Z).IsTuple ax vs.toArray∧RelDs C.prog C.w (fz h Z) l vs)
      (fun Z Z' h h' sr hs=>⟨tuple_sub hs sr.1,RelDs.mono hs sr.2⟩) (fun Z h sr b hb=>by
        rcases List.mem_cons.mp hb with rfl | hb
        · exact .inl rfl
        · rw [List.mem_singleton.mp hb]
          obtain ⟨⟨o,e,hc,_⟩,_⟩:=sr
          exact .inr ⟨o,e,.inl hc⟩) (fun i v x Z h sr hp hx=>by
        refine Xeaa (sr.2.get' (i:=i) (v:=v) (by simpa using hp)) fun d e r=>?_
        cases ssm hx e; exact r)
    simpa using this
  · have no:∀ ys Z h,¬ ∃ i,i ≤ vs.length∧(h.IsTupleIter I ax i∧h.IsTuple ax vs.toArray)∧((fz h Z).IsTuple ax vs.toArray∧RelDs C.prog C.w (fz h Z) l vs)∧ys=l.drop i:=fun ys Z h ⟨_,_,_,⟨_,r⟩,_⟩=>hl r.length
    exact ⟨fun ys Z _ h _ x=>absurd x (no ys Z h),fun ys Z h x=>absurd x (no ys Z h),fun ys Z s Q E h=>absurd h (no _ Z _),fun x ys Z s Q E h=>absurd h (no _ Z _),fun Z s Q E h=>absurd h (no _ Z _)⟩

theorem itr_str {I:Addr} {x:List Nat} {St:Nat→Heap→Prop} (W:Walks C.prog C.w A I [I] [I] x.length (SignAt (mkS x)) St) (ho:∀ i h,St i h→∃ o,h.get? I=some o∧ItObj o) :
    Itr C A tg (.ref I) [I] fun ys _ h=>∃ i,i ≤ x.length∧St i h∧True∧ys=(x.map fun c=>D.str [c]).drop i :=
  itr_walk W ho _ (by simp) (fun _ _=>True) (fun _ _ _ _ _ _=>trivial) (fun _ _ _ b hb=>.inl (List.mem_singleton.mp hb)) (fun i v d Z h _ hp hx=>by
    refine Xeeaa (hp) fun c u h1 zz1=>?_; subst zz1
    rw [List.getElem?_map] at hx
    have:x[i]?=some c:=by simpa using h1
    rw [this] at hx; cases hx
    exact .str _ _)

theorem itr_range (hh:A.handled=none) {I:Addr} {n:Nat}:Itr C A tg (.ref I) [I] fun ys _ h=>∃ i,i ≤ n∧IsRangeIter h I (0 + (i:Nat) * 1) ((n:Int) - (i:Nat)) 1∧True∧ys=((List.range n).map fun (i:Nat)=>D.int (i:Int)).drop i :=
  itr_walk (Walks.range (prog:=C.prog) (w:=C.w) hh I 0 1 n) (fun i h st=>⟨_,st,_,rfl,by decide,by decide,fun v=>by simp⟩) _ (by simp) (fun _ _=>True) (fun _ _ _ _ _ _=>trivial) (fun _ _ _ b hb=>.inl (List.mem_singleton.mp hb)) (fun i v d Z h _ hp hx=>by
    obtain ⟨u,rfl⟩:=hp
    rw [List.getElem?_map] at hx
    cases q:(List.range n)[i]? with
    | none=>rw [q] at hx; cases hx
    | some j =>
      rw [q] at hx; cases hx
      have:j=i:=by
        have:=List.getElem?_eq_some_iff.mp q
        obtain ⟨_,e⟩:=this
        simpa using e.symm
      subst this
      have e:(0:Int) + (j:Int) * 1=(j:Int):=by lia
      rw [e]
      exact .int _ _)

theorem itr_dict (hh:A.handled=none) {I d:Addr} (hne:d ≠ I) {l:List (Int × D)} {kvs:List (Int × Value)} {ep:Nat} (hk:kvs.map (·.1)=l.map (·.1)) :
    Itr C A tg (.ref I) [I] fun ys Z h=>∃ i,i ≤ kvs.length∧(h.IsKeyIter I d i kvs.length ep∧h.DictAt (PySem.intKind C.prog C.w) d kvs ep)∧(∃ o,(fz h Z).get? d=some o∧DataObj o)∧ys=(l.map fun p=>D.int p.1).drop i :=
  itr_walk (Walks.dictKeys (prog:=C.prog) (w:=C.w) (knd:=PySem.intKind C.prog C.w) hh I d hne kvs ep) (fun i h st=>by
      obtain ⟨⟨o,e,hc,hd⟩,_⟩:=st
      exact ⟨o,e,_,hc,by decide,by decide,fun v=>by rw [hd]; simp⟩) _ (by have:=congrArg List.length hk; simpa using this.symm) (fun Z h=>∃ o,(fz h Z).get? d=some o∧DataObj o)
    (fun Z Z' h h' sr hs=>let ⟨o,e,dd⟩:=sr; ⟨o,hs _ _ e dd,dd⟩) (fun Z h sr b hb=>by
      rcases List.mem_cons.mp hb with rfl | hb
      · exact .inl rfl
      · rw [List.mem_singleton.mp hb]; exact .inr sr) (fun i v x Z h sr hp hx=>by
      refine Xeeaa (hp) fun k y h1 h2=>?_
      obtain ⟨u,rfl⟩:=Value.isInt_shape h2
      have h5:=congrArg (fun z=>z[i]?) hk
      simp only [List.getElem?_map,h1] at h5
      rw [List.getElem?_map] at hx
      cases q:l[i]? with
      | none=>rw [q] at hx; cases hx
      | some p =>
        rw [q] at hx h5
        cases hx
        simp at h5
        rw [h5]
        exact .int _ _)
end
theorem hide_sub {C:Cst} {X:Act} {lc:Loc} {ol wr:List Addr} {h h':Heap} (k:∀ b o,h.get? b=some o→h'.get? b=some o) (hw:∀ b ∈ wr,h.get? b=none):Sub (fz h (X.Z C lc ol)) (fz h' ((X.hid wr).Z C lc ol)):=by
  refine Sub.step (M:=[]) (.all k) (fun _ q=>by cases q) fun a ha=>?_
  unfold Act.Z at ha ⊢
  rcases List.mem_append.mp ha with ha | ha
  · exact .inl (List.mem_append_left _ ha)
  · rcases List.mem_append.mp ha with ha | ha
    · exact .inl (List.mem_append_right _ (List.mem_append_left _ ha))
    · rcases List.mem_append.mp ha with ha | ha
      · exact .inr (hw a ha)
      · exact .inl (List.mem_append_right _ (List.mem_append_right _ ha))

section
variable (C:Cst) (G:Nat→D) (H:Hd) (n:Nat) (sp:Sp)
structure ICont (A:Around) (tg:Expr) (X:Act) (lc:Loc) (ρ:Ro) (ow:Nat→Option Addr) (ol:List Addr) (s:Shared) (r:R (List D)) (Q:Value→Shared→Prop) (E:Value→Shared→Prop):Prop where
  nb:r ≠ .bad
  ok:∀ xs σ₁ lc₁ s₁ it wr I,r=.ok xs σ₁→Ext C X lc lc₁ ρ ow ol σ₁ s s₁→Itr C A tg it wr I→I xs ((X.hid wr).Z C lc₁ ol) s₁.heap→St C (X.hid wr) lc₁ ρ ow ol σ₁ s₁→(∀ b ∈ wr,s.heap.get? b=none)→(∀ b ∈ wr,b ∉ lc₁.mu C)→Q it s₁
  ex:∀ k t σ' lc' s' e,r=.exc k t σ'→Ext C X lc lc' ρ ow ol σ' s s'→ExcAt C s.heap s'.heap e k→E (.ref e) s'
noncomputable def ItOK (tg a:Expr) (i:It):Prop:=∀ (A:Around) (X:Act) (lc:Loc) (ρ:Ro) (ow:Nat→Option Addr) (ol:List Addr) (σ:Store) (s:Shared) (Q:Value→Shared→Prop) (E:Value→Shared→Prop),SpX X sp→AOK C A X n→St C X lc ρ ow ol σ s →
  ICont C A tg X lc ρ ow ol s (evIt G H i ρ σ) Q E→wpAny C.M A (eval a X.env) (fun xv s₁=>wpAny C.M A (pyIter xv) Q E s₁) E s
end

section
variable {C:Cst} {G:Nat→D} {NM:Names} {H:Hd} {n:Nat} {sp:Sp} {A:Around} {X:Act} {lc:Loc} {ρ:Ro} {ow:Nat→Option Addr} {ol:List Addr} {σ:Store} {s:Shared} {Q:Value→Shared→Prop} {E:Value→Shared→Prop}

theorem iter_push {o:Obj} {tk:Nat} (t:St C X lc ρ ow ol σ s):St C (X.hid [s.heap.objs.size]) lc ρ ow ol σ { s with heap:=s.heap.push o,toks:=tk }∨o.isFreed=true:=by
  by_cases ho:o.isFreed=true
  · exact .inr ho
  · exact .inl (t.hide (fun _ _ e=>Heap.get?_push_of_some _ e) fun b hb=>by
      rw [List.mem_singleton.mp hb]
      exact ⟨none_at_end _,o,Heap.get?_push_size _ (by simpa using ho)⟩)

theorem it_go {x:D} {v:Value} {xs:List D} {lc₀:Loc} {s₀:Shared} (tg:Expr) (hh:A.handled=none) (xt:Ext C X lc₀ lc ρ ow ol σ s₀ s) (r:relD C X ol lc s.heap x v) (hx:itemsD x=some xs)
    (K:∀ s₁ it wr I,Ext C X lc₀ lc ρ ow ol σ s₀ s₁→Itr C A tg it wr I→I xs ((X.hid wr).Z C lc ol) s₁.heap→St C (X.hid wr) lc ρ ow ol σ s₁→(∀ b ∈ wr,s.heap.get? b=none)→Q it s₁):wpAny C.M A (pyIter v) Q E s:=by
  have t:=xt.st
  have go:∀ (o:Obj) (I:List D→List Addr→Heap→Prop),o.isFreed=false→Itr C A tg (.ref s.heap.objs.size) [s.heap.objs.size] I→I xs ((X.hid [s.heap.objs.size]).Z C lc ol) (s.heap.push o)→Q (.ref s.heap.objs.size) { s with heap:=s.heap.push o }:=fun o I ho hI hi=>by
    have kp:∀ b o',s.heap.get? b=some o'→(s.heap.push o).get? b=some o':=fun _ _ e=>Heap.get?_push_of_some _ e
    refine K _ _ _ I (xt.trans (Ext.all (s':={ s with heap:=s.heap.push o }) t kp)) hI hi ?_ fun b hb=>by rw [List.mem_singleton.mp hb]; exact none_at_end _
    rcases iter_push (o:=o) (tk:=s.toks) t with h | h
    · exact h
    · rw [ho] at h; cases h
  have sb:∀ o,Sub (fz s.heap (X.Z C lc ol)) (fz (s.heap.push o) ((X.hid [s.heap.objs.size]).Z C lc ol)):=fun o=>hide_sub (fun _ _ e=>Heap.get?_push_of_some _ e) fun b hb=>by rw [List.mem_singleton.mp hb]; exact none_at_end _
  cases r with
  | @tup l a vs h1 r1 =>
    cases hx
    have hne:a ≠ s.heap.objs.size:=fun q=>by obtain ⟨o,ho,_⟩:=isTuple_of h1; exact Nat.lt_irrefl _ (q ▸ Heap.lt_size ho)
    exact wpAny_pyIter_tuple (isTuple_of h1) (go _ _ rfl (itr_tuple hh hne) ⟨0,Nat.zero_le _,⟨⟨_,Heap.get?_push_size _ rfl,rfl,rfl⟩,(isTuple_of h1).push _⟩,⟨tuple_sub (sb _) h1,RelDs.mono (sb _) r1⟩,rfl⟩)
  | @lst l a vs h1 r1 =>
    cases hx
    have hne:a ≠ s.heap.objs.size:=fun q=>by obtain ⟨o,ho,_⟩:=isList_of h1; exact Nat.lt_irrefl _ (q ▸ Heap.lt_size ho)
    exact wpAny_pyIter_list (isList_of h1) (go _ _ rfl (itr_list hh hne) ⟨0,Nat.zero_le _,⟨⟨_,Heap.get?_push_size _ rfl,rfl,rfl⟩,(isList_of h1).push _⟩,⟨list_sub (sb _) h1,RelDs.mono (sb _) r1⟩,rfl⟩)
  | str l u =>
    cases hx
    cases hall:(mkS l).cps.all (· < 128)
    · refine wpAny_pyIter_wide hall (go _ _ rfl (itr_str (Walks.strWide hh _ (mkS l) u) fun i h st=>?_) ⟨0,Nat.zero_le _,⟨_,Heap.get?_push_size _ rfl,rfl,rfl⟩,trivial,rfl⟩)
      refine Xeaaa (st) fun o e hc hd=>?_
      exact ⟨o,e,_,hc,by decide,by decide,fun v=>by rw [hd]; simp⟩
    · refine wpAny_pyIter_ascii hall (go _ _ rfl (itr_str (Walks.strAscii hh _ (mkS l) u) fun i h st=>?_) ⟨0,Nat.zero_le _,⟨_,Heap.get?_push_size _ rfl,rfl,rfl⟩,trivial,rfl⟩)
      refine Xeaaa (st) fun o e hc hd=>?_
      exact ⟨o,e,_,hc,by decide,by decide,fun v=>by rw [hd]; simp⟩
  | @dcI l a kvs hn hd hk hr =>
    cases hx
    · refine Xea ((dictOf_to hd).dictAt) fun ep hat=>?_
      have hne:a ≠ s.heap.objs.size:=Nat.ne_of_lt hat.lt_size
      refine wpAny_pyIter_dict hn hat (go _ _ rfl (itr_dict hh hne hk) ⟨0,Nat.zero_le _,⟨⟨_,Heap.get?_push_size _ rfl,rfl,rfl⟩,hat.push _⟩,?_,rfl⟩)
      refine Xeeeaaa (hd) fun o es ep' ho hc _=>?_
      exact ⟨o,sb _ _ _ ho (.inr (.inr hc.1)),.inr (.inr hc.1)⟩
  | _=>cases hx

theorem it_val {tg a:Expr} {e:Mine.E} (h1:EvOK C G H n sp a e):ItOK C G H n sp tg a (.val e):=fun A X lc ρ ow ol σ s Q E hs ha t K=>by
  have K':Cont C X (fun lc' h' d v=>relD C X ol lc' h' d v) lc ρ ow ol s (toD (evE G H e ρ σ)) (fun xv s₁=>wpAny C.M A (pyIter xv) Q E s₁) E:=by
    refine ⟨fun q=>K.nb (by simp only [xIa,q]; rfl),fun d σ₁ lc₁ s₁ v q xt r=>?_,fun k t σ' lc' s' e q=>K.ex k t σ' lc' s' e (by simp only [xIa,q]; rfl)⟩
    cases q2:itemsD d with
    | none=>exact absurd (by simp only [xIa,q]; show ofOpt σ₁ (itemsD d)=_; rw [q2]; rfl) K.nb
    | some xs =>
      refine it_go tg ha.handled xt r q2 fun s₂ it wr I x1 x2 x3 x4 x5=>K.ok xs σ₁ lc₁ s₂ it wr I (by simp only [xIa,q]; show ofOpt σ₁ (itemsD d)=_; rw [q2]; rfl) x1 x2 x3 x4 (fun b hb=>?_) fun b hb q=>?_
      · exact xt.keep.none (fun q=>Loc.mu_old xt.st.g (x5 b hb) (xt.grow.sub b q)) (x5 b hb)
      · exact Loc.mu_old xt.st.g (x5 b hb) q
  exact (h1 A X lc ρ ow ol σ s hs ha t).toD _ _ K'

theorem it_range {tg a:Expr} {e:Mine.E} {p pos:Pos} (ok:COK C G NM) (hn:notStar a=true) (hk:sp.scope.names.lookup ("range":Str)=some .globalImplicit) (h1:EvOK C G H n sp a e) :
    ItOK C G H n sp tg (.Call (.Name "range" p) [a] [] pos) (.range e):=fun A X lc ρ ow ol σ s Q E hs ha t K=>by
  refine wpAny_Call_NameR (wpAny_Name (load_built ok hs hk t ok.rng.1 ok.rng.2 ?_) (by decide))
  refine PySem.callWith_type (noStar_any (by simp [hn])) (evalArgs_ok (by simp [hn]) ?_)
  rw [starEach_cons hn]
  have K':Cont C X (fun lc' h' d v=>relD C X ol lc' h' d v) lc ρ ow ol s (toD (evE G H e ρ σ)) (fun v s₁=>wpAny C.M A (call (.type "range") [v]) (fun xv s₂=>wpAny C.M A (pyIter xv) Q E s₂) E s₁) E:=by
    refine ⟨fun q=>K.nb (by simp only [xIb,q]; rfl),fun d σ₁ lc₁ s₁ v q xt r=>?_,fun k t σ' lc' s' e q=>K.ex k t σ' lc' s' e (by simp only [xIb,q]; rfl)⟩
    have e0:evIt G H (.range e) ρ σ=ofOpt σ₁ (rangeItems d):=by simp only [xIb,q]; rfl
    cases d with
    | int m =>
      refine Xea (r.int_inv) fun u zz1=>?_; subst zz1
      rw [rangeI] at e0
      split at e0
      · rename_i hm
        refine call_range_1 ?_
        have hlim:(LIM:Int)=100000:=rfl
        have hrs:Builtin.Range.rangeSize 0 m 1=((m.toNat:Nat):Int):=by rw [rangeSize_one]; split <;> grind
        refine wpAny_pyIter_range (Heap.get?_push_size _ rfl) (small_one (by decide) (by decide) (by lia) (by lia)) ?_
        have kp:∀ b o',s₁.heap.get? b=some o'→((s₁.heap.push { cls:=.type "range",data:=.fields #[.int 0 s₁.toks,.int m u,.int 1 (s₁.toks + 1)] }).push { cls:=.type "range_iterator",data:=.fields #[rawInt 0,rawInt (Builtin.Range.rangeSize 0 m 1),rawInt 1] }).get? b=some o' :=
          fun _ _ e=>Heap.get?_push_of_some _ (Heap.get?_push_of_some _ e)
        have hfr:∀ b ∈ [(s₁.heap.push { cls:=.type "range",data:=.fields #[.int 0 s₁.toks,.int m u,.int 1 (s₁.toks + 1)] }).objs.size],s₁.heap.get? b=none:=fun b hb=>by
          rw [List.mem_singleton.mp hb]
          exact Heap.get?_none_of_le (by rw [Heap.size_push]; lia)
        refine K.ok _ σ₁ lc₁ _ _ [_] _ e0 (xt.trans (Ext.all xt.st kp)) (itr_range (n:=m.toNat) ha.handled) ⟨0,Nat.zero_le _,?_,trivial,rfl⟩ (xt.st.hide kp fun b hb=>⟨hfr b hb,?_⟩) (fun b hb=>?_) fun b hb q=>?_
        · rw [hrs]
          exact Heap.get?_push_size _ rfl
        · rw [List.mem_singleton.mp hb]
          exact ⟨_,Heap.get?_push_size _ rfl⟩
        · exact xt.keep.none (fun q=>Loc.mu_old xt.st.g (hfr b hb) (xt.grow.sub b q)) (hfr b hb)
        · exact Loc.mu_old xt.st.g (hfr b hb) q
      · exact absurd e0 K.nb
    | _=>exact absurd e0 K.nb
  refine Calls.spliced_cons ((h1 A X lc ρ ow ol σ s hs ha t).toD _ _ ⟨K'.nb,fun d σ₁ lc₁ s₁ v q xt r=>?_,K'.ex⟩)
  show wpAny _ _ (pure []) _ _ _
  exact wpAny_pure (K'.ok d σ₁ lc₁ s₁ v q xt r)
end
theorem nsSet_cls {M:Model} {A:Around} {E:Value→Shared→Prop} {s:Shared} {a:Addr} {m:Str→Option Value} {name:Str} {v:Value} {o:Obj} {Q:Unit→Shared→Prop} (hn:s.heap.Ns a m) (ho:s.heap.get? a=some o)
    (h:∀ h' o',h'.get? a=some o'→o'.cls=o.cls→(∃ es ep,o'.data=.dict es ep)→h'.Ns a (fun x=>if x=name then some v else m x)→Heap.SameBut a s.heap h'→Q () { s with heap:=h',toks:=s.toks + 1 }):wpAny M A (nsSet a name v) Q E s:=by
  refine Xeeeaaaa (hn) fun o₁ es ep ho' hd hk hm=>?_
  rw [ho] at ho'
  cases ho'
  have hany:es.any (·.refKey)=false:=by
    rw [Array.any_eq_false']; intro e he; obtain ⟨n,t,h⟩:=hk e he; simp [DictEntry.refKey,h]
  refine wpAny_bind (wpAny_bind (wpAny_askSetting (wpAny_pure (wpAny_bind (wpAny_mkText (wpAny_bind (wpAny_loadPart ho ?_)))))))
  obtain ⟨c,d,dt,sl⟩:=o
  dsimp only at hd
  subst hd
  dsimp only
  rw [aRefKeyMayBeTheName_at,hany,Bool.and_false,if_neg (by simp)]
  refine wpAny_updatePart (s:={ s with toks:=s.toks + 1 }) ho ?_
  have hf:∀ hs t,(Obj.putName name hs (.str name t) v ⟨c,d,.dict es ep,sl⟩).cls=c∧(∃ es' ep',(Obj.putName name hs (.str name t) v ⟨c,d,.dict es ep,sl⟩).data=.dict es' ep'∧StrKeys es'∧∀ x,nsFind es' x=if x=name then some v else m x):=fun hs t=>by
    rw [Obj.putName_eq]
    unfold Obj.putNameByArray
    dsimp only
    cases hi:es.findIdx? (·.key.isStr name) with
    | some i =>
      refine ⟨rfl,_,_,rfl,hk.modify _ _,fun x=>?_⟩
      rw [← hm]; exact findBy_modify (fun n v=>v.isStr n) Value.isStr_inj es name x v i hi
    | none =>
      refine ⟨rfl,_,_,rfl,hk.push _ _ _ _,fun x=>?_⟩
      rw [← hm]
      exact findBy_push (fun n v=>v.isStr n) es name x _ _ v (fun y=>by
        show (name == y)=decide (y=name)
        by_cases h:y=name
        · subst h; simp
        · have:¬ name=y:=fun e=>h e.symm
          simp [h,this]) hi
  refine Xaeeaaa (hf (PyData.keyHash M.w.params name) s.toks) fun h1 es' ep' h2 h3 h4=>?_
  have fr:∀ oo:Obj,(∃ es ep,oo.data=.dict es ep)→oo.isFreed=false:=fun ⟨_,_,_,_⟩ ⟨_,_,e⟩=>by cases e; rfl
  have e:=Heap.get?_update_self (Obj.putName name (PyData.keyHash M.w.params name) (.str name s.toks) v) ho (fr _ ⟨_,_,h2⟩)
  exact h _ _ e h1 ⟨_,_,h2⟩ ⟨_,es',ep',e,h2,h3,h4⟩ (Heap.SameBut.update ..)
structure HExt (C:Cst) (X:Act) (lc lc':Loc) (ol:List Addr) (s s':Shared):Prop where
  keep:Keep (X.M ol++lc.mu C) s.heap s'.heap
  grow:Grow C lc lc' s.heap
  old:∀ b o,s.heap.get? b=some o→∃ o',s'.heap.get? b=some o'
structure SExt (C:Cst) (X:Act) (lc lc':Loc) (ol ol':List Addr) (s s':Shared):Prop extends HExt C X lc lc' ol s s' where
  olNew:∀ a ∈ ol',a ∈ ol∨s.heap.get? a=none
structure GX (C:Cst) (X:Act) (lc:Loc) (σ:Store) (s:Shared):Prop where
  g:GRel C lc σ s
  fr:FrOK C X.frs s.heap

noncomputable def FlRel (C:Cst) (X:Act) (ol:List Addr) (lc:Loc) (h:Heap):Fl→Flow→Prop
  | .nxt,f=>f=.next
  | .ret d,f=>∃ v,f=.ret v∧relD C X ol lc h d v

structure SCont (C:Cst) (X:Act) (lc:Loc) (ρ:Ro) (ow:Nat→Option Addr) (ol:List Addr) (s:Shared) (r:R (Ro × Fl)) (Q:Flow→Shared→Prop) (E:Value→Shared→Prop):Prop where
  nb:r ≠ .bad
  ok:∀ ρ' fl σ' lc' ow' ol' s' f,r=.ok (ρ',fl) σ'→St C X lc' ρ' ow' ol' σ' s'→SExt C X lc lc' ol ol' s s'→FlRel C X ol' lc' s'.heap fl f→Q f s'
  ex:∀ k t σ' lc' s' e,r=.exc k t σ'→GX C X lc' σ' s'→HExt C X lc lc' ol s s'→ExcAt C s.heap s'.heap e k→E (.ref e) s'

noncomputable def notComp (a:Expr):Bool:=a.ctorIdx < 8 || 10 < a.ctorIdx
theorem swaps_plain {a:Expr} (h:notComp a=true) (tg:Option Expr) (line:Nat) (env:Env):swapsWith a tg line env=pure false:=by
  cases a <;> first | rfl | cases h

theorem get_put (ρ:Ro) (k j:Nat) (v u:V) (h:(ρ.put k v).get j=some u):(j=k∧u=v)∨(j ≠ k∧ρ.get j=some u):=by
  unfold Ro.put Ro.get at *
  rw [List.getElem?_set] at h
  by_cases q:k=j
  · subst q
    rw [if_pos rfl] at h
    split at h
    · left; exact ⟨rfl,by simpa using h.symm⟩
    · cases h
  · rw [if_neg q] at h
    exact .inr ⟨fun e=>q e.symm,h⟩

section
variable {C:Cst} {G:Nat→D} {NM:Names} {H:Hd} {n:Nat} {sp:Sp} {A:Around} {X:Act} {lc lc' lc'':Loc} {ρ ρ':Ro} {ow ow':Nat→Option Addr} {ol ol' ol'':List Addr} {σ σ':Store} {s s' s'':Shared}

theorem SExt.refl (C:Cst) (X:Act) (lc:Loc) (ol:List Addr) (s:Shared):SExt C X lc lc ol ol s s:=⟨⟨.refl _ _,.refl ..,fun _ o e=>⟨o,e⟩⟩,fun _=>.inl⟩
theorem Ext.old (t:St C X lc ρ ow ol σ s) (x:Ext C X lc lc' ρ ow ol σ' s s'):∀ b o,s.heap.get? b=some o→∃ o',s'.heap.get? b=some o':=fun b o e=>by
  by_cases hb:b ∈ lc.mu C
  · refine Xeaa (Loc.mu_obj x.st.g b (x.grow.sub b hb)) fun o ho _=>?_
    exact ⟨o,ho⟩
  · refine Xeaa (x.keep b o hb e) fun o' e' _=>?_
    exact ⟨o',e'⟩
theorem Ext.sext (t:St C X lc ρ ow ol σ s) (x:Ext C X lc lc' ρ ow ol σ' s s'):SExt C X lc lc' ol ol s s':=⟨⟨x.keep.mono fun _ h=>List.mem_append_right _ h,x.grow,x.old t⟩,fun _=>.inl⟩
theorem old_none {h h':Heap} (k:∀ b o,h.get? b=some o→∃ o',h'.get? b=some o') {a:Addr} (e:h'.get? a=none):h.get? a=none:=by
  cases q:h.get? a with
  | none=>rfl
  | some o=>obtain ⟨o',e'⟩:=k a o q; exact nsm e e'

theorem Grow.transN (x:Grow C lc lc' s.heap) (k:∀ b o,s.heap.get? b=some o→∃ o',s'.heap.get? b=some o') (y:Grow C lc' lc'' s'.heap):Grow C lc lc'' s.heap:=by
  refine ⟨?_,?_,fun a ha=>?_,fun a ha=>y.sub a (x.sub a ha)⟩
  · rcases x.box with q | q
    · exact .inl q
    · rcases y.box with r | r
      · exact .inl (q ▸ r)
      · exact .inr (r.trans q)
  · rcases x.rd with q | q
    · exact .inl q
    · rcases y.rd with r | r
      · exact .inl (q ▸ r)
      · exact .inr (r.trans q)
  · rcases y.mu a ha with q | q
    · exact x.mu a q
    · exact .inr (old_none k q)

theorem HExt.trans (x:SExt C X lc lc' ol ol' s s') (y:HExt C X lc' lc'' ol' s' s''):HExt C X lc lc'' ol s s'':=by
  refine ⟨fun b o hb e=>?_,x.grow.transN x.old y.grow,fun b o e=>?_⟩
  · refine Xeaa (x.keep b o hb e) fun o₁ e₁ s₁=>?_
    have hb':b ∉ X.M ol'++lc'.mu C:=fun q=>by
      rcases List.mem_append.mp q with q | q
      · unfold Act.M at q
        rcases List.mem_cons.mp q with rfl | q
        · exact hb (List.mem_append_left _ (List.mem_cons_self))
        · rcases List.mem_append.mp q with q | q
          · exact hb (List.mem_append_left _ (List.mem_cons_of_mem _ (List.mem_append_left _ q)))
          · rcases x.olNew b q with q | q
            · exact hb (List.mem_append_left _ (List.mem_cons_of_mem _ (List.mem_append_right _ q)))
            · exact nsm q e
      · rcases x.grow.mu b q with q | q
        · exact hb (List.mem_append_right _ q)
        · exact nsm q e
    refine Xeaa (y.keep b o₁ hb' e₁) fun o₂ e₂ s₂=>?_
    exact ⟨o₂,e₂,s₁.trans s₂⟩
  · refine Xea (x.old b o e) fun o' e'=>?_
    exact y.old b o' e'
theorem SExt.trans (x:SExt C X lc lc' ol ol' s s') (y:SExt C X lc' lc'' ol' ol'' s' s''):SExt C X lc lc'' ol ol'' s s'' :=
  ⟨HExt.trans x y.toHExt,fun a ha=>(y.olNew a ha).elim (x.olNew a) fun q=>.inr (old_none x.old q)⟩

theorem ExcAt.back' {h h₁ h':Heap} {e:Addr} {k:List Nat} (o:∀ b o,h.get? b=some o→∃ o',h₁.get? b=some o') (x:ExcAt C h₁ h' e k):ExcAt C h h' e k:=by
  refine Xaeeeeeeeaaaaaaaaa (x) fun hn oe vs d od es n t h1 h2 h3 h4 h5 h6 h7 h8 h9=>?_
  refine ⟨old_none o hn,oe,vs,d,od,es,n,t,h1,h2,h3,h4,old_none o h5,h6,h7,h8,?_⟩
  rcases h9 with h9 | ⟨T,oT,ts,fl,a,b,c⟩
  · exact .inl h9
  · exact .inr ⟨T,oT,ts,fl,a,old_none o b,c⟩

theorem SCont.next {r r':R (Ro × Fl)} {Q:Flow→Shared→Prop} {E:Value→Shared→Prop} (x:SExt C X lc lc' ol ol' s s') (e:r=r') (K:SCont C X lc ρ ow ol s r Q E):SCont C X lc' ρ' ow' ol' s' r' Q E:=by
  subst e
  exact ⟨K.nb,fun ρ'' fl σ'' lc'' ow'' ol'' s'' f e t y z=>K.ok ρ'' fl σ'' lc'' ow'' ol'' s'' f e t (x.trans y) z,fun k t σ'' lc'' s'' ee e g y z=>K.ex k t σ'' lc'' s'' ee e g (HExt.trans x y) (z.back' x.old)⟩

theorem SCont.exE {α:Type} {r:R α} {f:α→Store→R (Ro × Fl)} {Q:Flow→Shared→Prop} {E:Value→Shared→Prop} (t₀:St C X lc ρ ow ol σ s) (K:SCont C X lc ρ ow ol s (r.bind f) Q E) :
    ∀ k t σ' lc' s' e,r=.exc k t σ'→Ext C X lc lc' ρ ow ol σ' s s'→ExcAt C s.heap s'.heap e k→E (.ref e) s':=fun k t σ' lc' s' e q xt xa =>
  K.ex k t σ' lc' s' e (by rw [q]; rfl) ⟨xt.st.g,xt.st.fr⟩ (xt.sext t₀).toHExt xa

theorem Den.hereS {α β:Type} {P:Loc→Heap→α→β→Prop} {r:R α} {tm:Sem β} {f:α→Store→R (Ro × Fl)} {Q':Flow→Shared→Prop} {E:Value→Shared→Prop} (d:Den C A X P lc ρ ow ol s r tm) (t:St C X lc ρ ow ol σ s)
    (K:SCont C X lc ρ ow ol s (r.bind f) Q' E) {Q:β→Shared→Prop} (h:∀ x s₁ a σ₁ lc₁,r=.ok a σ₁→Ext C X lc lc₁ ρ ow ol σ₁ s s₁→P lc₁ s₁.heap a x→SCont C X lc₁ ρ ow ol s₁ (f a σ₁) Q' E→Q x s₁):wpAny C.M A tm Q E s :=
  d Q E ⟨fun e=>K.nb (by rw [e]; rfl),fun a σ₁ lc₁ s₁ x e xt p=>h x s₁ a σ₁ lc₁ e xt p (K.next (xt.sext t) (by rw [e]; rfl)),K.exE t⟩

noncomputable def SsOK (C:Cst) (G:Nat→D) (H:Hd) (n N:Nat) (sp:Sp) (as:List Stmt) (ss:Ss):Prop:=∀ (A:Around) (X:Act) (lc:Loc) (ρ:Ro) (ow:Nat→Option Addr) (ol:List Addr) (σ:Store) (s:Shared) (Q:Flow→Shared→Prop) (E:Value→Shared→Prop),SpX X sp→AOK C A X n→St C X lc ρ ow ol σ s →
  SCont C X lc ρ ow ol s (evSs G H N ss ρ σ) Q E→wpAny C.M A (execs as X.env) Q E s
noncomputable def SOK (C:Cst) (G:Nat→D) (H:Hd) (n N:Nat) (sp:Sp) (a:Stmt) (ss:S):Prop:=∀ (A:Around) (X:Act) (lc:Loc) (ρ:Ro) (ow:Nat→Option Addr) (ol:List Addr) (σ:Store) (s:Shared) (Q:Flow→Shared→Prop) (E:Value→Shared→Prop),SpX X sp→AOK C A X n→St C X lc ρ ow ol σ s →
  SCont C X lc ρ ow ol s (evS G H N ss ρ σ) Q E→wpAny C.M A (exec a X.env) Q E s

theorem ss_nil {N:Nat}:SsOK C G H n N sp [] .nil:=fun A X lc ρ ow ol σ s Q E hs ha t K=>by
  rw [arm_execs_nil]
  exact wpAny_pure (K.ok ρ .nxt σ lc ow ol s .next rfl t (.refl ..) rfl)
theorem ss_cons {N:Nat} {a:Stmt} {as:List Stmt} {e:S} {es:Ss} (h1:SOK C G H n N sp a e) (h2:SsOK C G H n N sp as es):SsOK C G H n N sp (a :: as) (.cons e es):=fun A X lc ρ ow ol σ s Q E hs ha t K=>by
  rw [arm_execs_cons]
  refine wpAny_bind (h1 A X lc ρ ow ol σ s _ E hs ha t ⟨fun e=>K.nb (by simp only [xTb,e]; rfl),fun ρ' fl σ' lc' ow' ol' s' f e t' x y=>?_,fun k t σ' lc' s' ee e=>K.ex k t σ' lc' s' ee (by simp only [xTb,e]; rfl)⟩)
  cases fl with
  | nxt =>
    have y:f=.next:=y
    subst y
    exact h2 A X lc' ρ' ow' ol' σ' s' Q E hs ha t' (K.next x (by simp only [xTb,e]; rfl))
  | ret d =>
    refine Xeaa (y) fun v zz1 r=>?_; subst zz1
    exact wpAny_pure (K.ok ρ' (.ret d) σ' lc' ow' ol' s' (.ret v) (by simp only [xTb,e]; rfl) t' x ⟨v,rfl,r⟩)
theorem ss_ghost {N:Nat} {as:List Stmt} {k:Nat} {es:Ss} (h2:SsOK C G H n N sp as es):SsOK C G H n N sp as (.cons (.freeze k) es):=fun A X lc ρ ow ol σ s Q E hs ha t K=>by
  cases q:ownOf (ρ.get k) with
  | none=>exact absurd (by simp only [xTb,xSr,q]; rfl) K.nb
  | some l =>
    have q':=ownOf_some q
    by_cases hk:∃ x kd,X.sl[k]?=some (some (x,kd))
    · refine Xeea (hk) fun x kd hk=>?_
      refine Xeaa (t.f.ns) fun m hn hr=>?_
      refine Xeaa (hr k _ x kd q' hk) fun val hh r=>?_
      refine Xeeaaaa (r) fun a xs zz1 ea hl hrs=>?_; subst zz1
      have ha':=t.f.ownIn k a ea
      refine Xaaaaa (t.f.ownNew a ha') fun n1 n2 n3 n4 n5=>?_
      have hZ:∀ b ∈ X.Z C lc (ol.filter (· ≠ a)),b ∈ X.Z C lc ol:=fun b hb=>by
        unfold Act.Z Act.M at hb ⊢
        simp only [List.mem_append,List.mem_cons,List.mem_filter] at hb ⊢
        rcases hb with (h | h | h) | h
        · exact .inl (.inl h)
        · exact .inl (.inr (.inl h))
        · exact .inl (.inr (.inr h.1))
        · exact .inr h
      have hs':Sub (fz s.heap (X.Z C lc ol)) (fz s.heap (X.Z C lc (ol.filter (· ≠ a)))):=Sub.of_fz hZ
      have haZ:a ∉ X.Z C lc (ol.filter (· ≠ a)):=fun hb=>by
        unfold Act.Z Act.M at hb
        simp only [List.mem_append,List.mem_cons,List.mem_filter,List.mem_map] at hb
        rcases hb with (h | ⟨q,hq,rfl⟩ | h) | h | h
        · exact n3 h
        · obtain ⟨_,⟨o,v,ho,hd⟩,_⟩:=t.f.cellAt q hq
          refine Xea (hl) fun z hz=>?_
          cases ssm hz ho; cases hd
        · exact (by simpa using h.2)
        · exact n1 h
        · exact n4 h
      have t':St C X lc (ρ.put k (.d (.lst l))) (fun j=>if j=k then none else ow j) (ol.filter (· ≠ a)) σ s:=by
        refine ⟨t.g,{ t.f with ns:=⟨m,hn,fun j v y kd' e1 e2=>?_⟩,ownLoc:=fun j l' y kd' e1 e2=>?_,ownIn:=fun j b e=>?_,ownInj:=fun i j b e1 e2=>?_,ownNew:=fun b hb=>t.f.ownNew b (List.mem_filter.mp hb).1 },t.fr⟩
        · rcases get_put _ _ _ _ _ e1 with ⟨rfl,rfl⟩ | ⟨hne,e1⟩
          · cases ssm hk e2
            refine ⟨_,hh,?_⟩
            refine Xea (hl) fun z hz=>?_
            exact RelD.lst ⟨_,fz_get.mpr ⟨hz,haZ⟩,rfl,z,rfl⟩ (RelDs.mono hs' hrs)
          · refine Xeaa (hr j v y kd' e1 e2) fun val g1 g2=>?_
            refine ⟨val,g1,?_⟩
            rw [if_neg hne]
            exact g2.keep hs' (.refl ..) fun _ _ _ h=>h
        · rcases get_put _ _ _ _ _ e1 with ⟨rfl,h⟩ | ⟨hne,e1⟩
          · cases h
          · exact t.f.ownLoc j l' y kd' e1 e2
        · split at e
          · cases e
          · rename_i hne
            refine List.mem_filter.mpr ⟨t.f.ownIn j b e,?_⟩
            simp only [ne_eq,decide_not,Bool.not_eq_eq_eq_not,Bool.not_true,decide_eq_false_iff_not]
            intro hb
            subst hb
            exact hne (t.f.ownInj j k b e ea)
        · split at e1
          · cases e1
          · split at e2
            · cases e2
            · exact t.f.ownInj i j b e1 e2
      exact h2 A X lc _ _ _ σ s Q E hs ha t' (K.next (ol':=ol.filter (· ≠ a)) ⟨⟨.refl _ _,.refl ..,fun _ o e=>⟨o,e⟩⟩,fun b hb=>.inl (List.mem_filter.mp hb).1⟩ (by simp only [xTb,xSr,q]; rfl))
    · have t':St C X lc (ρ.put k (.d (.lst l))) ow ol σ s:=by
        refine Xeaa (t.f.ns) fun m hn hr=>?_
        refine ⟨t.g,{ t.f with ns:=⟨m,hn,fun j v y kd' e1 e2=>?_⟩,ownLoc:=fun j l' y kd' e1 e2=>?_ },t.fr⟩
        · rcases get_put _ _ _ _ _ e1 with ⟨rfl,rfl⟩ | ⟨hne,e1⟩
          · exact absurd ⟨y,kd',e2⟩ hk
          · exact hr j v y kd' e1 e2
        · rcases get_put _ _ _ _ _ e1 with ⟨rfl,h⟩ | ⟨hne,e1⟩
          · cases h
          · exact t.f.ownLoc j l' y kd' e1 e2
      exact h2 A X lc _ _ _ σ s Q E hs ha t' (K.next (.refl ..) (by simp only [xTb,xSr,q]; rfl))

theorem s_ret {N:Nat} {a:Expr} {e:Mine.E} {pos:Pos} (h1:EvOK C G H n sp a e):SOK C G H n N sp (.Return (some a) pos) (.ret e):=fun A X lc ρ ow ol σ s Q E hs ha t K =>
  wpAny_Return_some ((h1 A X lc ρ ow ol σ s hs ha t).toD.hereS t K fun v s₁ d σ₁ lc₁ _ xt p K1=>K1.ok ρ (.ret d) σ₁ lc₁ ow ol s₁ (.ret v) rfl xt.st (.refl ..) ⟨v,rfl,p⟩)
theorem s_expr {N:Nat} {a:Expr} {e:Mine.E} {pos:Pos} (hc:notComp a=true) (h1:EvOK C G H n sp a e):SOK C G H n N sp (.Expr a pos) (.expr e):=fun A X lc ρ ow ol σ s Q E hs ha t K=>by
  refine wpAny_Expr_any ((h1 A X lc ρ ow ol σ s hs ha t).toD.hereS t K fun v s₁ d σ₁ lc₁ _ xt p K1=>K1.ok ρ .nxt σ₁ lc₁ ow ol s₁ .next rfl xt.st (.refl ..) rfl) ?_ (swaps_plain hc _ _ _)
  unfold interactive
  rw [t.f.kind]
  rfl
theorem s_iff {N:Nat} {c:Expr} {e:Mine.E} {as bs:List Stmt} {es fs:Ss} {pos:Pos} (h0:TrOK C G H n sp c e) (h1:SsOK C G H n N sp as es) (h2:SsOK C G H n N sp bs fs):SOK C G H n N sp (.If c as bs pos) (.iff e es fs):=fun A X lc ρ ow ol σ s Q E hs ha t K =>
  wpAny_If ((h0 A X lc ρ ow ol σ s hs ha t).hereS t K fun b s₁ c σ₁ lc₁ _ xt p K1=>by
    subst p
    cases c with
    | true=>exact h1 A X lc₁ ρ ow ol σ₁ s₁ Q E hs ha xt.st K1
    | false=>exact h2 A X lc₁ ρ ow ol σ₁ s₁ Q E hs ha xt.st K1)
end
section
variable {C:Cst} {G:Nat→D} {NM:Names} {H:Hd} {n:Nat} {sp:Sp} {A:Around} {X:Act} {lc lc' lc'':Loc} {ρ ρ':Ro} {ow ow':Nat→Option Addr} {ol ol' ol'':List Addr} {σ σ':Store} {s s' s'':Shared}

noncomputable def setOw (ow:Nat→Option Addr) (k:Nat) (o:Option Addr):Nat→Option Addr:=fun j=>if j=k then o else ow j

theorem locals_obj (t:St C X lc ρ ow ol σ s):∃ o es ep,s.heap.get? X.env.locals=some o∧o.data=.dict es ep:=by
  obtain ⟨m,⟨o,es,ep,h1,h2,_⟩,_⟩:=t.f.ns
  exact ⟨o,es,ep,h1,h2⟩

theorem FRel.stored {k:Nat} {x:Str} {kd:NameKind} {v:V} {val:Value} {o:Option Addr} {h':Heap} {a:Addr} (t:St C X lc ρ ow ol σ s) (hk:X.sl[k]?=some (some (x,kd))) (hkd:∀ l,v=.own l→kd=.local)
    (hv:RelV C (fz s.heap (X.Z C lc ol)) s.heap lc o v val) (ho:∀ b,o=some b→b ∈ ol∧∀ j,ow j=some b→j=k) (ha:a ∈ X.M ol) (hsb:Heap.SameBut a s.heap h') (haol:a ∉ ol) (hamu:a ∉ lc.mu C)
    (hlo:∃ m,h'.Ns X.env.locals m∧Held X.env m h' x kd val∧∀ j y kd' u,j ≠ k→X.sl[j]?=some (some (y,kd'))→(∃ m₀,s.heap.Ns X.env.locals m₀∧Held X.env m₀ s.heap y kd' u)→Held X.env m h' y kd' u)
    (hcl:∀ q ∈ X.cells,∃ o v,h'.get? q.2=some o∧o.data=.cell v):FRel C X lc (ρ.put k v) (setOw ow k o) ol h':=by
  have f:=t.f
  have hZ:a ∈ X.Z C lc ol:=List.mem_append_left _ ha
  have hs:Sub (fz s.heap (X.Z C lc ol)) (fz h' (X.Z C lc ol)):=Sub.step (M:=[a]) (Keep.of fun b o hb e=>hsb.extBut b o (fun q=>hb (by simp [q])) e) (fun b hb=>.inl (by rw [List.mem_singleton.mp hb]; exact hZ)) fun _=>.inl
  have hl:∀ b xs,b ∈ ol→s.heap.PlainList b xs→h'.PlainList b xs:=fun b xs hb x=>x.extBut hsb.extBut fun q=>haol (q ▸ hb)
  refine Xeaaa (hlo) fun m hn hh hr=>?_
  refine { f with ns:=⟨m,hn,fun j u y kd' e1 e2=>?_⟩,cellAt:=fun q hq=>⟨(f.cellAt q hq).1,hcl q hq,(f.cellAt q hq).2.2⟩,ownLoc:=fun j l y kd' e1 e2=>?_,ownIn:=fun j b e=>?_,ownInj:=fun i j b e1 e2=>?_,ownNew:=fun b hb=>?_,hxOld:=fun b hb=>?_ }
  · rcases get_put _ _ _ _ _ e1 with ⟨rfl,rfl⟩ | ⟨hne,e1⟩
    · cases ssm hk e2
      refine ⟨val,hh,?_⟩
      unfold setOw
      rw [if_pos rfl]
      exact hv.keep hs (.refl ..) fun b xs e x=>hl b _ (ho b e).1 x
    · refine Xeaa (f.ns) fun m₀ hn₀ hr₀=>?_
      refine Xeaa (hr₀ j u y kd' e1 e2) fun val' g1 g2=>?_
      refine ⟨val',hr j y kd' val' hne e2 ⟨m₀,hn₀,g1⟩,?_⟩
      unfold setOw
      rw [if_neg hne]
      exact g2.keep hs (.refl ..) fun b xs e x=>hl b _ (f.ownIn j b e) x
  · rcases get_put _ _ _ _ _ e1 with ⟨rfl,h⟩ | ⟨hne,e1⟩
    · cases ssm hk e2
      exact hkd l h.symm
    · exact f.ownLoc j l y kd' e1 e2
  · unfold setOw at e
    split at e
    · exact (ho b e).1
    · exact f.ownIn j b e
  · unfold setOw at e1 e2
    split at e1
    · rename_i hi
      split at e2
      · rename_i hj; rw [hi,hj]
      · rw [hi]; exact ((ho b e1).2 j e2).symm
    · split at e2
      · rename_i hj; rw [hj]; exact (ho b e2).2 i e1
      · exact f.ownInj i j b e1 e2
  · refine Xaaaaea (f.ownNew b hb) fun n1 n2 n3 n4 xs hx=>?_
    exact ⟨n1,n2,n3,n4,xs,hl b xs hb hx⟩
  · obtain ⟨o,ho'⟩:=f.hxOld b hb
    by_cases q:b=a
    · subst q
      unfold Act.M at ha
      rcases List.mem_cons.mp ha with rfl | ha
      · refine Xeeeaa (hn) fun o _ _ e _=>?_
        exact ⟨o,e⟩
      · rcases List.mem_append.mp ha with ha | ha
        · refine Xeaa (List.mem_map.mp ha) fun q hq zz1=>?_; subst zz1
          refine Xeeaa (hcl q hq) fun o v e _=>?_
          exact ⟨o,e⟩
        · exact absurd ha haol
    · exact ⟨o,hsb.extBut _ _ q ho'⟩

theorem sext_at {a:Addr} (hsb:Heap.SameBut a s.heap s'.heap) (ha:a ∈ X.M ol) (hold:∃ o,s'.heap.get? a=some o):SExt C X lc lc ol ol s s' :=
  ⟨⟨.of fun b o hb e=>hsb.extBut b o (fun q=>hb (List.mem_append_left _ (q ▸ ha))) e,.refl ..,fun b o e=>by
    by_cases q:b=a
    · subst q; exact hold
    · exact ⟨o,hsb.extBut _ _ q e⟩⟩,fun _=>.inl⟩

theorem store_ok {k:Nat} {x:Str} {kd:NameKind} {v:V} {val:Value} {o:Option Addr} {Q:Unit→Shared→Prop} {E:Value→Shared→Prop} (hs:SpX X sp) (hk:sp.sl[k]?=some (some (x,kd))) (hkd:kd=.local∨(kd=.cell∧x ∈ sp.cn∧∀ l,v ≠ .own l)) (t:St C X lc ρ ow ol σ s)
    (hv:RelV C (fz s.heap (X.Z C lc ol)) s.heap lc o v val) (ho:∀ b,o=some b→b ∈ ol∧∀ j,ow j=some b→j=k)
    (K:∀ s',St C X lc (ρ.put k v) (setOw ow k o) ol σ s'→SExt C X lc lc ol ol s s'→Q () s'):wpAny C.M A (storeName X.env x val) Q E s:=by
  have hk':X.sl[k]?=some (some (x,kd)):=by rw [hs.sl]; exact hk
  have kdo:=t.f.slots k x kd hk'
  have hp:(X.env.scope.kind == .class || (X.env.scope.kind == .module && X.env.locals != X.env.globals))=false:=by rw [t.f.kind]; rfl
  refine Xeaa (t.f.ns) fun m hn hr=>?_
  refine Xeeeaa (locals_obj t) fun oL esL epL hoL hdL=>?_
  rcases hkd with rfl | ⟨rfl,hcn,hno⟩
  · rw [storeName_local kdo hp]
    have hL:X.env.locals ∈ X.M ol:=List.mem_cons_self
    have hLol:X.env.locals ∉ ol:=fun q=>(t.f.ownNew _ q).2.2.1 rfl
    refine nsSet_cls hn hoL fun h' o' e1 e2 e3 e4 e5=>K { s with heap:=h',toks:=s.toks + 1 } ?_ (sext_at e5 hL ⟨o',e1⟩)
    have hcell:∀ q ∈ X.cells,∃ o v,h'.get? q.2=some o∧o.data=.cell v:=fun q hq=>by
      obtain ⟨_,⟨o,v,g1,g2⟩,_⟩:=t.f.cellAt q hq
      exact ⟨o,v,e5.extBut _ _ (fun z=>by rw [z] at g1; cases ssm hoL g1; rw [hdL] at g2; cases g2) g1,g2⟩
    refine ⟨t.g.apart (M:=[X.env.locals]) (fun b o hb e=>e5.extBut b o (fun q=>hb (by simp [q])) e) fun a ha=>?_,FRel.stored t hk' (fun _ _=>rfl) hv ho hL e5 hLol t.f.locMut ⟨_,e4,by simp [Held],fun j y kd' u hne hj hh=>?_⟩ hcell,?_⟩
    · rw [List.mem_singleton.mp ha]
      exact ⟨t.f.locMut,t.f.locNew,fun o e=>by cases ssm hoL e; exact ⟨fun c d q=>by (rw [q] at hdL; cases hdL),fun q=>by obtain ⟨_,_,q⟩:=q; rw [hdL] at q; cases q⟩⟩
    · refine Xeaa (hh) fun m₀ hn₀ hh=>?_
      have cell:(∃ c o,X.env.cells.lookup y=some c∧s.heap.get? c=some o∧o.data=.cell (some u))→∃ c o,X.env.cells.lookup y=some c∧h'.get? c=some o∧o.data=.cell (some u):=fun ⟨c,o,g1,g2,g3⟩ =>
        ⟨c,o,g1,e5.extBut _ _ (fun z=>by rw [z] at g2; cases ssm hoL g2; rw [hdL] at g3; cases g3) g2,g3⟩
      cases kd' with
      | «local» =>
        have hne':y ≠ x:=fun z=>by subst z; exact hne (t.f.slInj j k y _ _ hj hk')
        show (if y=x then some val else m y)=some u
        rw [if_neg hne']
        have hmm:m₀ y=m y:=by
          refine Xeeeaaaa (hn) fun o1 es1 ep1 a1 b1 c1 d1=>?_
          refine Xeeeaaaa (hn₀) fun o2 es2 ep2 a2 b2 c2 d2=>?_
          cases ssm a1 a2; rw [b1] at b2; cases b2
          rw [← d1,← d2]
        rw [← hmm]; exact hh
      | cell=>exact cell hh
      | free=>exact cell hh
      | _=>exact hh.elim
    · intro e he
      refine Xaeeaaaaa (t.fr e he) fun h1 L o h2 h3 h4 h5 h6=>?_
      by_cases q:L=X.env.locals
      · subst q
        cases ssm hoL h3
        refine Xeea (e3) fun es' ep' hd'=>?_
        exact ⟨h1,_,o',h2,e1,by unfold isFrameObj at h4 ⊢; rw [e2]; exact h4,h5,es',ep',hd'⟩
      · exact ⟨h1,L,o,h2,e5.extBut _ _ q h3,h4,h5,h6⟩
  · have hmem:x ∈ X.cells.map (·.1):=by rw [hs.cn]; exact hcn
    refine Xeaa (List.mem_map.mp hmem) fun q hq zz1=>?_; subst zz1
    obtain ⟨c1,⟨oc,vc,c2,c3⟩,c4⟩:=t.f.cellAt q hq
    have hM:q.2 ∈ X.M ol:=List.mem_cons_of_mem _ (List.mem_append_left _ (List.mem_map.mpr ⟨q,hq,rfl⟩))
    have hol:q.2 ∉ ol:=fun z=>by
      refine Xaaaaeea (t.f.ownNew _ z) fun _ _ _ _ xs nn g=>?_
      cases ssm c2 g; cases c3
    have hmu:q.2 ∉ lc.mu C:=fun z=>by
      refine Xeaaa (Loc.mu_obj t.g _ z) fun o e _ nn=>?_
      cases ssm c2 e; exact nn _ c3
    refine wpAny_storeName_cell t.f.kind kdo c1 ⟨oc,c2,c3⟩ fun h' e1 e5=>?_
    refine Xeaa (e1) fun o' e1 e2=>?_
    refine K { s with heap:=h' } ?_ (sext_at e5 hM ⟨o',e1⟩)
    have hcell:∀ r ∈ X.cells,∃ o v,h'.get? r.2=some o∧o.data=.cell v:=fun r hr=>by
      by_cases z:r.2=q.2
      · rw [z]; exact ⟨o',_,e1,e2⟩
      · obtain ⟨_,⟨o,v,g1,g2⟩,_⟩:=t.f.cellAt r hr
        exact ⟨o,v,e5.extBut _ _ z g1,g2⟩
    have hLq:X.env.locals ≠ q.2:=fun z=>by rw [z] at hoL; cases ssm c2 hoL; rw [hdL] at c3; cases c3
    refine ⟨t.g.apart (M:=[q.2]) (fun b o hb e=>e5.extBut b o (fun z=>hb (by simp [z])) e) fun a ha=>?_,FRel.stored t hk' (fun l z=>absurd z (hno l)) hv ho hM e5 hol hmu ⟨m,hn.sameBut e5 hLq,⟨q.2,o',c1,e1,e2⟩,fun j y kd' u hne hj hh=>?_⟩ hcell,?_⟩
    · rw [List.mem_singleton.mp ha]
      exact ⟨hmu,c4,fun o e=>by cases ssm c2 e; exact ⟨fun c d z=>by (rw [z] at c3; cases c3),fun q=>by obtain ⟨_,_,q⟩:=q; rw [c3] at q; cases q⟩⟩
    · refine Xeaa (hh) fun m₀ hn₀ hh=>?_
      have hmm:m₀=m:=by
        funext y
        refine Xeeeaaaa (hn) fun o1 es1 ep1 a1 b1 _ d1=>?_
        refine Xeeeaaaa (hn₀) fun o2 es2 ep2 a2 b2 _ d2=>?_
        cases ssm a1 a2; rw [b1] at b2; cases b2
        rw [← d1,← d2]
      have cell:(∃ c o,X.env.cells.lookup y=some c∧s.heap.get? c=some o∧o.data=.cell (some u))→∃ c o,X.env.cells.lookup y=some c∧h'.get? c=some o∧o.data=.cell (some u):=fun ⟨c,o,g1,g2,g3⟩=>by
        refine ⟨c,o,g1,e5.extBut _ _ (fun z=>?_) g2,g3⟩
        subst z
        have hny:y ≠ q.1:=fun z=>by subst z; exact hne (t.f.slInj j k _ _ _ hj hk')
        rcases t.f.cells with z | z
        · rw [z] at hq; cases hq
        · rw [z] at g1
          have hmem2:∃ r ∈ X.cells,r.1=y∧r.2=q.2:=by
            have:∀ (l:List (Str × Addr)),l.lookup y=some q.2→∃ r ∈ l,r.1=y∧r.2=q.2:=fun l=>by
              induction l with
              | nil=>intro h; cases h
              | cons p l ih =>
                intro h
                rw [List.lookup_cons] at h
                split at h
                · rename_i hh
                  injection h with h
                  exact ⟨p,.head _,(by simpa using hh:y=p.1).symm,h⟩
                · refine Xeaa (ih h) fun r h1 h2=>?_
                  exact ⟨r,.tail _ h1,h2⟩
            exact this _ g1
          refine Xeaaa (hmem2) fun r h1 h2 h3=>?_
          exact hny (h2 ▸ t.f.cellInj r h1 q hq h3)
      cases kd' with
      | «local»=>exact hmm ▸ hh
      | cell=>exact cell hh
      | free=>exact cell hh
      | _=>exact hh.elim
    · intro e he
      refine Xaeeaaaaa (t.fr e he) fun h1 L o h2 h3 h4 h5 h6=>?_
      refine ⟨h1,L,o,h2,e5.extBut _ _ (fun z=>?_) h3,h4,h5,h6⟩
      subst z
      cases ssm c2 h3
      refine Xeea (h6) fun es' ep' hd'=>?_
      rw [c3] at hd'; cases hd'
end
noncomputable def StS (sp:Sp) (k:Nat) (x:Str):Prop:=∃ kd,sp.sl[k]?=some (some (x,kd))∧(kd=.local∨(kd=.cell∧x ∈ sp.cn))

inductive TgNs (sp:Sp):List Expr→List Nat→Prop
  | nil:TgNs sp [] []
  | cons {x:Str} {p:Pos} {k:Nat} {es:List Expr} {ks:List Nat}:StS sp k x→TgNs sp es ks→TgNs sp (.Name x p :: es) (k :: ks)
inductive TgOK (sp:Sp):Expr→List Nat→Prop
  | name {x:Str} {p:Pos} {k:Nat}:StS sp k x→TgOK sp (.Name x p) [k]
  | tuple {es:List Expr} {kk:Nat} {p:Pos} {a b:Nat} {ks:List Nat}:TgNs sp es (a :: b :: ks)→TgOK sp (.Tuple es kk p) (a :: b :: ks)

section
variable {C:Cst} {G:Nat→D} {NM:Names} {H:Hd} {n:Nat} {sp:Sp} {A:Around} {X:Act} {lc lc' lc'':Loc} {ρ ρ':Ro} {ow ow':Nat→Option Addr} {ol ol' ol'':List Addr} {σ σ':Store} {s s' s'':Shared}

theorem assign_name {x:Str} {p:Pos} {k:Nat} {d:D} {val:Value} {Q:Unit→Shared→Prop} {E:Value→Shared→Prop} (hs:SpX X sp) (hk:StS sp k x) (t:St C X lc ρ ow ol σ s) (r:relD C X ol lc s.heap d val)
    (K:∀ s',St C X lc (ρ.put k (.d d)) (setOw ow k none) ol σ s'→SExt C X lc lc ol ol s s'→Q () s'):wpAny C.M A (assign (.Name x p) X.env val) Q E s:=by
  refine Xeaa (hk) fun kd h1 h2=>?_
  refine wpAny_assign_Name (store_ok hs h1 (h2.imp id fun h=>⟨h.1,h.2,fun _ e=>by cases e⟩) t (v:=.d d) (o:=none) r (fun _ e=>by cases e) K)

theorem relD.sx (t:St C X lc ρ ow ol σ s) (t':St C X lc ρ' ow' ol σ' s') (x:SExt C X lc lc ol ol s s') {d:D} {v:Value} (r:relD C X ol lc s.heap d v):relD C X ol lc s'.heap d v :=
  RelD.mono (Sub.step x.keep (fun a ha=>.inl (by
    rcases List.mem_append.mp ha with h | h
    · exact List.mem_append_left _ h
    · exact List.mem_append_right _ (List.mem_append_left _ h))) fun _=>.inl) r
theorem relDs.sx (t:St C X lc ρ ow ol σ s) (t':St C X lc ρ' ow' ol σ' s') (x:SExt C X lc lc ol ol s s') {d:List D} {v:List Value} (r:relDs C X ol lc s.heap d v):relDs C X ol lc s'.heap d v :=
  RelDs.mono (Sub.step x.keep (fun a ha=>.inl (by
    rcases List.mem_append.mp ha with h | h
    · exact List.mem_append_left _ h
    · exact List.mem_append_right _ (List.mem_append_left _ h))) fun _=>.inl) r

theorem names_len {es:List Expr} {ks:List Nat} {env:Env} (h:TgNs sp es ks):(assignEach es env).length=ks.length∧(assignEach es env).findIdx? (·.1)=none:=by
  induction h with
  | nil=>exact ⟨rfl,rfl⟩
  | cons _ _ ih=>exact ⟨congrArg (· + 1) ih.1,by show List.findIdx? _ ((false,_) :: _)=none; rw [List.findIdx?_cons]; simp [ih.2]⟩

theorem names_ok {es:List Expr} {ks:List Nat} (h:TgNs sp es ks) (hs:SpX X sp) {E:Value→Shared→Prop}:∀ {l:List D} {vs:List Value} {ρ:Ro} {ow:Nat→Option Addr} {s:Shared} {Q:Unit→Shared→Prop},ks.length=l.length→St C X lc ρ ow ol σ s→relDs C X ol lc s.heap l vs →
    (∀ s' ow',St C X lc ((ks.zip l).foldl (fun r p=>r.put p.1 (.d p.2)) ρ) ow' ol σ s'→SExt C X lc lc ol ol s s'→Q () s')→wpAny C.M A (assignInOrder ((assignEach es X.env).map (·.2)) vs) Q E s:=by
  induction h with
  | nil =>
    intro l vs ρ ow s Q hl t r K
    exact wpAny_pure (K s ow t (.refl ..))
  | cons hk _ ih =>
    intro l vs ρ ow s Q hl t r K
    cases r with
    | nil=>simp at hl
    | cons h1 r1 =>
      show wpAny C.M A (do holding _ (assign (.Name _ _) X.env _); assignInOrder _ _) Q E s
      refine wpAny_bind (wpAny_holding (assign_name hs hk t h1 fun s₁ t₁ x₁=>?_))
      exact ih (by simpa using hl) t₁ (relDs.sx t t₁ x₁ r1) fun s₂ ow₂ t₂ x₂=>K s₂ ow₂ t₂ (x₁.trans x₂)

theorem tg_okI {tg:Expr} {ks:List Nat} {d:D} {val:Value} {ρ₁:Ro} {Q:Unit→Shared→Prop} {E:Value→Shared→Prop} (hh:A.handled=none) (h:TgOK sp tg ks) (hs:SpX X sp) (t:St C X lc ρ ow ol σ s) (r:RelI C tg (X.Z C lc ol) s.heap d val) (hb:bindT ρ ks d=some ρ₁)
    (K:∀ s' ow',St C X lc ρ₁ ow' ol σ s'→SExt C X lc lc ol ol s s'→Q () s'):wpAny C.M A (assign tg X.env val) Q E s:=by
  cases h with
  | name hk =>
    have hb:some _=some ρ₁:=hb
    cases hb
    rcases r with r | ⟨⟨_,_,_,q⟩,_⟩
    · exact assign_name hs hk t r fun s' t' x=>K s' _ t' x
    · cases q
  | tuple hn =>
    refine Xeaa (Option.map_eq_some_iff.mp hb) fun ps q zz=>?_; clear hb; subst zz
    refine Xeaa (Option.bind_eq_some_iff.mp q) fun l h e2=>?_; clear q
    cases D.asTup_inv h
    · refine Xaa (iteS e2) fun hl zz=>?_; clear e2; subst zz
      · obtain ⟨a,vs,rfl,h1,r1⟩:∃ a vs,val=.ref a∧s.heap.IsTuple a vs.toArray∧relDs C X ol lc s.heap l vs:=by
          rcases r with r | ⟨_,T,l',vs,q,rfl,h1,r1⟩
          · refine Xeeaaa (r.tup_inv) fun a vs zz1 h1 r1=>?_; subst zz1
            exact ⟨a,vs,rfl,isTuple_of h1,r1⟩
          · cases q; exact ⟨T,vs,rfl,h1,r1⟩
        refine Xaa (names_len (env:=X.env) hn) fun g1 g2=>?_
        rw [arm_assign_Tuple]
        refine wpAny_bind (wpAny_standAt (wpAny_unpack_tuple hh h1 (by rw [g1,List.size_toArray,← r1.length]; exact hl) g2 fun h' e=>?_))
        have kp:∀ b o,s.heap.get? b=some o→h'.get? b=some o:=fun b o eb=>e b o (fun q=>by rw [q] at eb; exact nsm (none_at_end _) eb) eb
        have xt:Ext C X lc lc ρ ow ol σ s { s with heap:=h' }:=Ext.all t kp
        exact names_ok hn hs hl xt.st (xt.relDs r1) fun s' ow' t' x'=>K s' ow' t' ((xt.sext t).trans x')

theorem tg_ok {tg:Expr} {ks:List Nat} {d:D} {val:Value} {ρ₁:Ro} {Q:Unit→Shared→Prop} {E:Value→Shared→Prop} (hh:A.handled=none) (h:TgOK sp tg ks) (hs:SpX X sp) (t:St C X lc ρ ow ol σ s) (r:relD C X ol lc s.heap d val) (hb:bindT ρ ks d=some ρ₁)
    (K:∀ s' ow',St C X lc ρ₁ ow' ol σ s'→SExt C X lc lc ol ol s s'→Q () s'):wpAny C.M A (assign tg X.env val) Q E s:=tg_okI hh h hs t (.inl r) hb K

theorem s_asg {N:Nat} {a:Expr} {e:Mine.E} {k:Nat} {x:Str} {p pos:Pos} (hc:notComp a=true) (hk:StS sp k x) (h1:EvOK C G H n sp a e):SOK C G H n N sp (.Assign [.Name x p] a pos) (.asg k e):=fun A X lc ρ ow ol σ s Q E hs ha t K=>by
  refine Xeaa (hk) fun kd g1 g2=>?_
  refine wpAny_Assign_Name ((h1 A X lc ρ ow ol σ s hs ha t).hereS t K fun val s₁ v σ₁ lc₁ _ xt r K1=>?_) (swaps_plain hc _ _ _)
  have hno:∀ l,v ≠ .own l:=fun l q=>by subst q; obtain ⟨_,_,_,e,_⟩:=r; cases e
  refine store_ok hs g1 (g2.imp id fun h=>⟨h.1,h.2,hno⟩) xt.st (v:=v) (o:=none) r (fun _ e=>by cases e) fun s₂ t₂ x₂=>?_
  exact K1.ok _ .nxt _ _ _ _ s₂ .next rfl t₂ x₂ rfl

noncomputable def notTup (a:Expr):Bool:=a.ctorIdx != 25
theorem swapped_plain {sp:Sp} {tg a:Expr} {ks:List Nat} (h:notTup a=true) (k:TgOK sp tg ks) (env:Env):swappedStores [tg] a env=pure none:=by
  cases k
  · rfl
  · cases a <;> first | rfl | cases h

theorem s_asgT {N:Nat} {a tg:Expr} {e:Mine.E} {ks:List Nat} {pos:Pos} (hc:notComp a=true) (ht:notTup a=true) (hk:TgOK sp tg ks) (h1:EvOK C G H n sp a e):SOK C G H n N sp (.Assign [tg] a pos) (.asgT ks e):=fun A X lc ρ ow ol σ s Q E hs ha t K=>by
  refine wpAny_Assign_stores ((h1 A X lc ρ ow ol σ s hs ha t).toD.hereS t K fun val s₁ d σ₁ lc₁ _ xt r K1=>?_) (swaps_plain hc _ _ _) (swapped_plain ht hk _)
  cases q:bindT ρ ks d with
  | none=>exact absurd (by rw [q]; rfl) K1.nb
  | some ρ₁ =>
    have e0:(assignEach [tg] X.env).map (·.2)=[assign tg X.env]:=by cases hk <;> rfl
    rw [e0]
    show wpAny C.M A (assign tg X.env val) _ E s₁
    exact tg_ok ha.handled hk hs xt.st r q fun s₂ ow₂ t₂ x₂=>K1.ok ρ₁ .nxt _ _ _ _ s₂ .next (by rw [q]; rfl) t₂ x₂ rfl
end
section
variable {prog:Program} {w:World} {A:Around} {E:Value→Shared→Prop} {s:Shared}
theorem extend_tuple {l b:Addr} {items items2:Array Value} {n n2:Nat} {o:Obj} {Q:Value→Shared→Prop} (hl:s.heap.get? l=some { cls:=.type "list",data:=.seq items n }) (hb:s.heap.get? b=some o) (hc:o.cls=.type "tuple") (hd:o.data=.seq items2 n2)
    (hz:items.size + items2.size ≤ 1000000) (h:Q .none { s with heap:=s.heap.update l (Obj.mapSeq (·++items2)) }):wpAny (model prog w) A (call (.builtin "list.extend") [.ref l,.ref b]) Q E s:=by
  refine wpAny_call_entry PySem.F.slot_list_extend ⟨_,hl,rfl⟩ PySem.F.entry_list_extend ?_ (PySem.F.args_list_extend_2 _ _)
  show wpAny _ _ (Builtin.List.listExtendWith (.ref l) (.ref b) .none) _ _ s
  refine wpAny_bind (wpAny_typeOf ⟨o,hb,hc⟩ ?_)
  have h1:(Builtin.List.listSameRef (.ref l) (.ref b) || Value.type "tuple" == Value.type "list" || Value.type "tuple" == Value.type "tuple")=true:=by simp
  rw [if_pos h1]
  refine wpAny_bind (listItems_at hb hd (wpAny_bind (listItems_at hl rfl ?_)))
  have h2:(!items.isEmpty && Builtin.List.listTooLong (items.size + items2.size))=false:=by
    have:Builtin.List.listTooLong (items.size + items2.size)=false:=by
      unfold Builtin.List.listTooLong
      rw [decide_eq_false_iff_not,sizeLine_eq]; lia
    rw [this,Bool.and_false]
  rw [h2,if_neg (by simp)]
  refine wpAny_bind (listUpdate_at hl rfl ?_ (by rw [sizeLine_eq]; lia) (by show (items++items2).size ≤ _; rw [Array.size_append,sizeLine_eq]; lia))
  exact wpAny_pure ⟨_,rfl,h⟩

theorem bd_in {lo hi:Int} {n:Nat} (h0:0 ≤ lo) (h1:lo ≤ hi) (h2:hi ≤ n):sliceBounds (some lo) (some hi) none n=(lo,hi,1):=by
  obtain ⟨a,rfl⟩:=Int.eq_ofNat_of_zero_le h0
  obtain ⟨b,rfl⟩:=Int.eq_ofNat_of_zero_le (Int.le_trans h0 h1)
  have h2:=Int.ofNat_le.mp h2
  rw [sliceBounds_plain,Option.elim,Option.elim,clipAt_nat,clipAt_nat,Nat.min_eq_left h2,Nat.min_eq_left (Nat.le_trans (Int.ofNat_le.mp h1) h2)]
theorem sz_in {xs ys:Array Value} {a b:Nat} (h:a ≤ b) (hb:b ≤ xs.size):(xs.extract 0 a++ys++xs.extract b).size ≤ xs.size + ys.size:=by
  rw [Array.size_append,Array.size_append,Array.size_extract,Array.size_extract,Nat.min_eq_left (Nat.le_trans h hb),Nat.min_self]; omega
theorem setSlice_list {l b sl:Addr} {items items2:Array Value} {n n2:Nat} {o:Obj} {lo hi:Int} {tl th:Tok} {Q:Unit→Shared→Prop} (hl:s.heap.get? l=some { cls:=.type "list",data:=.seq items n }) (hb:s.heap.get? b=some o) (hc:o.cls=.type "list") (hd:o.data=.seq items2 n2)
    (hlb:l ≠ b) (hs:s.heap.IsSliceOf sl (.int lo tl) (.int hi th) .none) (h0:0 ≤ lo) (h1:lo ≤ hi) (hz:items.size + items2.size ≤ 1000000) (hi1:hi ≤ items.size)
    (h:Q () { s with heap:=s.heap.update l (Obj.mapSeq fun xs=>xs.extract 0 lo.toNat++items2++xs.extract hi.toNat) }):wpAny (model prog w) A (setItem (.ref l) (.ref sl) (.ref b)) Q E s:=by
  refine Xeaaa (id hs) fun os hos hcs hds=>?_
  have hTs:s.TypeIs (.ref sl) "slice":=⟨os,hos,hcs⟩
  have hT:s.TypeIs (.ref l) "list":=⟨_,hl,rfl⟩
  unfold setItem
  try with_reducible refine wpAny_holding ?_
  first | refine wpAny_bind (wpAny_pure ?_) | skip
  refine wpAny_bind (wpAny_sequenceKey hT (by decide) ?_)
  refine wpAny_bind (wpAny_callSpecial?_slot (name:=Str.ofString "__setitem__") hT slot_list_setitem
    (wpAny_call_entry slot_list_setitem hT entry_list_setitem ?_ (args_list_setitem _ _ _)))
  show wpAny _ _ (Builtin.List.listSubscript? (.ref sl) >>= _) _ _ s
  refine wpAny_bind ?_
  refine wpAny_bind (wpAny_specialOf hTs slice_no_index ?_)
  simp only [Option.isNone_none,if_true]
  refine wpAny_pure ?_
  show wpAny _ _ (typeOf (.ref sl) >>= _) _ _ s
  refine wpAny_bind (wpAny_typeOf hTs ?_)
  rw [if_neg (by decide)]
  rw [listSliceParts_eq]
  have hstep:¬ ((rawPart none == rawInt 0)=true):=Bool.false_ne_true
  refine wpAny_bind (wpAny_bind (wpAny_field hos hds (x:=.none) rfl (wpAny_bind (wpAny_listPart .none ?_))))
  rw [if_neg hstep]
  refine wpAny_bind (wpAny_field hos hds (x:=.int lo tl) rfl (wpAny_bind (wpAny_listPart (.int lo tl) ?_)))
  refine wpAny_bind (wpAny_field hos hds (x:=.int hi th) rfl (wpAny_bind (wpAny_listPart (.int hi th) (wpAny_pure ?_))))
  rw [if_neg (by simp [Builtin.List.listSameRef,hlb])]
  refine wpAny_bind ?_
  refine wpAny_bind (wpAny_typeOf ⟨o,hb,hc⟩ ?_)
  rw [if_pos (by simp)]
  refine listItems_at hb hd ?_
  refine wpAny_bind (listItems_at hl rfl ?_)
  refine wpAny_bind (wpAny_of_eq (sliceIndices_raw (some lo) (some hi) none items.size (by simp)) ?_)
  have hbd:sliceBounds (some lo) (some hi) none items.size=(lo,hi,1):=bd_in h0 h1 hi1
  rw [hbd]
  dsimp only
  rw [if_pos (by decide)]
  refine wpAny_bind (wpAny_rule ?_)
  have hlong:Builtin.List.listTooLong (items.size + items2.size)=false:=by
    unfold Builtin.List.listTooLong
    rw [decide_eq_false_iff_not,sizeLine_eq]; lia
  rw [hlong,if_neg (by simp)]
  have hmax:max lo hi=hi:=by exact Int.max_eq_right h1
  rw [hmax]
  have hf:((fun xs:Array Value=>xs.extract 0 lo.toNat++items2++xs.extract hi.toNat) items)=items.extract 0 lo.toNat++items2++items.extract hi.toNat items.size:=rfl
  refine wpAny_bind (listUpdate_at (f:=fun xs=>xs.extract 0 lo.toNat++items2++xs.extract hi.toNat) hl rfl ?_ (by rw [sizeLine_eq]; lia) (Nat.le_trans (sz_in (Int.toNat_le_toNat h1) (Int.toNat_le.mpr hi1)) (by rw [sizeLine_eq]; lia)))
  refine wpAny_bind (wpAny_letGo (wpAny_pure ⟨_,rfl,?_⟩))
  exact wpAny_pure h
end
section
variable {C:Cst} {G:Nat→D} {NM:Names} {H:Hd} {n:Nat} {sp:Sp} {A:Around} {X:Act} {lc lc' lc'':Loc} {ρ ρ':Ro} {ow ow':Nat→Option Addr} {ol ol' ol'':List Addr} {σ σ':Store} {s s' s'':Shared}

theorem own_set {k:Nat} {a:Addr} {l l':List D} {xs':List Value} {h':Heap} {tk:Nat} (t:St C X lc ρ ow ol σ s) (ek:ow k=some a) (hv:ρ.get k=some (.own l)) (hsb:Heap.SameBut a s.heap h') (hl:h'.PlainList a xs'.toArray) (r:relDs C X ol lc s.heap l' xs') :
    St C X lc (ρ.put k (.own l')) ow ol σ { s with heap:=h',toks:=tk }∧SExt C X lc lc ol ol s { s with heap:=h',toks:=tk }:=by
  have f:=t.f
  have ha:=f.ownIn k a ek
  refine Xaaaaeea (f.ownNew a ha) fun n1 n2 n3 n4 xs nn hx=>?_
  have hM:a ∈ X.M ol:=List.mem_cons_of_mem _ (List.mem_append_right _ ha)
  have hZ:a ∈ X.Z C lc ol:=List.mem_append_left _ hM
  have hs:Sub (fz s.heap (X.Z C lc ol)) (fz h' (X.Z C lc ol)):=Sub.step (M:=[a]) (Keep.of fun b o hb e=>hsb.extBut b o (fun q=>hb (by simp [q])) e) (fun b hb=>.inl (by rw [List.mem_singleton.mp hb]; exact hZ)) fun _=>.inl
  refine Xeeeaa (locals_obj t) fun oL esL epL hoL hdL=>?_
  have hLa:X.env.locals ≠ a:=fun q=>n3 q.symm
  have hcell:∀ {c:Addr} {o:Obj} {v},s.heap.get? c=some o→o.data=.cell v→h'.get? c=some o:=fun {c o v} e d=>hsb.extBut _ _ (fun q=>by rw [q] at e; cases ssm hx e; cases d) e
  refine ⟨⟨t.g.apart (M:=[a]) (fun b o hb e=>hsb.extBut b o (fun q=>hb (by simp [q])) e) fun b hb=>?_,?_,fun e he=>?_⟩,sext_at hsb hM (let ⟨m,e⟩:=hl; ⟨_,e⟩)⟩
  · rw [List.mem_singleton.mp hb]
    exact ⟨n1,n2,fun o e=>by cases ssm hx e; exact ⟨fun c d q=>by (injection q with q1; cases q1),fun q=>by obtain ⟨q,_⟩:=q; simp at q⟩⟩
  · refine Xeaa (f.ns) fun m hn hr=>?_
    refine { f with ns:=⟨m,hn.sameBut hsb hLa,fun j u y kd e1 e2=>?_⟩,cellAt:=fun q hq=>?_,ownLoc:=fun j l₂ y kd e1 e2=>?_,ownNew:=fun b hb=>?_,hxOld:=fun b hb=>?_ }
    · have held:∀ val,Held X.env m s.heap y kd val→Held X.env m h' y kd val:=fun val hh=>by
        have cell:(∃ c o,X.env.cells.lookup y=some c∧s.heap.get? c=some o∧o.data=.cell (some val))→∃ c o,X.env.cells.lookup y=some c∧h'.get? c=some o∧o.data=.cell (some val):=fun ⟨c,o,g1,g2,g3⟩=>⟨c,o,g1,hcell g2 g3,g3⟩
        cases kd with
        | «local»=>exact hh
        | cell=>exact cell hh
        | free=>exact cell hh
        | _=>exact hh.elim
      rcases get_put _ _ _ _ _ e1 with ⟨rfl,rfl⟩ | ⟨hne,e1⟩
      · refine Xeaa (hr j _ y kd hv e2) fun val g1 g2=>?_
        refine Xeeaaaa (g2) fun a' xs₀ zz1 ea _ _=>?_; subst zz1
        cases ssm ek ea
        exact ⟨_,held _ g1,a,xs',rfl,ek,hl,RelDs.mono hs r⟩
      · refine Xeaa (hr j u y kd e1 e2) fun val g1 g2=>?_
        refine ⟨val,held _ g1,g2.keep hs (.refl ..) fun b ys e x=>x.extBut hsb.extBut fun q=>hne ?_⟩
        subst q
        exact f.ownInj j k b e ek
    · obtain ⟨h1,⟨o,v,g1,g2⟩,h2⟩:=f.cellAt q hq
      exact ⟨h1,⟨o,v,hcell g1 g2,g2⟩,h2⟩
    · rcases get_put _ _ _ _ _ e1 with ⟨rfl,h⟩ | ⟨hne,e1⟩
      · exact f.ownLoc j l y kd hv e2
      · exact f.ownLoc j l₂ y kd e1 e2
    · refine Xaaaaea (f.ownNew b hb) fun m1 m2 m3 m4 ys hy=>?_
      by_cases q:b=a
      · subst q; exact ⟨m1,m2,m3,m4,_,hl⟩
      · exact ⟨m1,m2,m3,m4,ys,hy.extBut hsb.extBut q⟩
    · refine Xea (f.hxOld b hb) fun o e=>?_
      exact ⟨o,hsb.extBut _ _ (fun q=>n4 (q ▸ hb)) e⟩
  · refine Xaeeaaaaa (t.fr e he) fun h1 L o h2 h3 h4 h5 h6=>?_
    refine ⟨h1,L,o,h2,hsb.extBut _ _ (fun z=>?_) h3,h4,h5,h6⟩
    rw [z] at h3; cases ssm hx h3
    obtain ⟨_,_,q⟩:=h6; cases q

theorem own_new {xs:List Value} {tk:Nat} (t:St C X lc ρ ow ol σ s) :
    St C X lc ρ ow (s.heap.objs.size :: ol) σ { s with heap:=s.heap.push { cls:=.type "list",data:=.seq xs.toArray },toks:=tk }∧SExt C X lc lc ol (s.heap.objs.size :: ol) s { s with heap:=s.heap.push { cls:=.type "list",data:=.seq xs.toArray },toks:=tk } ∧
    Sub (fz s.heap (X.Z C lc ol)) (fz (s.heap.push { cls:=.type "list",data:=.seq xs.toArray }) (X.Z C lc (s.heap.objs.size :: ol))):=by
  have f:=t.f
  have kp:∀ b o,s.heap.get? b=some o→(s.heap.push { cls:=.type "list",data:=.seq xs.toArray }).get? b=some o:=fun _ _ e=>Heap.get?_push_of_some _ e
  have hn:=none_at_end s.heap
  have hs:Sub (fz s.heap (X.Z C lc ol)) (fz (s.heap.push { cls:=.type "list",data:=.seq xs.toArray }) (X.Z C lc (s.heap.objs.size :: ol))):=Sub.step (M:=[]) (.all kp) (fun _ q=>by cases q) fun a ha=>by
    unfold Act.Z Act.M at ha ⊢
    simp only [List.mem_append,List.mem_cons] at ha ⊢
    rcases ha with (h | h | h | h) | h
    · exact .inl (.inl (.inl h))
    · exact .inl (.inl (.inr (.inl h)))
    · exact .inr (h ▸ hn)
    · exact .inl (.inl (.inr (.inr h)))
    · exact .inl (.inr h)
  refine ⟨⟨t.g.keepAll kp,?_,t.fr.apart (M:=[]) (fun b o _=>kp b o) fun _ q=>by cases q⟩,⟨⟨.all kp,.refl ..,fun b o e=>⟨o,kp b o e⟩⟩,fun b hb=>?_⟩,hs⟩
  · refine Xeaa (f.ns) fun m hn' hr=>?_
    refine { f with ns:=⟨m,hn'.at' fun o e=>kp _ _ e,fun j u y kd e1 e2=>?_⟩,cellAt:=fun q hq=>?_,ownIn:=fun j b e=>List.mem_cons_of_mem _ (f.ownIn j b e),ownNew:=fun b hb=>?_,hxOld:=fun b hb=>?_ }
    · refine Xeaa (hr j u y kd e1 e2) fun val g1 g2=>?_
      refine ⟨val,g1.keep (M:=[]) (.all kp) fun _ q=>(by cases q),g2.keep hs (.refl ..) fun b ys e x=>x.at fun o e=>kp _ _ e⟩
    · obtain ⟨h1,⟨o,v,g1,g2⟩,h2⟩:=f.cellAt q hq
      exact ⟨h1,⟨o,v,kp _ _ g1,g2⟩,h2⟩
    · rcases List.mem_cons.mp hb with rfl | hb
      · refine ⟨Loc.mu_old t.g hn,?_,fun q=>?_,fun q=>?_,_,0,Heap.get?_push_size _ rfl⟩
        · cases q:C.h₀.get? s.heap.objs.size with
          | none=>rfl
          | some o=>have:=t.g.base _ o q; exact nsm hn this
        · refine Xeeeaa (hn') fun o _ _ e _=>?_
          rw [← q] at e; exact nsm hn e
        · refine Xea (f.hxOld _ q) fun o e=>?_
          exact nsm hn e
      · refine Xaaaaea (f.ownNew b hb) fun m1 m2 m3 m4 ys hy=>?_
        exact ⟨m1,m2,m3,m4,ys,hy.at fun o e=>kp _ _ e⟩
    · refine Xea (f.hxOld b hb) fun o e=>?_
      exact ⟨o,kp _ _ e⟩
  · rcases List.mem_cons.mp hb with rfl | hb
    · exact .inr hn
    · exact .inl hb

theorem ow_fresh (t:St C X lc ρ ow ol σ s) {a:Addr} (h:s.heap.get? a=none) (j:Nat):ow j ≠ some a:=fun q=>by
  refine Xaaaaeea (t.f.ownNew a (t.f.ownIn j a q)) fun _ _ _ _ xs nn hx=>?_
  exact nsm h hx

theorem s_own {N:Nat} {as:List Expr} {es:Es} {k:Nat} {x:Str} {p p' pos:Pos} (hk:sp.sl[k]?=some (some (x,.local))) (h1:EvsOK C G H n sp as es):SOK C G H n N sp (.Assign [.Name x p] (.List as p') pos) (.own k es):=fun A X lc ρ ow ol σ s Q E hs ha t K=>by
  refine wpAny_Assign_Name (wpAny_List_spliced ((h1 A X lc ρ ow ol σ s p' hs ha t).toDs.hereS t K fun vs s₁ l σ₁ lc₁ _ xt r K1=>?_)) rfl
  have K1:SCont _ _ _ _ _ _ _ (if l.length ≤ LIM then R.ok (ρ.put k (.own l),.nxt) σ₁ else .bad) _ _:=K1
  split at K1
  · rename_i hl
    refine ⟨by rw [← RelDs.length r]; exact lim_size hl,?_⟩
    refine Xaaa (own_new (xs:=vs) (tk:=s₁.toks) xt.st) fun t1 x1 s1=>?_
    refine store_ok hs hk (.inl rfl) t1 (v:=.own l) (o:=some s₁.heap.objs.size) ⟨_,vs,rfl,rfl,⟨0,Heap.get?_push_size _ rfl⟩,RelDs.mono s1 r⟩ (fun b e=>?_) fun s₂ t₂ x₂=>?_
    · cases e
      exact ⟨.head _,fun j q=>absurd q (ow_fresh xt.st (none_at_end _) j)⟩
    · exact K1.ok _ .nxt _ _ _ _ s₂ .next rfl t₂ (x1.trans x₂) rfl
  · exact absurd rfl K1.nb

theorem relDs.snoc {h:Heap} {l:List D} {xs:List Value} {d:D} {v:Value} (r:relDs C X ol lc h l xs) (r2:relD C X ol lc h d v):relDs C X ol lc h (l++[d]) (xs++[v]):=r.append (.cons r2 .nil)

theorem s_append {N:Nat} {b:Expr} {e:Mine.E} {k:Nat} {x:Str} {p ap cp pos:Pos} (hx:okName x=true) (hl:ap.endLine=cp.line) (hn:notStar b=true) (hk:sp.sl[k]?=some (some (x,.local))) (h1:EvOK C G H n sp b e) :
    SOK C G H n N sp (.Expr (.Call (.Attribute (.Name x p) "append" ap) [b] [] cp) pos) (.append k e):=fun A X lc ρ ow ol σ s Q E hs ha t K=>by
  have hd:(x == ("__debug__":Str))=false:=by simp only [okName,Bool.and_eq_true,Bool.not_eq_true'] at hx; exact hx.1
  have K:SCont _ _ _ _ _ _ _ ((ofOpt σ (ownOf (ρ.get k))).bind fun l σ=>(toD (evE G H e ρ σ)).bind fun d σ₁=>if l.length ≤ LIM then .ok (ρ.put k (.own (l++[d])),.nxt) σ₁ else .bad) Q E:=K
  cases q:ownOf (ρ.get k) with
  | none=>exact absurd (by rw [q]; rfl) K.nb
  | some l =>
    rw [q] at K
    have K:SCont _ _ _ _ _ _ _ ((toD (evE G H e ρ σ)).bind fun d σ₁=>if l.length ≤ LIM then .ok (ρ.put k (.own (l++[d])),.nxt) σ₁ else .bad) Q E:=K
    have q':=ownOf_some q
    refine wpAny_Expr_any (wpAny_Call_method (T:="list") (id:="list.append") (base_eq rfl _ _ _) (by rw [starEach_cons hn]; rfl) (by simp [hl]) PySem.F.plainAttrs_list PySem.F.slot_list_append type_list_append ?_) (by unfold interactive; rw [t.f.kind]; rfl) rfl
    refine wpAny_Name (own_slot hx hs hk t q' fun a xs ea g1 g2=>?_) hd
    refine Xea (g1) fun m g1'=>?_
    refine ⟨⟨_,g1',rfl⟩,fun b e=>by cases e; exact ⟨_,g1',rfl⟩,?_⟩
    rw [starEach_cons hn]
    refine Calls.callWith_builtin (first:=[_]) rfl (Calls.evalArgs_plain (Calls.spliced_cons ((h1 A X lc ρ ow ol σ s hs ha t).toD.hereS t K fun v s₁ d σ₁ lc₁ _ xt r K1=>?_)))
    show wpAny _ _ (pure []) _ _ _
    refine wpAny_pure ?_
    split at K1
    · rename_i hlen
      have hm:a ∉ lc.mu C:=(t.f.ownNew a (t.f.ownIn k a ea)).1
      have g3:=PlainList.keep xt.keep hm ⟨m,g1'⟩
      have g4:=xt.relDs g2
      refine wpAny_list_append_plain g3 (fun h' e1 e2=>?_) (by rw [List.size_toArray,← g2.length]; exact lim_size hlen)
      refine Xaa (own_set (l':=l++[d]) (xs':=xs++[v]) (tk:=s₁.toks) xt.st ea q' e2 (by simpa using e1) (relDs.snoc g4 r)) fun t2 x2=>?_
      exact K1.ok _ .nxt _ _ _ _ _ .next rfl t2 x2 rfl
    · exact absurd rfl K1.nb

theorem s_extend {N:Nat} {b:Expr} {e:Mine.E} {k:Nat} {x:Str} {p ap cp pos:Pos} (hx:okName x=true) (hl:ap.endLine=cp.line) (hn:notStar b=true) (hk:sp.sl[k]?=some (some (x,.local))) (h1:EvOK C G H n sp b e) :
    SOK C G H n N sp (.Expr (.Call (.Attribute (.Name x p) "extend" ap) [b] [] cp) pos) (.extend k e):=fun A X lc ρ ow ol σ s Q E hs ha t K=>by
  have hd:(x == ("__debug__":Str))=false:=by simp only [okName,Bool.and_eq_true,Bool.not_eq_true'] at hx; exact hx.1
  have K:SCont _ _ _ _ _ _ _ ((ofOpt σ (ownOf (ρ.get k))).bind fun l σ=>(toD (evE G H e ρ σ)).bind fun d σ₁=>match d.asTup with
    | some m=>if l.length ≤ LIM∧m.length ≤ LIM then .ok (ρ.put k (.own (l++m)),.nxt) σ₁ else .bad
    | none=>.bad) Q E:=K
  cases q:ownOf (ρ.get k) with
  | none=>exact absurd (by rw [q]; rfl) K.nb
  | some l =>
    rw [q] at K
    have K:SCont _ _ _ _ _ _ _ ((toD (evE G H e ρ σ)).bind fun d σ₁=>match d.asTup with
      | some m=>if l.length ≤ LIM∧m.length ≤ LIM then .ok (ρ.put k (.own (l++m)),.nxt) σ₁ else .bad
      | none=>.bad) Q E:=K
    have q':=ownOf_some q
    refine wpAny_Expr_any (wpAny_Call_method (T:="list") (id:="list.extend") (base_eq rfl _ _ _) (by rw [starEach_cons hn]; rfl) (by simp [hl]) PySem.F.plainAttrs_list PySem.F.slot_list_extend PySem.F.type_list_extend ?_) (by unfold interactive; rw [t.f.kind]; rfl) rfl
    refine wpAny_Name (own_slot hx hs hk t q' fun a xs ea g1 g2=>?_) hd
    refine Xea (g1) fun m g1'=>?_
    refine ⟨⟨_,g1',rfl⟩,fun b e=>by cases e; exact ⟨_,g1',rfl⟩,?_⟩
    rw [starEach_cons hn]
    refine Calls.callWith_builtin (first:=[_]) rfl (Calls.evalArgs_plain (Calls.spliced_cons ((h1 A X lc ρ ow ol σ s hs ha t).toD.hereS t K fun v s₁ d σ₁ lc₁ _ xt r K1=>?_)))
    show wpAny _ _ (pure []) _ _ _
    refine wpAny_pure ?_
    cases d with
    | tup mm =>
      have K1:SCont _ _ _ _ _ _ _ (if l.length ≤ LIM∧mm.length ≤ LIM then R.ok (ρ.put k (.own (l++mm)),.nxt) σ₁ else .bad) Q E:=K1
      split at K1
      · rename_i hlen
        have hm:a ∉ lc.mu C:=(t.f.ownNew a (t.f.ownIn k a ea)).1
        refine Xea (PlainList.keep xt.keep hm ⟨m,g1'⟩) fun m3 g3=>?_
        have g4:=xt.relDs g2
        refine Xeeaaa (RelD.tup_inv r) fun b ys zz1 h2 r2=>?_; subst zz1
        refine Xeaaea (isTuple_of h2) fun o2 ho2 hc2 n2 hd2=>?_
        refine extend_tuple g3 ho2 hc2 hd2 (by rw [List.size_toArray,List.size_toArray,← g2.length,← r2.length]; have:=hlen; unfold LIM at this; omega) ?_
        obtain ⟨t2,x2⟩:=own_set (l':=l++mm) (xs':=xs++ys) (tk:=s₁.toks) xt.st ea q' (Heap.SameBut.update s₁.heap a (Obj.mapSeq (·++ys.toArray))) (by have:=plain_upd g3 (·++ys.toArray); simpa using this) (g4.append r2)
        exact K1.ok _ .nxt _ _ _ _ _ .next rfl t2 x2 rfl
      · exact absurd rfl K1.nb
    | _=>exact absurd rfl K1.nb

theorem s_popTo {N:Nat} {j k:Nat} {x y:Str} {py p ap cp pos:Pos} (hx:okName x=true) (hl:ap.endLine=cp.line) (hj:StS sp j y) (hk:sp.sl[k]?=some (some (x,.local))) :
    SOK C G H n N sp (.Assign [.Name y py] (.Call (.Attribute (.Name x p) "pop" ap) [] [] cp) pos) (.popTo j k):=fun A X lc ρ ow ol σ s Q E hs ha t K=>by
  have hd:(x == ("__debug__":Str))=false:=by simp only [okName,Bool.and_eq_true,Bool.not_eq_true'] at hx; exact hx.1
  cases q:ownOf (ρ.get k) with
  | none=>exact absurd (by simp only [xSi,q]) K.nb
  | some l =>
    cases q2:l.getLast? with
    | none=>exact absurd (by simp only [xSi,q,q2]) K.nb
    | some d =>
      by_cases hlen:l.length ≤ LIM
      · have K:SCont C X lc ρ ow ol s (.ok ((ρ.put k (.own l.dropLast)).put j (.d d),.nxt) σ) Q E:=by
          have e:evS G H N (.popTo j k) ρ σ=.ok ((ρ.put k (.own l.dropLast)).put j (.d d),.nxt) σ:=by simp only [xSi,q,q2,if_pos hlen]
          rw [e] at K; exact K
        have q':=ownOf_some q
        refine wpAny_Assign_Name (wpAny_Call_method (T:="list") (id:="list.pop") (base_eq rfl _ _ _) rfl (by simp [hl]) PySem.F.plainAttrs_list PySem.F.slot_list_pop PySem.F.type_list_pop ?_) rfl
        refine wpAny_Name (own_slot hx hs hk t q' fun a xs ea g1 g2=>?_) hd
        refine Xea (g1) fun m g1'=>?_
        refine ⟨⟨_,g1',rfl⟩,fun b e=>by cases e; exact ⟨_,g1',rfl⟩,?_⟩
        refine Calls.callWith_builtin (first:=[_]) rfl (evalArgs_nil3 ?_)
        have hlx:=g2.length
        have hne:l ≠ []:=fun z=>by rw [z] at q2; cases q2
        have hlast:l[l.length - 1]?=some d:=by rw [← List.getLast?_eq_getElem?]; exact q2
        refine Xeaa (g2.get hlast) fun v hv rv=>?_
        refine call_meets PySem.F.slot_list_pop ⟨_,g1',rfl⟩ PySem.F.entry_list_pop (PySem.F.args_list_pop_1 _) (MeetsSeq.list_pop_last a xs.toArray m v (by simpa [hlx] using hv) (by rw [List.size_toArray,← hlx]; exact lim_size hlen)) ⟨g1',?_⟩
        have e3:=plain_upd g1' fun ys=>ys.eraseIdxIfInBounds (xs.toArray.size - 1)
        have hpos:0 < xs.length:=by rw [← hlx]; exact List.length_pos_iff.mpr hne
        have e4:xs.toArray.eraseIdxIfInBounds (xs.toArray.size - 1)=xs.dropLast.toArray:=by
          simp only [Array.eraseIdxIfInBounds,List.size_toArray]
          rw [dif_pos (by exact Nat.sub_one_lt_of_lt hpos)]
          simp [List.eraseIdx_length_sub_one]
        rw [e4] at e3
        have hdl:relDs C X ol lc s.heap l.dropLast xs.dropLast:=by
          rw [List.dropLast_eq_take,List.dropLast_eq_take,hlx]
          exact g2.take _
        refine Xaa (own_set (l':=l.dropLast) (xs':=xs.dropLast) (tk:=s.toks) t ea q' (Heap.SameBut.update s.heap a _) e3 hdl) fun t2 x2=>?_
        refine Xeaa (hj) fun kd j1 j2=>?_
        refine store_ok hs j1 (j2.imp id fun h=>⟨h.1,h.2,fun _ e=>by cases e⟩) t2 (v:=.d d) (o:=none) (relD.sx t t2 x2 rv) (fun _ e=>by cases e) fun s₃ t₃ x₃=>?_
        exact K.ok _ .nxt _ _ _ _ s₃ .next rfl t₃ (x2.trans x₃) rfl
      · exact absurd (by simp only [xSi,q,q2,if_neg hlen]) K.nb
end
noncomputable def closL (lk:Str→Option Addr):List (Str × NameKind)→List (Str × Addr)→Option (List (Str × Addr))
  | [],acc=>some acc
  | (n,k) :: r,acc=>if k == .free then (match lk n with
    | some a=>closL lk r ((n,a) :: acc)
    | none=>none) else closL lk r acc

theorem closureFor_eq {scope:Scope} {env:Env} {cl:List (Str × Addr)} (h:closL (fun x=>env.cells.lookup x) scope.names []=some cl):closureFor scope env=pure cl:=by
  have go:∀ (l:List (Str × NameKind)) (acc:List (Str × Addr)),closL (fun x=>env.cells.lookup x) l acc=some cl →
      (forIn l acc fun x cs=>(do
        if x.2 == .free then do
          let a ← cellOf env x.1
          pure (ForInStep.yield ((x.1,a) :: cs))
        else pure (ForInStep.yield cs):Sem (ForInStep (List (Str × Addr)))))=pure cl:=by
    intro l
    induction l with
    | nil=>intro acc h; cases h; rfl
    | cons x r ih =>
      intro acc h
      obtain ⟨n,k⟩:=x
      rw [List.forIn_cons]
      unfold closL at h
      by_cases q:(k == NameKind.free)=true
      · rw [if_pos q] at h
        simp only [q,if_true]
        cases e:env.cells.lookup n with
        | none=>rw [e] at h; cases h
        | some a =>
          rw [e] at h
          have:cellOf env n=pure a:=by unfold cellOf; rw [e]
          rw [this]
          simp only [pure_bind]
          exact ih _ h
      · rw [if_neg q] at h
        simp only [q,if_false,pure_bind]
        exact ih _ h
  have:=go scope.names [] h
  unfold closureFor
  simp only [bind_pure_comp] at this ⊢
  show (do let __s ← _; pure __s)=pure cl
  rw [this]
  rfl

theorem closL_some {lk:Str→Option Addr}:∀ (l:List (Str × NameKind)) (acc:List (Str × Addr)),(∀ x ∈ l,x.2=.free→∃ a,lk x.1=some a)→∃ cl,closL lk l acc=some cl
  | [],acc,_=>⟨acc,rfl⟩
  | (n,k) :: r,acc,h=>by
    unfold closL
    by_cases q:(k == NameKind.free)=true
    · rw [if_pos q]
      refine Xea (h (n,k) (.head _) (by simpa using q)) fun a e=>?_
      rw [e]
      exact closL_some r _ fun x hx=>h x (.tail _ hx)
    · rw [if_neg q]
      exact closL_some r _ fun x hx=>h x (.tail _ hx)
theorem closL_lookup {lk:Str→Option Addr}:∀ (l:List (Str × NameKind)) (acc cl:List (Str × Addr)),closL lk l acc=some cl→(∀ n a,acc.lookup n=some a→lk n=some a)→(∀ n a,cl.lookup n=some a→lk n=some a)∧(∀ n,(n,NameKind.free) ∈ l∨(acc.lookup n).isSome→(cl.lookup n).isSome=true)
  | [],acc,cl,h,hacc=>by cases h; exact ⟨hacc,fun n hn=>by rcases hn with h | h; cases h; exact h⟩
  | (m,k) :: r,acc,cl,h,hacc=>by
    unfold closL at h
    by_cases q:(k == NameKind.free)=true
    · rw [if_pos q] at h
      cases e:lk m with
      | none=>rw [e] at h; cases h
      | some a =>
        rw [e] at h
        have ih:=closL_lookup r _ cl h (fun n b hb=>by
          rw [List.lookup_cons] at hb
          by_cases z:n=m
          · subst z; simp at hb; rw [e,hb]
          · have:(n == m)=false:=by simpa using z
            rw [this] at hb; exact hacc n b hb)
        refine ⟨ih.1,fun n hn=>ih.2 n ?_⟩
        rcases hn with hn | hn
        · rcases List.mem_cons.mp hn with hn | hn
          · injection hn with h1 h2
            right; rw [List.lookup_cons,h1]; simp
          · exact .inl hn
        · right
          rw [List.lookup_cons]
          split
          · rfl
          · exact hn
    · rw [if_neg q] at h
      have ih:=closL_lookup r acc cl h hacc
      refine ⟨ih.1,fun n hn=>ih.2 n ?_⟩
      rcases hn with hn | hn
      · rcases List.mem_cons.mp hn with hn | hn
        · injection hn with h1 h2
          subst h2
          exact absurd rfl q
        · exact .inl hn
      · exact .inr hn

section
variable {prog:Program} {w:World} {A:Around} {E:Value→Shared→Prop} {R:Result→Shared→Prop} {s:Shared}
theorem codeAny_compLoop_go {elt target iter:Expr} {ifs:List Expr} {scope:Scope} {pos:Pos} {it acc:Value} {env:Env} (I:Nat→Shared→Prop)
    (turn:∀ n s,I n s→wpAny (model prog w) A (pyNext it) (fun r s₁=>match r with
      | none=>R (.ok .next) s₁
      | some v=>wpAny (model prog w) A (letOwnedTupleGo target it v) (fun _ s₁'=>wpAny (model prog w) A (assign target env v) (fun _ s₂ =>
          wpAny (model prog w) A (forIn ifs true fun c r=>if r=true then do let ok ← isTrue c env (eval c env); pure (ForInStep.yield ok) else pure (ForInStep.yield r)) (fun ok s₃ =>
            if ok=true then wpAny (model prog w) A (eval elt env) (fun x s₄ =>
              wpAny (model prog w) A (call (.builtin "list.append") [acc,x]) (fun _ s₅=>∃ m,m < n∧I m s₅) (fun _ _=>False) s₄) (fun _ _=>False) s₃
            else ∃ m,m < n∧I m s₃) (fun _ _=>False) s₂) (fun _ _=>False) s₁') (fun _ _=>False) s₁) (fun _ _=>False) s)
    (n:Nat) (h:I n s) :
    codeAny (model prog w) A (.compLoop (.ListComp elt [⟨target,iter,ifs,0⟩] scope pos) 0 it acc env) R s:=by
  refine codeAny_loop rfl I (fun n s hI=>?_) n h
  show wpAny _ A ((compTurn (.ListComp elt [⟨target,iter,ifs,0⟩] scope pos) 0 it acc env).onRaise (fun x=>do noteFrame x env; theTreesLotGoes x)) _ _ s
  refine wpAny_noted ?_
  rw [compTurn_list]
  refine wpAny_bind (wpAny_standAt (wpAny_bind (wpAny_mono (turn n s hI) (fun r s₁ h₁=>?_) fun _ _ h'=>h'.elim)))
  cases r with
  | none=>exact wpAny_pure h₁
  | some v =>
    refine wpAny_bind (wpAny_mono h₁ (fun _ s₁' h₁'=>?_) fun _ _ h'=>h'.elim)
    refine wpAny_bind (wpAny_mono h₁' (fun _ s₂ h₂=>wpAny_bind (wpAny_mono h₂ (fun ok s₃ h₃=>?_) fun _ _ h'=>h'.elim)) fun _ _ h'=>h'.elim)
    cases ok with
    | false=>exact wpAny_pure ⟨rfl,h₃⟩
    | true =>
      exact wpAny_bind (wpAny_bind (wpAny_mono h₃ (fun x s₄ h₄=>wpAny_bind (wpAny_mono h₄ (fun _ s₅ h₅=>wpAny_pure (wpAny_pure ⟨rfl,h₅⟩)) fun _ _ h'=>h'.elim)) fun _ _ h'=>h'.elim))
end
noncomputable def relabS (scope o:Scope):Scope:={ scope with names:=scope.names.map fun (n,k)=>if (k == .free && o.kind == .function && o.names.lookup n == some .cell) then (n,.cell) else (n,k) }
theorem relab_eq (scope:Scope) (env:Env):relabel scope env=relabS scope env.scope:=rfl

structure CompSp (sp:Sp) (scope:Scope) (sl':List (Option (Str × NameKind))) (tg:Expr) (ks:List Nat):Prop where
  kind:scope.kind=.function
  nocell:∀ x ∈ scope.names,x.2 ≠ .cell
  names:∀ x ∈ scope.names,x.2=.local→scope.names.lookup x.1=some .local
  free:∀ x ∈ scope.names,x.2=.free→x.1 ∈ sp.cn
  sl:∀ (k:Nat) x kd,sl'[k]?=some (some (x,kd))→(relabS scope sp.scope).names.lookup x=some kd∧(k ∈ ks∨(k ∉ ks∧kd=.cell∧sp.sl[k]?=some (some (x,.cell))∧(x,NameKind.free) ∈ scope.names))
  inj:∀ (k j:Nat) x kd kd',sl'[k]?=some (some (x,kd))→sl'[j]?=some (some (x,kd'))→k=j
  tg:TgOK ⟨relabS scope sp.scope,sl',[],sp.code,sp.qual⟩ tg ks

noncomputable abbrev spC (sp:Sp) (scope:Scope) (sl':List (Option (Str × NameKind))):Sp:=⟨relabS scope sp.scope,sl',[],sp.code,sp.qual⟩

noncomputable def clr (ks:List Nat) (ρ:Ro):Ro:=ks.foldl (fun r k=>r.set k none) ρ
theorem get_set (ρ:Ro) (k j:Nat) (o:Option V):Ro.get (ρ.set k o) j=if k=j then (if k < ρ.length then o else none) else ρ.get j:=by
  unfold Ro.get
  rw [List.getElem?_set]
  by_cases q:k=j
  · rw [if_pos q,if_pos q]
    split <;> rfl
  · rw [if_neg q,if_neg q]
theorem clr_length (ks:List Nat) (ρ:Ro):(clr ks ρ).length=ρ.length:=by
  induction ks generalizing ρ with
  | nil=>rfl
  | cons k ks ih=>show (clr ks (ρ.set k none)).length=_; rw [ih,List.length_set]
theorem clr_out {ks:List Nat} {ρ:Ro} {j:Nat} (h:j ∉ ks):(clr ks ρ).get j=ρ.get j:=by
  induction ks generalizing ρ with
  | nil=>rfl
  | cons k ks ih =>
    show (clr ks (ρ.set k none)).get j=_
    rw [ih (fun q=>h (.tail _ q)),get_set,if_neg (fun q:k=j=>h (by rw [q]; exact .head _))]
theorem clr_none {ks:List Nat}:∀ {ρ:Ro} {j:Nat},ρ.get j=none→(clr ks ρ).get j=none:=by
  induction ks with
  | nil=>intro ρ j h; exact h
  | cons k ks ih =>
    intro ρ j h
    refine ih ?_
    rw [get_set]
    split
    · split <;> rfl
    · exact h
theorem clr_in {ks:List Nat}:∀ {ρ:Ro} {j:Nat},j ∈ ks→(clr ks ρ).get j=none:=by
  induction ks with
  | nil=>intro ρ j h; cases h
  | cons k ks ih =>
    intro ρ j h
    rcases List.mem_cons.mp h with rfl | h
    · refine clr_none (ρ:=ρ.set j none) ?_
      rw [get_set,if_pos rfl]
      split <;> rfl
    · exact ih h

theorem puts_agree (S:Nat→Prop):∀ (l:List (Nat × D)) (ρ ρ₀:Ro),ρ.length=ρ₀.length→(∀ k,S k→ρ.get k=ρ₀.get k) →
    (l.foldl (fun r p=>r.put p.1 (.d p.2)) ρ).length=(l.foldl (fun r p=>r.put p.1 (.d p.2)) ρ₀).length∧∀ k,(S k∨k ∈ l.map (·.1))→(l.foldl (fun r p=>r.put p.1 (.d p.2)) ρ).get k=(l.foldl (fun r p=>r.put p.1 (.d p.2)) ρ₀).get k
  | [],ρ,ρ₀,hl,h=>⟨hl,fun k hk=>hk.elim (h k) fun q=>by cases q⟩
  | p :: l,ρ,ρ₀,hl,h=>by
    have ih:=puts_agree (fun k=>S k∨k=p.1) l (ρ.put p.1 (.d p.2)) (ρ₀.put p.1 (.d p.2)) (by unfold Ro.put; rw [List.length_set,List.length_set,hl]) (fun k hk=>by
      unfold Ro.put
      rw [get_set,get_set,hl]
      by_cases q:p.1=k
      · rw [if_pos q,if_pos q]
      · rw [if_neg q,if_neg q]
        rcases hk with hk | hk
        · exact h k hk
        · exact absurd hk.symm q)
    refine ⟨ih.1,fun k hk=>ih.2 k ?_⟩
    rcases hk with hk | hk
    · exact .inl (.inl hk)
    · rcases List.mem_cons.mp hk with rfl | hk
      · exact .inl (.inr rfl)
      · exact .inr hk

theorem pairsT_ks {ks:List Nat} {d:D} {ps:List (Nat × D)} (h:pairsT ks d=some ps):ps.map (·.1)=ks:=by
  unfold pairsT at h
  cases q:one ks with
  | some k=>rw [q] at h; cases h; rw [one_inv q]; rfl
  | none =>
    rw [q] at h
    refine Xeaa (Option.bind_eq_some_iff.mp h) fun l _ e2=>?_
    refine Xaa (iteS e2) fun hl zz=>?_; subst zz
    rw [← List.unzip_fst,List.unzip_zip hl]
theorem bind_clr {ρ ρ₁:Ro} {ks:List Nat} {d:D} (h:bindT ρ ks d=some ρ₁):∃ ρ₂,bindT (clr ks ρ) ks d=some ρ₂∧∀ k,ρ₂.get k=ρ₁.get k:=by
  unfold bindT at h ⊢
  cases q:pairsT ks d with
  | none=>rw [q] at h; cases h
  | some ps =>
    rw [q] at h
    cases h
    refine ⟨_,rfl,fun j=>?_⟩
    have:=(puts_agree (fun j=>j ∉ ks) ps ρ (clr ks ρ) (clr_length _ _).symm fun k hk=>(clr_out hk).symm).2 j (by
      rw [pairsT_ks q]
      by_cases z:j ∈ ks
      · exact .inr z
      · exact .inl z)
    exact this.symm
section
variable {C:Cst} {G:Nat→D} {NM:Names} {H:Hd} {n:Nat} {sp:Sp} {A:Around} {X:Act} {lc₀ lc lc' lc'':Loc} {ρ ρ':Ro} {ow ow':Nat→Option Addr} {ol ol' ol'':List Addr} {σ σ':Store} {s₀ s s' s'':Shared}

structure COut (C:Cst) (X:Act) (lc₀:Loc) (s₀:Shared) (hid:List Addr) (lc:Loc) (ρ:Ro) (ow:Nat→Option Addr) (ol:List Addr) (s:Shared):Prop where
  f:FRel C (X.hid hid) lc ρ ow ol s.heap
  keep:Keep (lc₀.mu C) s₀.heap s.heap
  grow:Grow C lc₀ lc s₀.heap
  old:∀ b o,s₀.heap.get? b=some o→∃ o',s.heap.get? b=some o'

theorem COut.step {hid:List Addr} (hf:∀ a ∈ hid,s₀.heap.get? a=none) (t₀:St C X lc₀ ρ ow ol σ' s₀) (o:COut C X lc₀ s₀ hid lc ρ ow ol s) (g:GRel C lc σ s) (k:Keep (hid++lc.mu C) s.heap s'.heap) (gr:Grow C lc lc' s.heap)
    (od:∀ b o,s.heap.get? b=some o→∃ o',s'.heap.get? b=some o') (hc:∀ a ∈ hid,∀ o,s.heap.get? a=some o→∀ v,o.data ≠ .cell v):COut C X lc₀ s₀ hid lc' ρ ow ol s':=by
  refine ⟨o.f.move (M:=hid++lc.mu C) (hx':=hid++X.hx) k (fun a ha=>.inl ?_) (fun q=>?_) (fun a ha=>?_) (fun a ha q=>?_) gr (fun a ha=>.inl ha) (fun a ha=>?_) o.f.hxNew,?_,o.grow.transN o.old gr,fun b x e=>let ⟨o',e'⟩:=o.old b x e; od b o' e'⟩
  · unfold Act.Z
    rcases List.mem_append.mp ha with h | h
    · exact List.mem_append_right _ (List.mem_append_right _ (List.mem_append_left _ h))
    · exact List.mem_append_right _ (List.mem_append_left _ h)
  · rcases List.mem_append.mp q with h | h
    · obtain ⟨m,⟨x,_,_,e,_⟩,_⟩:=t₀.f.ns
      have:=hf _ h
      have e2:s₀.heap.get? X.env.locals=some x:=e
      rw [e2] at this; cases this
    · exact o.f.locMut h
  · rcases List.mem_append.mp ha with h | h
    · exact hc a h
    · intro x e
      refine Xeaaa (Loc.mu_obj g a h) fun y e' _ nn=>?_
      rw [e] at e'; cases e'; exact nn
  · rcases List.mem_append.mp q with h | h
    · refine Xaaaaeea (t₀.f.ownNew a ha) fun _ _ _ _ xs m e=>?_
      rw [hf a h] at e; cases e
    · exact (o.f.ownNew a ha).1 h
  · refine Xea (o.f.hxOld a ha) fun x e=>?_
    exact od a x e
  · intro b x hb e
    refine Xeaa (o.keep b x hb e) fun o₁ e₁ s₁=>?_
    have hb':b ∉ hid++lc.mu C:=fun q=>by
      rcases List.mem_append.mp q with h | h
      · rw [hf b h] at e; cases e
      · rcases o.grow.mu b h with q | q
        · exact hb q
        · rw [e] at q; cases q
    refine Xeaa (k b o₁ hb' e₁) fun o₂ e₂ s₂=>?_
    exact ⟨o₂,e₂,s₁.trans s₂⟩

theorem FRel.weaken (f:FRel C X lc ρ ow ol s.heap) (h:∀ (k:Nat) v x kd,X.sl[k]?=some (some (x,kd))→ρ'.get k=some v→ρ.get k=some v):FRel C X lc ρ' ow ol s.heap:=by
  refine Xeaa (f.ns) fun m hn hr=>?_
  exact { f with ns:=⟨m,hn,fun k v x kd e1 e2=>hr k v x kd (h k v x kd e2 e1) e2⟩,ownLoc:=fun k l x kd e1 e2=>f.ownLoc k l x kd (h k _ x kd e2 e1) e2 }
theorem St.weaken (t:St C X lc ρ ow ol σ s) (h:∀ (k:Nat) v x kd,X.sl[k]?=some (some (x,kd))→ρ'.get k=some v→ρ.get k=some v):St C X lc ρ' ow ol σ s:=⟨t.g,t.f.weaken h,t.fr⟩

noncomputable def CsOK (C:Cst) (G:Nat→D) (H:Hd) (n:Nat) (sp:Sp) (as:List Expr) (es:Es):Prop:=(as=[]∧es=.nil)∨∃ a e,as=[a]∧es=.cons e .nil∧TrOK C G H n sp a e

theorem tests_ok {as:List Expr} {es:Es} {Q:Bool→Shared→Prop} {E:Value→Shared→Prop} (h:CsOK C G H n sp as es) (hs:SpX X sp) (ha:AOK C A X n) (t:St C X lc ρ ow ol σ s) (K:Cont C X relB lc ρ ow ol s (evBs G H true es ρ σ) Q E) :
    wpAny C.M A (forIn as true fun c r=>if r=true then do let ok ← isTrue c X.env (eval c X.env); pure (ForInStep.yield ok) else pure (ForInStep.yield r)) Q E s:=by
  rcases h with ⟨rfl,rfl⟩ | ⟨a,e,rfl,rfl,h⟩
  · exact wpAny_tests_nil (K.ok true σ lc s true rfl (Ext.refl t) rfl)
  · refine wpAny_tests_one (h A X lc ρ ow ol σ s hs ha t Q E ⟨fun q=>K.nb ?_,fun b σ' lc' s' x q xt p=>K.ok b σ' lc' s' x ?_ xt p,fun k t σ' lc' s' x q=>K.ex k t σ' lc' s' x ?_⟩)
    · simp only [xBa,xBb,q]; rfl
    · simp only [xBa,xBb,q]
      show (if b=true then R.ok true σ' else R.ok b σ')=_
      by_cases hb:b=true
      · rw [if_pos hb,hb]
      · rw [if_neg hb]
    · simp only [xBa,xBb,q]; rfl

noncomputable def cAct (X:Act) (env:Env) (sl':List (Option (Str × NameKind))) (ol:List Addr):Act:={ env:=env,sl:=sl',hx:=X.M ol++X.hx,frs:=X.frs,cells:=[] }

theorem cAct_new {scope:Scope} {sl':List (Option (Str × NameKind))} {tg:Expr} {ks:List Nat} {cl:List (Str × Addr)} {Cc:Addr} {h':Heap} {tk:Nat} (hs:SpX X sp) (hc:CompSp sp scope sl' tg ks) (t:St C X lc ρ ow ol σ s) (k:∀ b o,s.heap.get? b=some o→h'.get? b=some o)
    (hcl:∀ x,(x,NameKind.free) ∈ scope.names→cl.lookup x=X.env.cells.lookup x) (hC:s.heap.get? Cc=none) (hn:h'.Ns Cc fun _=>none) :
    St C (cAct X { scope:=relabS scope sp.scope,locals:=Cc,globals:=X.env.globals,cells:=cl,qual:=X.env.qual,func:=none,code:=X.env.code,frame:=X.env.frame,builtins:=X.env.builtins } sl' ol) lc (clr ks ρ) (fun _=>none) [] σ { s with heap:=h',toks:=tk }:=by
  have hsub:Sub (fz s.heap (X.Z C lc ol)) (fz h' ((cAct X { scope:=relabS scope sp.scope,locals:=Cc,globals:=X.env.globals,cells:=cl,qual:=X.env.qual,func:=none,code:=X.env.code,frame:=X.env.frame,builtins:=X.env.builtins } sl' ol).Z C lc [])):=by
    refine Sub.step (M:=[]) (.all k) (fun _ q=>by cases q) fun a ha=>?_
    unfold Act.Z at ha ⊢
    rcases List.mem_append.mp ha with ha | ha
    · unfold Act.M cAct at ha
      simp only [List.map_nil,List.nil_append,List.mem_singleton] at ha
      exact .inr (ha ▸ hC)
    · rcases List.mem_append.mp ha with ha | ha
      · exact .inl (List.mem_append_right _ (List.mem_append_left _ ha))
      · unfold cAct at ha
        rcases List.mem_append.mp ha with ha | ha
        · exact .inl (List.mem_append_left _ ha)
        · exact .inl (List.mem_append_right _ (List.mem_append_right _ ha))
  refine ⟨t.g.keepAll k,?_,t.fr.apart (M:=[]) (fun b o _=>k b o) fun _ q=>by cases q⟩
  have f:=t.f
  refine { kind:=hc.kind,globals:=f.globals,builtins:=f.builtins,frame:=f.frame,slots:=fun k x kd e=>(hc.sl k x kd e).1,ns:=⟨_,hn,fun k v x kd e1 e2=>?_⟩,cells:=.inl rfl,cellAt:=fun q hq=>(by cases hq),cellInj:=fun q hq=>(by cases hq),slInj:=hc.inj,ownLoc:=fun k l x kd e1 e2=>?_,ownIn:=fun k a e=>(by cases e),ownInj:=fun k j a e=>(by cases e),ownNew:=fun a ha=>(by cases ha),locNew:=?_,locMut:=Loc.mu_old t.g hC,hxOld:=fun a ha=>?_,hxNew:=fun a ha=>?_ }
  · rcases (hc.sl k x kd e2).2 with h | ⟨h1,h2,h3,h4⟩
    · rw [clr_in h] at e1; cases e1
    · rw [clr_out h1] at e1
      subst h2
      refine Xeaa (f.ns) fun m hn' hr=>?_
      have hX:X.sl[k]?=some (some (x,.cell)):=by rw [hs.sl]; exact h3
      refine Xeaa (hr k v x .cell e1 hX) fun val g1 g2=>?_
      refine Xeeaaa (g1) fun c o c1 c2 c3=>?_
      refine ⟨val,⟨c,o,(hcl x h4).trans c1,‹∀ b o,s.heap.get? b=some o→h'.get? b=some o› c o c2,c3⟩,?_⟩
      have hno:locV (some v)=some v:=by
        cases v <;> first | rfl | (have:=f.ownLoc k _ x .cell e1 hX; cases this)
      exact (g2.noOwn hno).keep hsub (.refl ..) fun _ _ e=>by cases e
  · rcases (hc.sl k x kd e2).2 with h | ⟨h1,h2,h3,h4⟩
    · rw [clr_in h] at e1; cases e1
    · rw [clr_out h1] at e1
      subst h2
      have hX:X.sl[k]?=some (some (x,.cell)):=by rw [hs.sl]; exact h3
      have:=f.ownLoc k _ x .cell e1 hX
      cases this
  · cases q:C.h₀.get? Cc with
    | none=>exact q
    | some o=>have:=t.g.base _ o q; rw [hC] at this; cases this
  · have:a ∈ X.Z C lc ol:=by
      rcases List.mem_append.mp ha with h | h
      · exact List.mem_append_left _ h
      · exact List.mem_append_right _ (List.mem_append_right _ h)
    refine Xea (t.Z_old a this) fun o e=>?_
    exact ⟨o,k _ _ e⟩
  · refine t.Z_new a ?_
    rcases List.mem_append.mp ha with h | h
    · exact List.mem_append_left _ h
    · exact List.mem_append_right _ (List.mem_append_right _ h)
end
theorem bindT_out {ρ ρ₁:Ro} {ks:List Nat} {d:D} (h:bindT ρ ks d=some ρ₁) {j:Nat} (hj:j ∉ ks):ρ₁.get j=ρ.get j:=by
  unfold bindT at h
  cases q:pairsT ks d with
  | none=>rw [q] at h; cases h
  | some ps =>
    rw [q] at h
    cases h
    have hp:=pairsT_ks q
    have go:∀ (l:List (Nat × D)) (r:Ro),j ∉ l.map (·.1)→(l.foldl (fun r p=>r.put p.1 (.d p.2)) r).get j=r.get j:=by
      intro l
      induction l with
      | nil=>intro r _; rfl
      | cons p l ih =>
        intro r hl
        show (l.foldl _ (r.put p.1 (.d p.2))).get j=_
        rw [ih _ fun z=>hl (.tail _ z)]
        unfold Ro.put
        rw [get_set,if_neg fun z=>hl (by rw [← z]; exact .head _)]
    exact go ps ρ (by rw [hp]; exact hj)

section
variable {C:Cst} {G:Nat→D} {NM:Names} {H:Hd} {n:Nat} {sp:Sp} {A:Around} {X:Act} {lc₀ lc lc' lc'':Loc} {ρ ρ':Ro} {ow ow':Nat→Option Addr} {ol ol' ol'':List Addr} {σ σ':Store} {s₀ s s' s'':Shared}

theorem FRel.re {hx':List Addr} {h:Heap} {s:Shared} (e:s.heap=h) (f:FRel C X lc ρ ow ol h) (hx:∀ a ∈ hx',a ∈ X.hx):FRel C { X with hx:=hx' } lc ρ ow ol h:=by
  subst e
  exact f.move (M:=[]) (.refl _ _) (fun _ q=>by cases q) (by simp) (fun _ q=>by cases q) (fun _ _=>by simp) (.refl ..) (fun a ha=>.inl (hx a ha)) (fun a ha=>f.hxOld a (hx a ha)) (fun a ha=>f.hxNew a (hx a ha))
theorem St.re {hx':List Addr} (t:St C X lc ρ ow ol σ s) (hx:∀ a ∈ hx',a ∈ X.hx):St C { X with hx:=hx' } lc ρ ow ol σ s:=⟨t.g,t.f.re rfl hx,t.fr⟩

structure CTurn (C:Cst) (X Xc:Act) (lc₀:Loc) (ρ ρc:Ro) (ow:Nat→Option Addr) (ol:List Addr) (s₀:Shared) (wr:List Addr) (Cc D:Addr) (lc:Loc) (σ:Store) (s:Shared):Prop where
  inn:St C (Xc.hid (D :: wr)) lc ρc (fun _=>none) [] σ s
  out:COut C X lc₀ s₀ (Cc :: D :: wr) lc ρ ow ol s
  nomu:∀ b ∈ D :: wr,b ∉ lc.mu C

structure CSide (C:Cst) (Xc:Act) (s₀:Shared) (wr:List Addr) (Cc D:Addr):Prop where
  loc:Xc.env.locals=Cc
  cells:Xc.cells=[]
  hC:s₀.heap.get? Cc=none
  hD:s₀.heap.get? D=none
  hw:∀ b ∈ wr,s₀.heap.get? b=none
  CD:Cc ≠ D
  Cw:Cc ∉ wr
  Dw:D ∉ wr

section
variable {Xc:Act} {ρc:Ro} {wr:List Addr} {Cc D:Addr}

theorem CSide.fresh (z:CSide C Xc s₀ wr Cc D):∀ a ∈ Cc :: D :: wr,s₀.heap.get? a=none:=fun a ha=>by
  rcases List.mem_cons.mp ha with rfl | ha
  · exact z.hC
  · rcases List.mem_cons.mp ha with rfl | ha
    · exact z.hD
    · exact z.hw a ha
theorem nomu_step (h:∀ b ∈ D :: wr,b ∉ lc.mu C) (gr:Grow C lc lc' s.heap) (ho:∀ b ∈ D :: wr,∃ o,s.heap.get? b=some o):∀ b ∈ D :: wr,b ∉ lc'.mu C:=fun b hb q=>by
  rcases gr.mu b q with q | q
  · exact h b hb q
  · obtain ⟨o,e⟩:=ho b hb
    exact nsm q e
theorem CTurn.hid_old (T:CTurn C X Xc lc₀ ρ ρc ow ol s₀ wr Cc D lc σ s):∀ b ∈ D :: wr,∃ o,s.heap.get? b=some o:=fun b hb=>T.inn.f.hxOld b (List.mem_append_left _ hb)
theorem CTurn.outs (T:CTurn C X Xc lc₀ ρ ρc ow ol s₀ wr Cc D lc σ s) (z:CSide C Xc s₀ wr Cc D) (hl:∀ b ∈ D :: wr,∀ o,s.heap.get? b=some o→OutObj o):∀ a ∈ Cc :: D :: wr,∀ o,s.heap.get? a=some o→∀ v,o.data ≠ .cell v:=fun a ha o e=>by
  rcases List.mem_cons.mp ha with rfl | ha
  · obtain ⟨m,⟨o',es,ep,e',hd,_⟩,_⟩:=T.inn.f.ns
    have e':s.heap.get? Xc.env.locals=some o':=e'
    rw [z.loc,e] at e'
    cases e'
    intro v q
    rw [hd] at q; cases q
  · exact (hl a ha o e).2.1

theorem CTurn.ext {ρc':Ro} {owc:Nat→Option Addr} (T:CTurn C X Xc lc₀ ρ ρc ow ol s₀ wr Cc D lc σ s) (z:CSide C Xc s₀ wr Cc D) (t₀:St C X lc₀ ρ ow ol σ' s₀) (hl:∀ b ∈ D :: wr,∀ o,s.heap.get? b=some o→OutObj o)
    {σ₁:Store} (t:St C (Xc.hid (D :: wr)) lc' ρc' owc [] σ₁ s') (x:SExt C (Xc.hid (D :: wr)) lc lc' [] [] s s'):CTurn C X Xc lc₀ ρ ρc' ow ol s₀ wr Cc D lc' σ₁ s':=by
  have how:owc=fun _=>none:=by
    funext k
    cases q:owc k with
    | none=>rfl
    | some a=>exact absurd (t.f.ownIn k a q) (by simp)
  subst how
  refine ⟨t,T.out.step z.fresh t₀ T.inn.g (x.keep.mono fun a ha=>?_) x.grow x.old (T.outs z hl),nomu_step T.nomu x.grow T.hid_old⟩
  rcases List.mem_append.mp ha with h | h
  · unfold Act.M at h
    have h:a ∈ Xc.env.locals :: (Xc.cells.map (·.2)++[]):=h
    rw [z.loc,z.cells] at h
    simp at h
    subst h
    exact List.mem_append_left _ (.head _)
  · exact List.mem_append_right _ h

theorem CTurn.turn {h':Heap} {tk:Nat} (T:CTurn C X Xc lc₀ ρ ρc ow ol s₀ wr Cc D lc σ s) (z:CSide C Xc s₀ wr Cc D) (t₀:St C X lc₀ ρ ow ol σ' s₀) (hl:∀ b ∈ D :: wr,∀ o,s.heap.get? b=some o→OutObj o)
    (k:∀ b o,b ∉ D :: wr→s.heap.get? b=some o→h'.get? b=some o) (ho:∀ b ∈ D :: wr,∃ o,h'.get? b=some o):CTurn C X Xc lc₀ ρ ρc ow ol s₀ wr Cc D lc σ { s with heap:=h',toks:=tk }:=by
  have od:∀ b o,s.heap.get? b=some o→∃ o',h'.get? b=some o':=fun b o e=>by
    by_cases q:b ∈ D :: wr
    · exact ho b q
    · exact ⟨o,k b o q e⟩
  refine ⟨T.inn.turn k fun b hb=>⟨T.nomu b hb,by simp,fun q=>?_,hl b hb,ho b hb⟩,T.out.step (s':={ s with heap:=h',toks:=tk }) z.fresh t₀ T.inn.g (.of fun b o hb e=>k b o (fun q=>hb (List.mem_append_left _ (.tail _ q))) e) (.refl ..) od (T.outs z hl),T.nomu⟩
  rw [z.loc] at q
  subst q
  rcases List.mem_cons.mp hb with q | q
  · exact z.CD q
  · exact z.Cw q
end
end
theorem plain_out {h:Heap} {D:Addr} {ys:Array Value} (x:h.PlainList D ys):∃ o,h.get? D=some o∧OutObj o∧¬ isFrameObj o:=by
  refine Xea (x) fun nn e=>?_
  exact ⟨_,e,⟨fun c d q=>(by cases q),fun v q=>(by cases q),by simp [isFrameObj]⟩,by simp [isFrameObj]⟩

section
variable {C:Cst} {G:Nat→D} {NM:Names} {H:Hd} {n:Nat} {sp:Sp} {A:Around} {X:Act} {lc₀ lc lc' lc'':Loc} {ρ ρ':Ro} {ow ow':Nat→Option Addr} {ol ol' ol'':List Addr} {σ σ':Store} {s₀ s s' s'':Shared}

structure CInv (C:Cst) (X Xc:Act) (lc₀:Loc) (ρ ρc:Ro) (ow:Nat→Option Addr) (ol:List Addr) (s₀:Shared) (wr:List Addr) (Cc D:Addr) (I:List Mine.D→List Addr→Heap→Prop) (xs acc:List Mine.D) (ys:List Value) (lc:Loc) (σ:Store) (s:Shared):Prop where
  t:CTurn C X Xc lc₀ ρ ρc ow ol s₀ wr Cc D lc σ s
  i:I xs ((Xc.hid (D :: wr)).Z C lc []) s.heap
  l:s.heap.PlainList D ys.toArray
  r:relDs C (Xc.hid (D :: wr)) [] lc s.heap acc ys

section
variable {Xc:Act} {ρc:Ro} {wr:List Addr} {Cc D:Addr} {I:List Mine.D→List Addr→Heap→Prop} {xs acc:List Mine.D} {ys:List Value} {tg:Expr} {it:Value}

theorem CInv.outs (V:CInv C X Xc lc₀ ρ ρc ow ol s₀ wr Cc D I xs acc ys lc σ s) (hI:Itr C A tg it wr I):∀ b ∈ D :: wr,∀ o,s.heap.get? b=some o→OutObj o:=fun b hb o e=>by
  rcases List.mem_cons.mp hb with rfl | hb
  · refine Xeaaa (plain_out V.l) fun o' e' h _=>?_
    cases ssm e e'; exact h
  · refine Xeaa (hI.objs _ _ _ V.i b hb) fun o' e' h=>?_
    cases ssm e e'; exact h

theorem CInv.weaken (V:CInv C X Xc lc₀ ρ ρc ow ol s₀ wr Cc D I xs acc ys lc σ s) {ρc':Ro} (h:∀ (k:Nat) v x kd,Xc.sl[k]?=some (some (x,kd))→ρc'.get k=some v→ρc.get k=some v):CInv C X Xc lc₀ ρ ρc' ow ol s₀ wr Cc D I xs acc ys lc σ s :=
  ⟨⟨V.t.inn.weaken h,V.t.out,V.t.nomu⟩,V.i,V.l,V.r⟩

theorem CInv.ext {ρc':Ro} {owc:Nat→Option Addr} (V:CInv C X Xc lc₀ ρ ρc ow ol s₀ wr Cc D I xs acc ys lc σ s) (hI:Itr C A tg it wr I) (z:CSide C Xc s₀ wr Cc D) (t₀:St C X lc₀ ρ ow ol σ' s₀) {σ₁:Store} (t:St C (Xc.hid (D :: wr)) lc' ρc' owc [] σ₁ s') (x:SExt C (Xc.hid (D :: wr)) lc lc' [] [] s s') :
    CInv C X Xc lc₀ ρ ρc' ow ol s₀ wr Cc D I xs acc ys lc' σ₁ s':=by
  have nm:∀ b ∈ D :: wr,b ∉ (Xc.hid (D :: wr)).M []++lc.mu C:=fun b hb q=>by
    rcases List.mem_append.mp q with q | q
    · have q:b ∈ Xc.env.locals :: (Xc.cells.map (·.2)++[]):=q
      rw [z.loc,z.cells] at q
      simp at q
      subst q
      rcases List.mem_cons.mp hb with q | q
      · exact z.CD q
      · exact z.Cw q
    · exact V.t.nomu b hb q
  have hsub:Sub (fz s.heap ((Xc.hid (D :: wr)).Z C lc [])) (fz s'.heap ((Xc.hid (D :: wr)).Z C lc' [])):=Sub.step x.keep (fun a ha=>.inl (by
    rcases List.mem_append.mp ha with h | h
    · exact List.mem_append_left _ h
    · exact List.mem_append_right _ (List.mem_append_left _ h))) (Act.Z_step x.grow)
  refine ⟨V.t.ext z t₀ (V.outs hI) t x,hI.frame _ _ _ _ _ V.i (fun b hb o e=>?_) hsub,PlainList.keep x.keep (nm D (.head _)) V.l,RelDs.mono hsub V.r⟩
  refine Xeaa (hI.objs _ _ _ V.i b hb) fun o' e' h=>?_
  rw [e] at e'
  cases e'
  exact x.keep.get (nm b (.tail _ hb)) e h.2.2.1

structure CFin (C:Cst) (X:Act) (lc₀:Loc) (ρ:Ro) (ow:Nat→Option Addr) (ol:List Addr) (s₀:Shared) (Cc D:Addr) (acc:List Mine.D) (ys:List Value) (lc:Loc) (σ:Store) (s:Shared):Prop where
  st:St C (X.hid [Cc,D]) lc ρ ow ol σ s
  keep:Keep (lc₀.mu C) s₀.heap s.heap
  grow:Grow C lc₀ lc s₀.heap
  old:∀ b o,s₀.heap.get? b=some o→∃ o',s.heap.get? b=some o'
  l:s.heap.PlainList D ys.toArray
  r:relDs C (X.hid [Cc,D]) ol lc s.heap acc ys
  ns:∃ m,s.heap.Ns Cc m
  hC:s₀.heap.get? Cc=none
  hD:s₀.heap.get? D=none
  CD:Cc ≠ D
  mC:Cc ∉ lc.mu C
  mD:D ∉ lc.mu C

theorem CInv.fin {h':Heap} {tk:Nat} (V:CInv C X Xc lc₀ ρ ρc ow ol s₀ wr Cc D I xs acc ys lc σ s) (hI:Itr C A tg it wr I) (z:CSide C Xc s₀ wr Cc D) (t₀:St C X lc₀ ρ ow ol σ' s₀) (hfrs:Xc.frs=X.frs) (hhx:Xc.hx=X.M ol++X.hx)
    (k:∀ b o,b ∉ wr→s.heap.get? b=some o→h'.get? b=some o):CFin C X lc₀ ρ ow ol s₀ Cc D acc ys lc σ { s with heap:=h',toks:=tk }:=by
  have wold:∀ a ∈ wr,∃ o,s.heap.get? a=some o:=fun a ha=>V.t.hid_old a (.tail _ ha)
  have hloc:X.env.locals ∉ wr:=fun q=>by
    obtain ⟨m,⟨o,_,_,e,_⟩,_⟩:=t₀.f.ns
    exact nsm (z.hw _ q) e
  have hout:∀ a ∈ wr,∀ o,s.heap.get? a=some o→OutObj o:=fun a ha=>V.outs hI a (.tail _ ha)
  have f':FRel C (X.hid [Cc,D]) lc ρ ow ol h':=V.t.out.f.move (M:=wr) (hx':=[Cc,D]++X.hx) (.of k) (fun a ha=>.inl (by
      exact List.mem_append_right _ (List.mem_append_right _ (List.mem_append_left _ (.tail _ (.tail _ ha)))))) hloc (fun a ha o e=>(hout a ha o e).2.1) (fun a ha q=>by
      refine Xaaaaeea (t₀.f.ownNew a ha) fun _ _ _ _ xs nn e=>?_
      exact nsm (z.hw _ q) e) (.refl ..) (fun a ha=>.inl (by
      show a ∈ Cc :: D :: wr++X.hx
      simp only [List.mem_append,List.mem_cons,List.not_mem_nil,or_false] at ha ⊢
      rcases ha with (h | h) | h
      · exact .inl (.inl h)
      · exact .inl (.inr (.inl h))
      · exact .inr h)) (fun a ha=>by
      have hw:a ∉ wr:=fun q=>by
        rcases List.mem_append.mp ha with h | h
        · simp only [List.mem_cons,List.not_mem_nil,or_false] at h
          rcases h with rfl | rfl
          · exact z.Cw q
          · exact z.Dw q
        · refine Xea (t₀.f.hxOld a h) fun o e=>?_
          exact nsm (z.hw _ q) e
      have:a ∈ (X.hid (Cc :: D :: wr)).hx:=by
        show a ∈ Cc :: D :: wr++X.hx
        simp only [List.mem_append,List.mem_cons,List.not_mem_nil,or_false] at ha ⊢
        rcases ha with (h | h) | h
        · exact .inl (.inl h)
        · exact .inl (.inr (.inl h))
        · exact .inr h
      refine Xea (V.t.out.f.hxOld a this) fun o e=>?_
      exact ⟨o,k _ _ hw e⟩) (fun a ha=>V.t.out.f.hxNew a (by
      show a ∈ Cc :: D :: wr++X.hx
      simp only [List.mem_append,List.mem_cons,List.not_mem_nil,or_false] at ha ⊢
      rcases ha with (h | h) | h
      · exact .inl (.inl h)
      · exact .inl (.inr (.inl h))
      · exact .inr h))
  have g':GRel C lc σ { s with heap:=h',toks:=tk }:=V.t.inn.g.apart k fun a ha=>⟨V.t.nomu a (.tail _ ha),V.t.inn.f.hxNew a (List.mem_append_left _ (.tail _ ha)),fun o e=>⟨(hout a ha o e).1,(hout a ha o e).2.2.2⟩⟩
  have fr':FrOK C X.frs h':=hfrs ▸ (V.t.inn.fr.apart k hout:FrOK C Xc.frs h')
  have hsub:Sub (fz s.heap ((Xc.hid (D :: wr)).Z C lc [])) (fz h' ((X.hid [Cc,D]).Z C lc ol)):=Sub.step (M:=wr) (.of k) (fun a ha=>.inl (by
    exact List.mem_append_right _ (List.mem_append_right _ (List.mem_append_left _ (.tail _ ha))))) fun a ha=>.inl (by
    unfold Act.Z at ha ⊢
    show a ∈ (Xc.env.locals :: (Xc.cells.map (·.2)++[]))++(lc.mu C++(D :: wr++Xc.hx))
    rw [z.loc,hhx]
    have ha:a ∈ X.M ol++(lc.mu C++([Cc,D]++X.hx)):=ha
    simp only [List.mem_append,List.mem_cons,List.not_mem_nil,or_false] at ha ⊢
    rcases ha with h | h | (h | h) | h
    · exact .inr (.inr (.inr (.inl h)))
    · exact .inr (.inl h)
    · exact .inl (.inl h)
    · exact .inr (.inr (.inl (.inl h)))
    · exact .inr (.inr (.inr (.inr h))))
  refine ⟨⟨g',f',fr'⟩,fun b o hb e=>?_,V.t.out.grow,fun b o e=>?_,PlainList.keep (M:=wr) (.of k) z.Dw V.l,RelDs.mono hsub V.r,?_,z.hC,z.hD,z.CD,fun q=>?_,V.t.nomu D (.head _)⟩
  · refine Xeaa (V.t.out.keep b o hb e) fun o₁ e₁ s₁=>?_
    exact ⟨o₁,k _ _ (fun q=>nsm (z.hw _ q) e) e₁,s₁⟩
  · refine Xea (V.t.out.old b o e) fun o₁ e₁=>?_
    exact ⟨o₁,k _ _ (fun q=>nsm (z.hw _ q) e) e₁⟩
  · refine Xeaa (V.t.inn.f.ns) fun m hn _=>?_
    have hn:s.heap.Ns Xc.env.locals m:=hn
    rw [z.loc] at hn
    exact ⟨m,Ns.keep (M:=wr) (.of k) z.Cw hn⟩
  · have:=V.t.inn.f.locMut
    have h2:Xc.env.locals ∉ lc.mu C:=this
    rw [z.loc] at h2
    exact h2 q

theorem bind_inv {α β:Type} {r:R α} {f:α→Store→R β} {d:β} {σf:Store} (h:r.bind f=.ok d σf):∃ a σ,r=.ok a σ∧f a σ=.ok d σf:=by
  cases r with
  | ok a σ=>exact ⟨a,σ,rfl,h⟩
  | exc=>cases h
  | bad=>cases h
theorem compF_len {bnd:Mine.D→Option Ro} {cond:Ro→Store→R Bool} {elt:Ro→Store→R Mine.D} {d:Mine.D} {σf:Store}:∀ {xs acc:List Mine.D} {σ:Store},compF bnd cond elt xs acc σ=.ok d σf→acc.length ≤ LIM
  | [],acc,σ,h=>by
    have h:(if acc.length ≤ LIM then R.ok (Mine.D.lst acc) σ else .bad)=.ok d σf:=h
    by_cases q:acc.length ≤ LIM
    · exact q
    · rw [if_neg q] at h; cases h
  | x :: xs,acc,σ,h=>by
    have h:(match bnd x with | none=>R.bad | some ρ=>(cond ρ σ).bind fun c σ₁=>match c with
      | true=>(elt ρ σ₁).bind fun y σ₂=>compF bnd cond elt xs (acc++[y]) σ₂
      | false=>compF bnd cond elt xs acc σ₁)=.ok d σf:=h
    cases q:bnd x with
    | none=>rw [q] at h; cases h
    | some ρ =>
      rw [q] at h
      refine Xeeaa (bind_inv h) fun c σ₁ _ h=>?_
      cases c with
      | false=>exact compF_len h
      | true=>exact Xeeaa (bind_inv h) fun y σ₂ _ h=>Nat.le_trans (by rw [List.length_append]; exact Nat.le_add_right _ _) (compF_len h)

theorem comp_loop {scope:Scope} {sl':List (Option (Str × NameKind))} {ks:List Nat} {elt iter:Expr} {ifs:List Expr} {pos:Pos} {e:Mine.E} {es:Es} {R:Result→Shared→Prop} {dfin:Mine.D} {σf:Store}
    (hc:CompSp sp scope sl' tg ks) (he:EvOK C G H n (spC sp scope sl') elt e) (hi:CsOK C G H n (spC sp scope sl') ifs es) (hs:SpX Xc (spC sp scope sl')) (ha:AOK C A Xc n) (hI:Itr C A tg it wr I)
    (z:CSide C Xc s₀ wr Cc D) (t₀:St C X lc₀ ρ ow ol σ' s₀) (hfrs:Xc.frs=X.frs) (hhx:Xc.hx=X.M ol++X.hx)
    (hR:∀ acc ys lc s',dfin=.lst acc→acc.length ≤ LIM→CFin C X lc₀ ρ ow ol s₀ Cc D acc ys lc σf s'→R (.ok .next) s')
    (V:CInv C X Xc lc₀ ρ (clr ks ρ) ow ol s₀ wr Cc D I xs acc ys lc σ s) (hF:compF (bindT ρ ks) (fun ρ σ=>evBs G H true es ρ σ) (fun ρ σ=>toD (evE G H e ρ σ)) xs acc σ=.ok dfin σf) :
    codeAny C.M A (.compLoop (.ListComp elt [⟨tg,iter,ifs,0⟩] scope pos) 0 it (.ref D) Xc.env) R s:=by
  refine codeAny_compLoop_go (fun m s=>∃ xs acc ys lc σ,m=xs.length∧CInv C X Xc lc₀ ρ (clr ks ρ) ow ol s₀ wr Cc D I xs acc ys lc σ s∧compF (bindT ρ ks) (fun ρ σ=>evBs G H true es ρ σ) (fun ρ σ=>toD (evE G H e ρ σ)) xs acc σ=.ok dfin σf) ?_ xs.length ⟨xs,acc,ys,lc,σ,rfl,V,hF⟩
  clear V hF
  rintro m s ⟨xs,acc,ys,lc,σ,rfl,V,hF⟩
  cases xs with
  | nil =>
    unfold compF at hF
    split at hF
    · rename_i hlen
      cases hF
      refine wpAny_mono (hI.done _ s (fun s₁=>R (.ok .next) s₁) _ V.i fun h' tk k=>hR acc ys lc _ rfl hlen (V.fin hI z t₀ hfrs hhx k)) (fun r s₁ ⟨e,q⟩=>by subst e; exact q) fun _ _ x=>x
    · cases hF
  | cons x xs =>
    have hlen:=compF_len hF
    unfold compF at hF
    cases qb:bindT ρ ks x with
    | none=>rw [qb] at hF; cases hF
    | some ρ₁ =>
      rw [qb] at hF
      have hF:(evBs G H true es ρ₁ σ).bind _=_:=hF
      obtain ⟨ρ₂,hb2,hag⟩:=bind_clr qb
      have back:∀ (k:Nat) v y kd,Xc.sl[k]?=some (some (y,kd))→(clr ks ρ).get k=some v→ρ₁.get k=some v:=fun k v y kd _ e2=>by
        by_cases hk:k ∈ ks
        · exact nsm (clr_in hk) e2
        · rw [clr_out hk] at e2
          rw [bindT_out qb hk]; exact e2
      have key:=fun Q hQ=>hI.item x xs _ s Q (fun _ _=>False) V.i (fun b hb=>by
        exact List.mem_append_right _ (List.mem_append_right _ (List.mem_append_left _ (.tail _ hb)))) hQ
      refine wpAny_mono (key ?QQ ?h1) ?h2 fun _ _ x=>x
      case h2 =>
        intro r s₁ h
        refine Xeaa (h) fun v zz1 q=>?_; subst zz1
        exact q
      · intro v h' tk hv hi' k
        have k':∀ b o,b ∉ D :: wr→s.heap.get? b=some o→h'.get? b=some o:=fun b o hb e=>k b o (fun q=>hb (.tail _ q)) e
        have hl':h'.PlainList D ys.toArray:=PlainList.keep (M:=wr) (.of k) z.Dw V.l
        have T₁:=V.t.turn (tk:=tk) z t₀ (V.outs hI) k' fun b hb=>by
          rcases List.mem_cons.mp hb with rfl | hb
          · refine Xeaa (plain_out hl') fun o e _=>?_
            exact ⟨o,e⟩
          · refine Xeaa (hI.objs _ _ _ hi' b hb) fun o e _=>?_
            exact ⟨o,e⟩
        have V₁:CInv C X Xc lc₀ ρ (clr ks ρ) ow ol s₀ wr Cc D I xs acc ys lc σ { s with heap:=h',toks:=tk }:=⟨T₁,hi',hl',RelDs.mono (Sub.step (M:=wr) (.of k) (fun a ha=>.inl (by
          exact List.mem_append_right _ (List.mem_append_right _ (List.mem_append_left _ (.tail _ ha))))) fun _=>.inl) V.r⟩
        refine tg_okI (X:=Xc.hid (D :: wr)) ha.handled hc.tg ⟨hs.scope,hs.sl,hs.cn,hs.code,hs.qual⟩ T₁.inn hv hb2 fun s₂ ow₂ t₂ x₂=>?_
        have V₂:=(V₁.ext hI z t₀ t₂ x₂).weaken (ρc':=ρ₁) fun k v y kd _ e=>by rw [hag]; exact e
        have hs':SpX (Xc.hid (D :: wr)) (spC sp scope sl'):=⟨hs.scope,hs.sl,hs.cn,hs.code,hs.qual⟩
        have ha':AOK C A (Xc.hid (D :: wr)) n:=⟨ha.handled,ha.frames,ha.depth,ha.units⟩
        refine tests_ok (X:=Xc.hid (D :: wr)) hi hs' ha' V₂.t.inn ⟨fun q=>?_,fun b σ₃ lc₃ s₃ c q xt p=>?_,fun k t σ' lc' s' ee q=>?_⟩
        · rw [q] at hF; cases hF
        · subst p
          rw [q] at hF
          have V₃:=V₂.ext hI z t₀ xt.st (xt.sext V₂.t.inn)
          cases b with
          | false =>
            rw [if_neg (by simp)]
            exact ⟨xs.length,Nat.lt_succ_self _,xs,acc,ys,lc₃,σ₃,rfl,V₃.weaken back,hF⟩
          | true =>
            rw [if_pos rfl]
            have hF:(toD (evE G H e ρ₁ σ₃)).bind _=_:=hF
            refine (he A _ lc₃ ρ₁ _ _ σ₃ s₃ hs' ha' V₃.t.inn).toD _ _ ⟨fun q=>?_,fun y σ₄ lc₄ s₄ v q xt p=>?_,fun k t σ' lc' s' ee q=>?_⟩
            · rw [q] at hF; cases hF
            · rw [q] at hF
              have V₄:=V₃.ext hI z t₀ xt.st (xt.sext V₃.t.inn)
              refine Xea (V₄.l) fun nn e₄=>?_
              refine append_at e₄ (fun h₅ hs₅ hD₅=>?_) (by rw [List.size_toArray,← V₄.r.length]; exact lim_size hlen)
              have k₅:∀ b o,b ∉ D :: wr→s₄.heap.get? b=some o→h₅.get? b=some o:=fun b o hb e=>hs₅.extBut b o (fun q=>hb (by rw [q]; exact .head _)) e
              have k₆:∀ b ∈ wr,∀ o,s₄.heap.get? b=some o→h₅.get? b=some o:=fun b hb o e=>hs₅.extBut b o (fun q=>z.Dw (q ▸ hb)) e
              have hsub:Sub (fz s₄.heap ((Xc.hid (D :: wr)).Z C lc₄ [])) (fz h₅ ((Xc.hid (D :: wr)).Z C lc₄ [])):=Sub.step (M:=[D]) (.same hs₅ (.head _)) (fun a ha=>.inl (by
                rw [List.mem_singleton.mp ha]
                exact List.mem_append_right _ (List.mem_append_right _ (List.mem_append_left _ (.head _))))) fun _=>.inl
              have T₅:=V₄.t.turn (h':=h₅) (tk:=s₄.toks) z t₀ (V₄.outs hI) k₅ fun b hb=>by
                rcases List.mem_cons.mp hb with rfl | hb
                · exact ⟨_,hD₅⟩
                · refine Xeaa (hI.objs _ _ _ V₄.i b hb) fun o e _=>?_
                  exact ⟨o,k₆ b hb o e⟩
              have V₅:CInv C X Xc lc₀ ρ ρ₁ ow ol s₀ wr Cc D I xs (acc++[y]) (ys++[v]) lc₄ σ₄ { s₄ with heap:=h₅,toks:=s₄.toks } :=
                ⟨T₅,hI.frame _ _ _ _ _ V₄.i k₆ hsub,⟨nn + 1,by rw [hD₅]; simp⟩,RelDs.mono hsub (V₄.r.append (.cons p .nil))⟩
              exact ⟨xs.length,Nat.lt_succ_self _,xs,acc++[y],ys++[v],lc₄,σ₄,rfl,V₅.weaken back,hF⟩
            · rw [q] at hF; cases hF
        · rw [q] at hF; cases hF
end
end
section
variable {C:Cst} {G:Nat→D} {NM:Names} {H:Hd} {n:Nat} {sp:Sp} {A:Around} {X:Act} {lc₀ lc lc₁ lc' lc'':Loc} {ρ ρ':Ro} {ow ow':Nat→Option Addr} {ol ol' ol'':List Addr} {σ σ₁ σ':Store} {s₀ s₁ s s' s'':Shared}

theorem St.clear {Cc:Addr} {h':Heap} {tk:Nat} {m:Str→Option Value} (t:St C (X.hid [Cc]) lc ρ ow ol σ s) (hn:s.heap.Ns Cc m) (hfr:∀ e ∈ X.frs,e.frame ≠ some Cc) (h1:Cc ∉ lc.mu C) (h2:Cc ∉ X.M ol) (h3:Cc ∉ X.hx) (hsb:Heap.SameBut Cc s.heap h') :
    St C X lc ρ ow ol σ { s with heap:=h',toks:=tk }:=by
  have k:∀ b o,b ∉ [Cc]→s.heap.get? b=some o→h'.get? b=some o:=fun b o hb e=>hsb.extBut b o (fun q=>hb (by rw [q]; exact .head _)) e
  refine Xeeeaaa (hn) fun o es ep ho hd _=>?_
  have hob:∀ a ∈ [Cc],∀ o',s.heap.get? a=some o'→o'=o:=fun a ha o' e=>by
    rw [List.mem_singleton.mp ha] at e; cases ssm ho e; rfl
  refine ⟨t.g.apart k fun a ha=>?_,t.f.move (M:=[Cc]) (hx':=X.hx) (.of k) (fun a ha=>.inl (List.mem_append_right _ (List.mem_append_right _ (List.mem_append_left _ ha)))) (fun q=>h2 ?_) (fun a ha o' e v q=>?_) (fun a ha q=>h2 ?_) (.refl ..) (fun a ha=>.inl (List.mem_append_right _ ha)) (fun a ha=>?_) (fun a ha=>t.f.hxNew a (List.mem_append_right _ ha)),?_⟩
  · rw [List.mem_singleton.mp ha]
    refine ⟨h1,t.f.hxNew Cc (List.mem_append_left _ (.head _)),fun o' e=>?_⟩
    rw [ho] at e
    cases e
    exact ⟨fun c d q=>by (subst q; cases hd),fun q=>by obtain ⟨_,_,q⟩:=q; rw [hd] at q; cases q⟩
  · rw [← List.mem_singleton.mp q]
    exact .head _
  · rw [hob a ha o' e,hd] at q; cases q
  · rw [← List.mem_singleton.mp q]
    exact .tail _ (List.mem_append_right _ ha)
  · refine Xea (t.f.hxOld a (List.mem_append_right _ ha)) fun o' e=>?_
    exact ⟨o',k _ _ (fun q=>h3 (by rw [← List.mem_singleton.mp q]; exact ha)) e⟩
  · intro e he
    refine Xaeeaaaaa (t.fr e he) fun f1 L o' f2 f3 f4 f5 f6=>?_
    exact ⟨f1,L,o',f2,k L o' (fun q=>hfr e he (by rw [f2,List.mem_singleton.mp q])) f3,f4,f5,f6⟩

theorem fr_fresh {Cc:Addr} (t:St C X lc ρ ow ol σ s) (h:s.heap.get? Cc=none):∀ e ∈ X.frs,e.frame ≠ some Cc:=fun e he q=>by
  refine Xaeeaaa (t.fr e he) fun _ L o f2 f3 _=>?_
  rw [f2] at q
  cases q
  exact nsm h f3
theorem M_fresh {Cc:Addr} (t:St C X lc ρ ow ol σ s) (h:s.heap.get? Cc=none):Cc ∉ X.M ol∧Cc ∉ X.hx:=by
  have:=t.fresh h
  unfold Act.Z at this
  exact ⟨fun q=>this (List.mem_append_left _ q),fun q=>this (List.mem_append_right _ (List.mem_append_right _ q))⟩

structure CDone (C:Cst) (X:Act) (lc₀:Loc) (ρ:Ro) (ow:Nat→Option Addr) (ol:List Addr) (s₀:Shared) (D:Addr) (acc:List Mine.D) (ys:List Value) (lc:Loc) (σ:Store) (s:Shared):Prop where
  st:St C (X.hid [D]) lc ρ ow ol σ s
  keep:Keep (lc₀.mu C) s₀.heap s.heap
  grow:Grow C lc₀ lc s₀.heap
  l:s.heap.PlainList D ys.toArray
  r:relDs C (X.hid [D]) ol lc s.heap acc ys
  hD:s₀.heap.get? D=none
  mD:D ∉ lc.mu C

theorem CFin.done {Cc D:Addr} {acc:List Mine.D} {ys:List Value} {h':Heap} {tk:Nat} (F:CFin C X lc₀ ρ ow ol s₀ Cc D acc ys lc σ s) (t₀:St C X lc₀ ρ ow ol σ' s₀) (hsb:Heap.SameBut Cc s.heap h'):CDone C X lc₀ ρ ow ol s₀ D acc ys lc σ { s with heap:=h',toks:=tk }:=by
  refine Xea (F.ns) fun m hn=>?_
  refine Xaa (M_fresh t₀ F.hC) fun c1 c2=>?_
  have c3:Cc ∉ (X.hid [D]).hx:=fun q=>by
    rcases List.mem_cons.mp q with q | q
    · exact F.CD q
    · exact c2 q
  refine ⟨St.clear (X:=X.hid [D]) F.st hn (fr_fresh (X:=X) t₀ F.hC:∀ e ∈ X.frs,e.frame ≠ some Cc) F.mC c1 c3 hsb,fun b o hb e=>?_,F.grow,F.l.extBut hsb.extBut (Ne.symm F.CD),RelDs.mono (Sub.step (M:=[Cc]) (.same hsb (.head _)) (fun a ha=>.inl ?_) fun a ha=>.inl ?_) F.r,F.hD,F.mD⟩
  · refine Xeaa (F.keep b o hb e) fun o' e' h=>?_
    exact ⟨o',hsb.extBut _ _ (fun q=>by subst q; exact nsm F.hC e) e',h⟩
  · rw [List.mem_singleton.mp ha]
    exact List.mem_append_right _ (List.mem_append_right _ (List.mem_append_left _ (.head _)))
  · unfold Act.Z at ha ⊢
    have ha:a ∈ X.M ol++(lc.mu C++([D]++X.hx)):=ha
    show a ∈ X.M ol++(lc.mu C++([Cc,D]++X.hx))
    simp only [List.mem_append,List.mem_cons,List.not_mem_nil,or_false] at ha ⊢
    rcases ha with h | h | h | h
    · exact .inl h
    · exact .inr (.inl h)
    · exact .inr (.inr (.inl (.inr h)))
    · exact .inr (.inr (.inr h))

theorem CDone.fin {D:Addr} {acc:List Mine.D} {ys:List Value} (F:CDone C X lc₀ ρ ow ol s₀ D acc ys lc σ s) (t₀:St C X lc₀ ρ ow ol σ' s₀):Ext C X lc₀ lc ρ ow ol σ s₀ s∧relD C X ol lc s.heap (.lst acc) (.ref D):=by
  refine Xaa (M_fresh t₀ F.hD) fun c1 c2=>?_
  refine ⟨⟨F.st.unhide,F.keep,F.grow⟩,?_⟩
  refine Xea (F.l) fun nn e=>?_
  refine .lst ⟨_,fz_get.mpr ⟨e,fun q=>?_⟩,rfl,nn,rfl⟩ (RelDs.mono (Sub.of_fz fun a ha=>?_) F.r)
  · unfold Act.Z at q
    rcases List.mem_append.mp q with q | q
    · exact c1 q
    · rcases List.mem_append.mp q with q | q
      · exact F.mD q
      · exact c2 q
  · unfold Act.Z at ha ⊢
    rcases List.mem_append.mp ha with h | h
    · exact List.mem_append_left _ h
    · rcases List.mem_append.mp h with h | h
      · exact List.mem_append_right _ (List.mem_append_left _ h)
      · exact List.mem_append_right _ (List.mem_append_right _ (List.mem_append_right _ h))

theorem comp_clos {scope:Scope} {sl':List (Option (Str × NameKind))} {tg:Expr} {ks:List Nat} (hs:SpX X sp) (hc:CompSp sp scope sl' tg ks) (t:St C X lc ρ ow ol σ s):∃ cl,closureFor scope X.env=pure cl∧∀ x,(x,NameKind.free) ∈ scope.names→cl.lookup x=X.env.cells.lookup x:=by
  have:∀ x ∈ scope.names,x.2=.free→∃ a,X.env.cells.lookup x.1=some a:=fun x hx q=>by
    have:=hc.free x hx q
    rw [← hs.cn] at this
    refine Xeaa (List.mem_map.mp this) fun q hq e=>?_
    exact ⟨q.2,by rw [← e]; exact (t.f.cellAt q hq).1⟩
  refine Xea (closL_some (lk:=fun x=>X.env.cells.lookup x) scope.names [] this) fun cl hcl=>?_
  refine ⟨cl,closureFor_eq hcl,fun x hx=>?_⟩
  refine Xaa (closL_lookup _ _ _ hcl fun n a q=>by cases q) fun h1 h2=>?_
  have:=h2 x (.inl hx)
  refine Xea (Option.isSome_iff_exists.mp this) fun a e=>?_
  rw [e,h1 _ _ e]

theorem comp_core {scope:Scope} {sl':List (Option (Str × NameKind))} {tg:Expr} {ks:List Nat} {elt iter:Expr} {ifs:List Expr} {pos:Pos} {e:Mine.E} {es:Es} {P:Value→Addr→Result→Shared→Prop} {dfin:Mine.D} {σf:Store} {cl:List (Str × Addr)} {xs:List Mine.D} {it:Value} {wr:List Addr} {I:List Mine.D→List Addr→Heap→Prop} {E:Value→Shared→Prop}
    (hc:CompSp sp scope sl' tg ks) (he:EvOK C G H n (spC sp scope sl') elt e) (hi:CsOK C G H n (spC sp scope sl') ifs es) (hs:SpX X sp) (ha:AOK C A X n) (hI:Itr C A tg it wr I)
    (t₀:St C X lc₀ ρ ow ol σ' s₀) (xt:Ext C X lc₀ lc₁ ρ ow ol σ₁ s₀ s₁) (hi₁:I xs ((X.hid wr).Z C lc₁ ol) s₁.heap) (tw:St C (X.hid wr) lc₁ ρ ow ol σ₁ s₁) (hw:∀ b ∈ wr,s₀.heap.get? b=none) (hmu:∀ b ∈ wr,b ∉ lc₁.mu C)
    (hcl:∀ x,(x,NameKind.free) ∈ scope.names→cl.lookup x=X.env.cells.lookup x)
    (hF:compF (bindT ρ ks) (fun ρ σ=>evBs G H true es ρ σ) (fun ρ σ=>toD (evE G H e ρ σ)) xs [] σ₁=.ok dfin σf)
    (hP:∀ Cc D acc ys lc s',dfin=.lst acc→acc.length ≤ LIM→CFin C X lc₀ ρ ow ol s₀ Cc D acc ys lc σf s'→P (.ref D) Cc (.ok .next) s') :
    wpAny C.M A (newList []) (fun acc s₃=>wpAny C.M A (newFunctionEnv scope X.env.globals cl [] X.env.qual none .none (some X.env)) (fun cenv s₄ =>
      codeAny C.M A (.compStart (.ListComp elt [⟨tg,iter,ifs,0⟩] scope pos) 0 it acc { cenv with scope:=relabel scope X.env }) (P acc cenv.locals) s₄) E s₃) E s₁:=by
  refine wpAny_newObj_type (wpAny_newFunctionEnv hc.nocell (by intro y hy; cases hy) (fun h₁ hns hsb=>?_) hc.kind)
  have hDn:=none_at_end s₁.heap
  have hCn:s₁.heap.get? (s₁.heap.push { cls:=.type "list",dict:=none,data:=.seq #[] }).objs.size=none:=Heap.get?_none_of_le (by rw [Heap.size_push]; lia)
  generalize hH2:s₁.heap.push { cls:=.type "list",dict:=none,data:=.seq #[] }=H2 at *
  have k12:∀ b o,s₁.heap.get? b=some o→H2.get? b=some o:=fun b o e=>hH2 ▸ Heap.get?_push_of_some _ e
  have hD2:H2.get? s₁.heap.objs.size=some { cls:=.type "list",dict:=none,data:=.seq #[] }:=hH2 ▸ Heap.get?_push_size _ rfl
  have hC2:H2.get? H2.objs.size=none:=none_at_end _
  have hCD:H2.objs.size ≠ s₁.heap.objs.size:=by rw [← hH2,Heap.size_push]; lia
  have k23:∀ b o,H2.get? b=some o→h₁.get? b=some o:=fun b o e=>hsb.extBut b o (fun q=>by rw [q] at e; exact nsm hC2 e) (Heap.get?_push_of_some _ e)
  have k13:∀ b o,s₁.heap.get? b=some o→h₁.get? b=some o:=fun b o e=>k23 b o (k12 b o e)
  generalize hDd:s₁.heap.objs.size=D at *
  generalize hCc:H2.objs.size=Cc at *
  have hn:h₁.Ns Cc fun _=>none:=hns
  have hCo:∃ o,h₁.get? Cc=some o:=let ⟨o,_,_,e,_⟩:=hn; ⟨o,e⟩
  have t2:St C ((X.hid wr).hid [D]) lc₁ ρ ow ol σ₁ { s₁ with heap:=H2,toks:=s₁.toks }:=tw.hide k12 fun b hb=>by
    rw [List.mem_singleton.mp hb]
    exact ⟨hDn,_,hD2⟩
  have tc:=cAct_new (tk:=s₁.toks + ([]:List (Str × Value)).length) (X:=(X.hid wr).hid [D]) ⟨hs.scope,hs.sl,hs.cn,hs.code,hs.qual⟩ hc t2 k23 hcl hC2 hn
  have e1:relabel scope X.env=relabS scope sp.scope:=by rw [relab_eq,hs.scope]
  let Xc:Act:=cAct X { scope:=relabS scope sp.scope,locals:=Cc,globals:=X.env.globals,cells:=cl,qual:=X.env.qual,func:=none,code:=X.env.code,frame:=X.env.frame,builtins:=X.env.builtins } sl' ol
  have inn:St C (Xc.hid (D :: wr)) lc₁ (clr ks ρ) (fun _=>none) [] σ₁ { s₁ with heap:=h₁,toks:=s₁.toks + ([]:List (Str × Value)).length }:=tc.re fun a ha=>by
    have ha:a ∈ D :: wr++(X.M ol++X.hx):=ha
    show a ∈ X.M ol++([D]++(wr++X.hx))
    simp only [List.mem_append,List.mem_cons,List.not_mem_nil,or_false] at ha ⊢
    rcases ha with (h | h) | h | h
    · exact .inr (.inl h)
    · exact .inr (.inr (.inl h))
    · exact .inl h
    · exact .inr (.inr (.inr h))
  have outSt:St C ((X.hid wr).hid [Cc,D]) lc₁ ρ ow ol σ₁ { s₁ with heap:=h₁,toks:=s₁.toks + ([]:List (Str × Value)).length }:=tw.hide k13 fun b hb=>by
    simp only [List.mem_cons,List.not_mem_nil,or_false] at hb
    rcases hb with rfl | rfl
    · exact ⟨hCn,hCo⟩
    · exact ⟨hDn,_,k23 _ _ hD2⟩
  have z:CSide C Xc s₀ wr Cc D:=by
    refine ⟨rfl,rfl,old_none (xt.old t₀) hCn,old_none (xt.old t₀) hDn,hw,hCD,fun q=>?_,fun q=>?_⟩
    · refine Xea (tw.f.hxOld Cc (List.mem_append_left _ q)) fun o e=>?_
      exact nsm hCn e
    · refine Xea (tw.f.hxOld D (List.mem_append_left _ q)) fun o e=>?_
      exact nsm hDn e
  have T:CTurn C X Xc lc₀ ρ (clr ks ρ) ow ol s₀ wr Cc D lc₁ σ₁ { s₁ with heap:=h₁,toks:=s₁.toks + ([]:List (Str × Value)).length }:=by
    refine ⟨inn,⟨outSt.f,xt.keep.trans (.all k13),xt.grow,fun b o e=>?_⟩,fun b hb=>?_⟩
    · refine Xea (xt.old t₀ b o e) fun o' e'=>?_
      exact ⟨o',k13 _ _ e'⟩
    · rcases List.mem_cons.mp hb with rfl | hb
      · exact Loc.mu_old tw.g hDn
      · exact hmu b hb
  have V:CInv C X Xc lc₀ ρ (clr ks ρ) ow ol s₀ wr Cc D I xs [] [] lc₁ σ₁ { s₁ with heap:=h₁,toks:=s₁.toks + ([]:List (Str × Value)).length }:=by
    refine ⟨T,hI.frame _ _ _ _ _ hi₁ (fun b _ o e=>k13 b o e) (Sub.step (M:=[]) (.all k13) (fun _ q=>by cases q) fun a ha=>?_),⟨0,k23 _ _ hD2⟩,.nil⟩
    unfold Act.Z at ha ⊢
    have ha:a ∈ (Cc :: ([]++[]))++(lc₁.mu C++(D :: wr++(X.M ol++X.hx))):=ha
    show a ∈ X.M ol++(lc₁.mu C++(wr++X.hx))∨_
    simp only [List.mem_append,List.mem_cons,List.not_mem_nil,or_false] at ha ⊢
    rcases ha with h | h | (h | h) | h | h
    · exact .inr (h ▸ hCn)
    · exact .inl (.inr (.inl h))
    · exact .inr (h ▸ hDn)
    · exact .inl (.inr (.inr (.inl h)))
    · exact .inl (.inl h)
    · exact .inl (.inr (.inr (.inr h)))
  rw [e1]
  have hsX:SpX Xc (spC sp scope sl'):=⟨rfl,rfl,rfl,hs.code,hs.qual⟩
  have haX:AOK C A Xc n:=⟨ha.handled,ha.frames,ha.depth,ha.units⟩
  have loop:codeAny C.M A (.compLoop (.ListComp elt [⟨tg,iter,ifs,0⟩] scope pos) 0 it (.ref D) Xc.env) (P (.ref D) Cc) { s₁ with heap:=h₁,toks:=s₁.toks + ([]:List (Str × Value)).length } :=
    comp_loop (Xc:=Xc) hc he hi hsX haX hI z t₀ rfl rfl (fun acc ys lc s' a b c=>hP Cc D acc ys lc s' a b c) V hF
  exact codeAny_compStart_list loop (hI.self _ _ _ _ _ V.i loop)

theorem ev_comp {scope:Scope} {sl':List (Option (Str × NameKind))} {tg:Expr} {ks:List Nat} {elt iter:Expr} {ifs:List Expr} {pos:Pos} {e:Mine.E} {es:Es} {i:It}
    (hc:CompSp sp scope sl' tg ks) (hfs:∀ env x,foldedSetIterable iter env x=pure x) (he:EvOK C G H n (spC sp scope sl') elt e) (hi:CsOK C G H n (spC sp scope sl') ifs es) (hit:ItOK C G H n sp tg iter i) :
    EvOK C G H n sp (.ListComp elt [⟨tg,iter,ifs,0⟩] scope pos) (.comp e ks i es):=fun A X lc ρ ow ol σ s hs ha t Q E K=>by
  rw [eval_ListComp]
  refine Xeaa (comp_clos hs hc t) fun cl hclos hcl=>?_
  refine wpAny_comprehension_free (use:=none) rfl (hfs _) hclos hc.kind hc.names (hit A X lc ρ ow ol σ s _ _ hs ha t ⟨fun q=>K.nb ?_,fun xs σ₁ lc₁ s₁ it wr I q xt hI hi₁ tw hw hmu=>?_,fun k t σ' lc' s' e q=>K.ex k t σ' lc' s' e ?_⟩)
  · simp only [xEz,q]; rfl
  · have e0:evE G H (.comp e ks i es) ρ σ=noExc (compF (bindT ρ ks) (fun ρ σ=>evBs G H true es ρ σ) (fun ρ σ=>toD (evE G H e ρ σ)) xs [] σ₁):=by simp only [xEz,q]; rfl
    cases hF:compF (bindT ρ ks) (fun ρ σ=>evBs G H true es ρ σ) (fun ρ σ=>toD (evE G H e ρ σ)) xs [] σ₁ with
    | ok d σf =>
      rw [hF] at e0
      refine comp_core hc he hi hs ha hI t xt hi₁ tw hw hmu hcl hF fun Cc D acc ys lc s' e hl F=>?_
      refine Xea (F.ns) fun m hn=>?_
      refine ⟨m,hn,fun h' hsb=>?_⟩
      refine Xaa ((F.done (tk:=s'.toks) t hsb).fin t) fun x1 x2=>?_
      subst e
      exact K.ok (.d (.lst acc)) σf lc _ _ e0 x1 x2
    | exc _ _ _=>rw [hF] at e0; exact absurd e0 K.nb
    | bad=>rw [hF] at e0; exact absurd e0 K.nb
  · simp only [xEz,q]; rfl
end
section
variable {C:Cst} {G:Nat→D} {NM:Names} {H:Hd} {n:Nat} {sp:Sp} {A:Around} {X:Act} {lc₀ lc lc₁ lc' lc'':Loc} {ρ ρ':Ro} {ow ow':Nat→Option Addr} {ol ol' ol'':List Addr} {σ σ₁ σ':Store} {s₀ s₁ s s' s'':Shared}

theorem swaps_comp {elt:Expr} {gens:List Comprehension} {scope:Scope} {pos py:Pos} {y:Str} {line:Nat} {env:Env} (hk:env.scope.kind=.function) (hy:env.kindOf y=some .local) (h:(py.line == pos.line && !(scope.names.any fun x=>x.1 == y && (x.2 == .local || x.2 == .cell)))=true) :
    swapsWith (.ListComp elt gens scope pos) (some (.Name y py)) line env=pure true:=by
  rw [Bool.and_eq_true] at h
  have h1:(py.line == (Expr.ListComp elt gens scope pos).pos.line)=true:=h.1
  have e:swapsWith (.ListComp elt gens scope pos) (some (.Name y py)) line env=pure (env.blockKind == .function && env.kindOf y == some .local && py.line == (Expr.ListComp elt gens scope pos).pos.line
      && !(scope.names.any fun x=>x.1 == y && (x.2 == .local || x.2 == .cell))):=rfl
  rw [e,h1,h.2,hy]
  unfold Env.blockKind
  rw [hk]
  rfl

theorem s_asgComp {N:Nat} {scope:Scope} {sl':List (Option (Str × NameKind))} {tg:Expr} {ks:List Nat} {elt iter:Expr} {ifs:List Expr} {pos py spos:Pos} {e:Mine.E} {es:Es} {i:It} {k:Nat} {y:Str}
    (hc:CompSp sp scope sl' tg ks) (hfs:∀ env x,foldedSetIterable iter env x=pure x) (he:EvOK C G H n (spC sp scope sl') elt e) (hi:CsOK C G H n (spC sp scope sl') ifs es) (hit:ItOK C G H n sp tg iter i)
    (hk:sp.sl[k]?=some (some (y,.local))) (hsw:(py.line == pos.line && !(scope.names.any fun x=>x.1 == y && (x.2 == .local || x.2 == .cell)))=true) :
    SOK C G H n N sp (.Assign [.Name y py] (.ListComp elt [⟨tg,iter,ifs,0⟩] scope pos) spos) (.asg k (.comp e ks i es)):=fun A X lc ρ ow ol σ s Q E hs ha t K=>by
  have hy:X.env.kindOf y=some .local:=t.f.slots k y .local (by rw [hs.sl]; exact hk)
  rw [exec_Assign_Name_used _ _ _ _ (swaps_comp t.f.kind hy hsw)]
  refine wpAny_bind (wpAny_standAt (wpAny_bind ?_))
  show wpAny _ A (do let _ ← comprehension (.ListComp elt [⟨tg,iter,ifs,0⟩] scope pos) scope X.env _ (newList []) false (eval iter X.env) (some (assign (.Name y py) X.env))) _ _ s
  refine Xeaa (comp_clos hs hc t) fun cl hclos hcl=>?_
  refine wpAny_bind (wpAny_mono (wpAny_comprehension_free (use:=some (assign (.Name y py) X.env)) (Q:=fun _ s'=>Q .next s') rfl (hfs _) hclos hc.kind hc.names
    (hit A X lc ρ ow ol σ s _ _ hs ha t ⟨fun q=>K.nb ?_,fun xs σ₁ lc₁ s₁ it wr I q xt hI hi₁ tw hw hmu=>?_,fun k t' σ' lc' s' e q xt xa=>K.ex k t' σ' lc' s' e ?_ ⟨xt.st.g,xt.st.fr⟩ (xt.sext t).toHExt xa⟩)) (fun _ s' hq=>wpAny_pure (wpAny_pure hq)) fun _ _ e=>e)
  · simp only [xSc,xEz,q]; rfl
  · have e0:evS G H N (.asg k (.comp e ks i es)) ρ σ=(noExc (compF (bindT ρ ks) (fun ρ σ=>evBs G H true es ρ σ) (fun ρ σ=>toD (evE G H e ρ σ)) xs [] σ₁)).bind fun v σ₁=>.ok (ρ.put k v,.nxt) σ₁:=by simp only [xSc,xEz,q]; rfl
    cases hF:compF (bindT ρ ks) (fun ρ σ=>evBs G H true es ρ σ) (fun ρ σ=>toD (evE G H e ρ σ)) xs [] σ₁ with
    | ok d σf =>
      rw [hF] at e0
      refine comp_core hc he hi hs ha hI t xt hi₁ tw hw hmu hcl hF fun Cc D acc ys lc₂ s₂ e hl F=>?_
      subst e
      show wpAny C.M A (assign (.Name y py) X.env (.ref D)) _ E s₂
      refine Xaa (M_fresh t F.hC) fun c1 c2=>?_
      refine Xaa (M_fresh t F.hD) fun d1 d2=>?_
      have t1:St C (X.hid [Cc]) lc₂ ρ ow ol σf s₂:=F.st.re fun a ha=>by
        have ha:a ∈ [Cc]++X.hx:=ha
        show a ∈ [Cc,D]++X.hx
        simp only [List.mem_append,List.mem_cons,List.not_mem_nil,or_false] at ha ⊢
        rcases ha with h | h
        · exact .inl (.inl h)
        · exact .inr h
      have r:relD C (X.hid [Cc]) ol lc₂ s₂.heap (.lst acc) (.ref D):=by
        refine Xea (F.l) fun nn e=>?_
        refine .lst ⟨_,fz_get.mpr ⟨e,fun q=>?_⟩,rfl,nn,rfl⟩ (RelDs.mono (Sub.of_fz fun a ha=>?_) F.r)
        · have q:D ∈ X.M ol++(lc₂.mu C++(Cc :: X.hx)):=q
          rcases List.mem_append.mp q with q | q
          · exact d1 q
          · rcases List.mem_append.mp q with q | q
            · exact F.mD q
            · rcases List.mem_cons.mp q with q | q
              · exact F.CD q.symm
              · exact d2 q
        · have ha:a ∈ X.M ol++(lc₂.mu C++([Cc]++X.hx)):=ha
          show a ∈ X.M ol++(lc₂.mu C++([Cc,D]++X.hx))
          simp only [List.mem_append,List.mem_cons,List.not_mem_nil,or_false] at ha ⊢
          rcases ha with h | h | h | h
          · exact .inl h
          · exact .inr (.inl h)
          · exact .inr (.inr (.inl (.inl h)))
          · exact .inr (.inr (.inr h))
      refine wpAny_assign_Name (store_ok (X:=X.hid [Cc]) ⟨hs.scope,hs.sl,hs.cn,hs.code,hs.qual⟩ hk (.inl rfl) t1 (v:=.d (.lst acc)) (o:=none) r (fun _ e=>by cases e) fun s₃ t₃ x₃=>?_)
      refine Xea (F.ns) fun m hn=>?_
      have hCk:Cc ∉ (X.hid [Cc]).M ol++lc₂.mu C:=fun q=>by
        rcases List.mem_append.mp q with q | q
        · exact c1 q
        · exact F.mC q
      have hn':=Ns.keep x₃.keep hCk hn
      refine ⟨m,hn',fun h' hsb=>?_⟩
      refine K.ok _ .nxt _ _ _ _ _ .next (e0.trans rfl) (St.clear (tk:=s₃.toks) t₃ hn' (fr_fresh t F.hC) F.mC c1 c2 hsb) ⟨⟨fun b o hb e=>?_,F.grow,fun b o e=>?_⟩,fun _=>.inl⟩ rfl
      · have hbC:b ≠ Cc:=fun q=>by rw [q] at e; exact nsm F.hC e
        refine Xeaa (F.keep b o (fun q=>hb (List.mem_append_right _ q)) e) fun o₁ e₁ z₁=>?_
        obtain ⟨o₂,e₂,z₂⟩:=x₃.keep b o₁ (fun q=>by
          rcases List.mem_append.mp q with q | q
          · exact hb (List.mem_append_left _ q)
          · rcases F.grow.mu b q with q | q
            · exact hb (List.mem_append_right _ q)
            · exact nsm q e) e₁
        exact ⟨o₂,hsb.extBut _ _ hbC e₂,z₁.trans z₂⟩
      · have hbC:b ≠ Cc:=fun q=>by rw [q] at e; exact nsm F.hC e
        obtain ⟨o₁,e₁⟩:=F.old b o e
        obtain ⟨o₂,e₂⟩:=x₃.old b o₁ e₁
        exact ⟨o₂,hsb.extBut _ _ hbC e₂⟩
    | exc _ _ _=>rw [hF] at e0; exact absurd e0 K.nb
    | bad=>rw [hF] at e0; exact absurd e0 K.nb
  · simp only [xSc,xEz,q]; rfl
end
section
variable {C:Cst} {G:Nat→D} {NM:Names} {H:Hd} {n:Nat} {sp:Sp} {A:Around} {X:Act} {lc₀ lc lc₁ lc' lc'':Loc} {ρ ρ':Ro} {ow ow':Nat→Option Addr} {ol ol' ol'':List Addr} {σ σ₁ σ':Store} {s₀ s₁ s s' s'':Shared}

theorem RelDs.ints {prog:Program} {w:World} {F:Heap}:∀ {l:List D} {xs:List Value} {is:List Int},RelDs prog w F l xs→l.mapM D.asInt=some is→IntsAre xs is
  | [],_,is,.nil,e=>by cases e; exact .nil
  | d :: l,_,is,.cons r t,e=>by
    rw [List.mapM_cons] at e
    cases d with
    | int i =>
      obtain ⟨u,rfl⟩:=r.int_inv
      cases q:l.mapM D.asInt with
      | none=>rw [q] at e; cases e
      | some is' =>
        rw [q] at e
        cases e
        exact .cons _ _ (t.ints q)
    | _=>cases e

theorem mk_box {D:Addr} {acc:List Mine.D} {ys:List Value} {is:List Int} {i:Int} {u tk:Nat} (t₀:St C X lc₀ ρ ow ol σ' s₀) (F:CDone C X lc₀ ρ ow ol s₀ D acc ys lc σ s) (hσ:σ.box=none) (his:acc.mapM Mine.D.asInt=some is) :
    St C X { lc with box:=some (s.heap.objs.size,D) } ρ ow ol { σ with box:=some (is,i) } { s with heap:=s.heap.push { cls:=.type "list",data:=.seq #[.ref D,.int i u] },toks:=tk } ∧
    SExt C X lc₀ { lc with box:=some (s.heap.objs.size,D) } ol ol s₀ { s with heap:=s.heap.push { cls:=.type "list",data:=.seq #[.ref D,.int i u] },toks:=tk }:=by
  have hlc:lc.box=none:=by
    have:=F.st.g.box
    rw [hσ] at this
    cases q:lc.box with
    | none=>rfl
    | some p=>rw [q] at this; exact this.elim
  have hBn:=none_at_end s.heap
  have hold:∀ b o,s₀.heap.get? b=some o→∃ o',s.heap.get? b=some o':=fun b o e=>by
    by_cases hb:b ∈ lc₀.mu C
    · refine Xeaa (Loc.mu_obj F.st.g b (F.grow.sub b hb)) fun o' e' _=>?_
      exact ⟨o',e'⟩
    · refine Xeaa (F.keep b o hb e) fun o' e' _=>?_
      exact ⟨o',e'⟩
  have hB0:=old_none hold hBn
  obtain ⟨b1,b2⟩:=M_fresh t₀ hB0
  obtain ⟨d1,d2⟩:=M_fresh t₀ F.hD
  have hDo:∃ o,s.heap.get? D=some o:=let ⟨_,e⟩:=F.l; ⟨_,e⟩
  have hBD:s.heap.objs.size ≠ D:=fun q=>by obtain ⟨o,e⟩:=hDo; rw [← q] at e; exact nsm hBn e
  have kp:∀ b o,s.heap.get? b=some o→(s.heap.push { cls:=.type "list",data:=.seq #[.ref D,.int i u] }).get? b=some o:=fun _ _ e=>Heap.get?_push_of_some _ e
  have hBo:(s.heap.push { cls:=.type "list",data:=.seq #[.ref D,.int i u] }).get? s.heap.objs.size=some { cls:=.type "list",data:=.seq #[.ref D,.int i u] }:=Heap.get?_push_size _ rfl
  have tB:St C ((X.hid [D]).hid [s.heap.objs.size]) lc ρ ow ol σ { s with heap:=s.heap.push { cls:=.type "list",data:=.seq #[.ref D,.int i u] },toks:=tk }:=F.st.hide kp fun b hb=>by
    rw [List.mem_singleton.mp hb]
    exact ⟨hBn,_,hBo⟩
  generalize hh':s.heap.push { cls:=.type "list",data:=.seq #[.ref D,.int i u] }=h' at *
  generalize hB:s.heap.objs.size=B at *
  have hmu:∀ a,a ∈ ({ lc with box:=some (B,D) }:Loc).mu C ↔ a ∈ lc.mu C∨a=B∨a=D:=fun a=>by
    unfold Loc.mu
    rw [hlc]
    simp only [List.mem_append,List.mem_cons,List.not_mem_nil,or_false,List.nil_append]
    constructor
    · rintro (h | h | h)
      · exact .inl (.inl h)
      · exact .inr h
      · exact .inl (.inr h)
    · rintro ((h | h) | h)
      · exact .inl h
      · exact .inr (.inr h)
      · exact .inr (.inl h)
  have hZ:∀ a,a ∈ X.Z C { lc with box:=some (B,D) } ol ↔ a ∈ ((X.hid [D]).hid [B]).Z C lc ol:=fun a=>by
    show a ∈ X.M ol++(({ lc with box:=some (B,D) }:Loc).mu C++X.hx) ↔ a ∈ X.M ol++(lc.mu C++([B]++([D]++X.hx)))
    simp only [List.mem_append,List.mem_cons,List.not_mem_nil,or_false,hmu]
    constructor
    · rintro (h | (h | h | h) | h)
      · exact .inl h
      · exact .inr (.inl h)
      · exact .inr (.inr (.inl h))
      · exact .inr (.inr (.inr (.inl h)))
      · exact .inr (.inr (.inr (.inr h)))
    · rintro (h | h | h | h | h)
      · exact .inl h
      · exact .inr (.inl (.inl h))
      · exact .inr (.inl (.inr (.inl h)))
      · exact .inr (.inl (.inr (.inr h)))
      · exact .inr (.inr h)
  have hs:Sub (fz h' (((X.hid [D]).hid [B]).Z C lc ol)) (fz h' (X.Z C { lc with box:=some (B,D) } ol)):=Sub.of_fz fun a ha=>(hZ a).mp ha
  have f:=tB.f
  have g:=tB.g
  have f':FRel C X { lc with box:=some (B,D) } ρ ow ol h':=by
    refine Xeaa (f.ns) fun m hn hr=>?_
    refine { kind:=f.kind,globals:=f.globals,builtins:=f.builtins,frame:=f.frame,slots:=f.slots,cells:=f.cells,cellAt:=f.cellAt,cellInj:=f.cellInj,slInj:=f.slInj,ownLoc:=f.ownLoc,ownIn:=f.ownIn,ownInj:=f.ownInj,locNew:=f.locNew,ns:=⟨m,hn,fun k v x kd e1 e2=>?_⟩,ownNew:=fun a ha=>?_,locMut:=fun q=>?_,hxOld:=fun a ha=>f.hxOld a (.tail _ (.tail _ ha)),hxNew:=fun a ha=>f.hxNew a (.tail _ (.tail _ ha)) }
    · refine Xeaa (hr k v x kd e1 e2) fun val g1 g2=>?_
      refine ⟨val,g1,?_⟩
      cases v with
      | d d=>exact RelD.mono hs g2
      | box=>obtain ⟨p,e,_⟩:=g2; exact nsm hlc e
      | bxl=>obtain ⟨p,e,_⟩:=g2; exact nsm hlc e
      | rd=>exact g2
      | raw u=>exact g2
      | own l=>obtain ⟨a,xs,e,r1,r2,r3⟩:=g2; exact ⟨a,xs,e,r1,r2,RelDs.mono hs r3⟩
    · refine Xaaaaa (f.ownNew a ha) fun n1 n2 n3 n4 n5=>?_
      refine ⟨fun q=>?_,n2,n3,fun q=>n4 (.tail _ (.tail _ q)),n5⟩
      rcases (hmu a).mp q with q | q | q
      · exact n1 q
      · exact n4 (q ▸ .head _)
      · exact n4 (q ▸ .tail _ (.head _))
    · rcases (hmu _).mp q with q | q | q
      · exact f.locMut q
      · exact b1 (by rw [← q]; exact .head _)
      · exact d1 (by rw [← q]; exact .head _)
  have g':GRel C { lc with box:=some (B,D) } { σ with box:=some (is,i) } { s with heap:=h',toks:=tk }:=by
    refine ⟨g.base,g.tab,⟨hBD,u,ys,⟨0,hBo⟩,F.l.at fun o e=>kp _ _ e,RelDs.ints F.r his⟩,g.rd,fun a ha=>?_,g.gens,g.drawn,g.os⟩
    rcases (hmu a).mp ha with q | q | q
    · exact g.new a q
    · exact f.hxNew a (q ▸ .head _)
    · exact f.hxNew a (q ▸ .tail _ (.head _))
  refine ⟨⟨g',f',tB.fr⟩,⟨⟨fun b o hb e=>?_,⟨?_,F.grow.rd,fun a ha=>?_,fun a ha=>(hmu a).mpr (.inl (F.grow.sub a ha))⟩,fun b o e=>?_⟩,fun _=>.inl⟩⟩
  · refine Xeaa (F.keep b o (fun q=>hb (List.mem_append_right _ q)) e) fun o₁ e₁ z=>?_
    exact ⟨o₁,kp _ _ e₁,z⟩
  · left
    rcases F.grow.box with q | q
    · exact q
    · rw [← q]; exact hlc
  · rcases (hmu a).mp ha with q | q | q
    · exact F.grow.mu a q
    · exact .inr (q ▸ hB0)
    · exact .inr (q ▸ F.hD)
  · obtain ⟨o',e'⟩:=hold b o e
    exact ⟨o',kp _ _ e'⟩

theorem s_mkBox {N:Nat} {scope:Scope} {sl':List (Option (Str × NameKind))} {tg:Expr} {ks:List Nat} {elt iter:Expr} {ifs:List Expr} {pos py spos lp cp:Pos} {e:Mine.E} {es:Es} {it:It} {k kk:Nat} {y:Str} {i:Int}
    (hc:CompSp sp scope sl' tg ks) (hfs:∀ env x,foldedSetIterable iter env x=pure x) (he:EvOK C G H n (spC sp scope sl') elt e) (hi:CsOK C G H n (spC sp scope sl') ifs es) (hit:ItOK C G H n sp tg iter it)
    (hk:sp.sl[k]?=some (some (y,.local))) :
    SOK C G H n N sp (.Assign [.Name y py] (.List [.ListComp elt [⟨tg,iter,ifs,0⟩] scope pos,.Constant (.int i) kk cp] lp) spos) (.mkBox k (.comp e ks it es) i):=fun A X lc ρ ow ol σ s Q E hs ha t K=>by
  refine wpAny_Assign_Name (wpAny_List_spliced ?_) rfl
  show wpAny _ _ (spliced [(false,eval (.ListComp elt [⟨tg,iter,ifs,0⟩] scope pos) X.env),(false,eval (.Constant (.int i) kk cp) X.env)]) _ _ _
  refine Calls.spliced_cons ?_
  rw [eval_ListComp]
  refine Xeaa (comp_clos hs hc t) fun cl hclos hcl=>?_
  refine wpAny_comprehension_free (use:=none) rfl (hfs _) hclos hc.kind hc.names (hit A X lc ρ ow ol σ s _ _ hs ha t ⟨fun q=>K.nb ?_,fun xs σ₁ lc₁ s₁ it wr I q xt hI hi₁ tw hw hmu=>?_,fun k t' σ' lc' s' e q xt xa=>K.ex k t' σ' lc' s' e ?_ ⟨xt.st.g,xt.st.fr⟩ (xt.sext t).toHExt xa⟩)
  · simp only [xSn,xEz,q]; rfl
  · rename_i it0
    have e0:evS G H N (.mkBox k (.comp e ks it0 es) i) ρ σ=(toD (noExc (compF (bindT ρ ks) (fun ρ σ=>evBs G H true es ρ σ) (fun ρ σ=>toD (evE G H e ρ σ)) xs [] σ₁))).bind fun d σ₁=>match mkBoxS d i σ₁ with
      | some σ₂=>.ok (ρ.put k .box,.nxt) σ₂
      | none=>.bad:=by simp only [xSn,xEz,q]; rfl
    cases hF:compF (bindT ρ ks) (fun ρ σ=>evBs G H true es ρ σ) (fun ρ σ=>toD (evE G H e ρ σ)) xs [] σ₁ with
    | ok d σf =>
      rw [hF] at e0
      have e0:evS G H N (.mkBox k (.comp e ks it0 es) i) ρ σ=match mkBoxS d i σf with
        | some σ₂=>.ok (ρ.put k .box,.nxt) σ₂
        | none=>.bad:=e0
      refine comp_core hc he hi hs ha hI t xt hi₁ tw hw hmu hcl hF fun Cc D acc ys lc₂ s₂ e hl F=>?_
      subst e
      obtain ⟨m,hn⟩:=F.ns
      refine ⟨m,hn,fun h' hsb=>?_⟩
      have F':=F.done (tk:=s₂.toks) t hsb
      refine Calls.spliced_cons (wpAny_Constant_int ?_)
      show wpAny _ _ (pure []) _ _ _
      refine wpAny_pure ⟨by show 2 ≤ sizeLine; decide,?_⟩
      cases hσ:σf.box with
      | some p=>exact absurd (by rw [e0]; simp only [mkBoxS,hσ]) K.nb
      | none =>
        cases his:acc.mapM Mine.D.asInt with
        | none=>exact absurd (by rw [e0]; simp only [mkBoxS,hσ,his]; rfl) K.nb
        | some is =>
          have e1:evS G H N (.mkBox k (.comp e ks it0 es) i) ρ σ=.ok (ρ.put k .box,.nxt) { σf with box:=some (is,i) }:=by rw [e0]; simp only [mkBoxS,hσ,his]; rfl
          obtain ⟨t₃,x₃⟩:=mk_box (i:=i) (u:=s₂.toks) (tk:=s₂.toks + 1) t F' hσ his
          refine store_ok (C:=C) hs hk (.inl rfl) t₃ (v:=.box) (o:=none) ⟨_,rfl,rfl⟩ (fun _ e=>by cases e) fun s₄ t₄ x₄=>?_
          exact K.ok _ .nxt _ _ _ _ s₄ .next e1 t₄ (x₃.trans x₄) rfl
    | exc _ _ _=>rw [hF] at e0; exact absurd e0 K.nb
    | bad=>rw [hF] at e0; exact absurd e0 K.nb
  · simp only [xSn,xEz,q]; rfl
end
structure XTurn (frs:List Env) (h0 h h':Heap):Prop where
  keep:∀ b o,h.get? b=some o→(∀ vs,o.data ≠ .fields vs)→∃ sl,h'.get? b=some { o with slots:=sl }
  same:∀ b o,b ∉ frs.filterMap (·.frame)→h.get? b=some o→(h0.get? b=none→(∀ vs,o.data ≠ .fields vs)∨o.cls=.type "code")→h'.get? b=some o

theorem XTurn.refl (frs:List Env) (h0 h:Heap):XTurn frs h0 h h:=⟨fun _ o e _=>⟨o.slots,e⟩,fun _ _ _ e _=>e⟩
theorem XTurn.trans {frs:List Env} {h0 h h₁ h₂:Heap} (x:XTurn frs h0 h h₁) (y:XTurn frs h0 h₁ h₂):XTurn frs h0 h h₂ :=
  ⟨fun b o e n=>let ⟨_,e₁⟩:=x.keep b o e n; let ⟨sl,e₂⟩:=y.keep b _ e₁ n; ⟨sl,e₂⟩,fun b o hb e n=>y.same b o hb (x.same b o hb e n) n⟩
theorem XTurn.fields {frs:List Env} {h0 h:Heap} {a:Addr} {o:Obj} {vs:Array Value} (ha:h.get? a=some o) (hd:o.data=.fields vs) (h0a:h0.get? a=none) (hcd:o.cls ≠ .type "code") (f:Obj→Obj):XTurn frs h0 h (h.update a f):=by
  have other:∀ b,b ≠ a→(h.update a f).get? b=h.get? b:=fun b hb=>Heap.get?_update_other _ _ (Ne.symm hb)
  refine ⟨fun b o' e n=>⟨o'.slots,(other b fun q=>?_).trans e⟩,fun b o' _ e n=>(other b fun q=>?_).trans e⟩
  · rw [q] at e; cases ssm ha e; exact n vs hd
  · rw [q] at e; cases ssm ha e; exact (n (q ▸ h0a)).elim (fun z=>z vs hd) hcd
theorem XTurn.push {frs:List Env} {h0 h:Heap} (o:Obj):XTurn frs h0 h (h.push o):=⟨fun _ o' e _=>⟨o'.slots,Heap.get?_push_of_some _ e⟩,fun _ _ _ e _=>Heap.get?_push_of_some _ e⟩
theorem XTurn.slots {frs:List Env} {h0 h h':Heap} (x:Heap.SlotsOnly (frs.filterMap (·.frame)) h h'):XTurn frs h0 h h':=⟨fun b o e _=>x.2.2 b o e,fun b _ hb e _=>(x.2.1 b hb).trans e⟩

section
variable {C:Cst} {frs:List Env} {h:Heap}
theorem fun_frames (f:FrOK C frs h):h.FunFrames C.h₀ frs:=by
  induction frs with
  | nil=>trivial
  | cons e rest ih =>
    refine Xaeeaaaaeea (f e (.head _)) fun h1 L o h2 h3 h4 h5 es ep h6=>?_
    exact ⟨h1,⟨L,o,h2,h5,h3,fun vs q=>by rw [h6] at q; cases q⟩,ih fun e' he=>f e' (.tail _ he)⟩
theorem FrOK.mem (f:FrOK C frs h) {b:Addr} (hb:b ∈ frs.filterMap (·.frame)):∃ o,h.get? b=some o∧isFrameObj o∧C.h₀.get? b=none∧∃ es ep,o.data=.dict es ep:=by
  refine Xeaa (List.mem_filterMap.mp hb) fun e he q=>?_
  refine Xaeeaaaaa (f e he) fun _ L o h2 h3 h4 h5 h6=>?_
  rw [h2] at q
  cases q
  exact ⟨o,h3,h4,h5,h6⟩
theorem FrOK.xturn {h0 h':Heap} (f:FrOK C frs h) (x:XTurn frs h0 h h'):FrOK C frs h':=fun e he=>by
  refine Xaeeaaaaeea (f e he) fun h1 L o h2 h3 h4 h5 es ep h6=>?_
  obtain ⟨sl,e'⟩:=x.keep L o h3 fun vs q=>by rw [h6] at q; cases q
  exact ⟨h1,L,_,h2,e',h4,h5,es,ep,h6⟩
end

noncomputable def ExcT (C:Cst) (h h':Heap) (e:Addr) (k:List Nat):Prop :=
  h.get? e=none∧∃ oe vs d od es n t,h'.get? e=some oe∧oe.cls=.ref C.JF∧oe.dict=some d∧oe.data=.fields vs∧h.get? d=none∧h'.get? d=some od∧od=PySem.W.dictOf es n∧getL "kind" es=some (some (.str (mkS k) t)) ∧
    ∃ T oT ts fl,vs[1]?=some (.ref T)∧h.get? T=none∧T ≠ e∧h'.get? T=some oT∧oT.data=.fields ts∧ts[3]?=some fl∧(fl=.none∨∃ L,fl=rawInt L)∧oT.cls ≠ .type "code"
theorem ExcT.at {C:Cst} {h h':Heap} {e:Addr} {k:List Nat} (x:ExcT C h h' e k):ExcAt C h h' e k:=by
  obtain ⟨hn,oe,vs,d,od,es,n,t,h1,h2,h3,h4,h5,h6,h7,h8,T,oT,ts,fl,r⟩:=x
  exact ⟨hn,oe,vs,d,od,es,n,t,h1,h2,h3,h4,h5,h6,h7,h8,.inr ⟨T,oT,ts,fl,r⟩⟩

section
variable {C:Cst} {A:Around} {X:Act} {h0:Heap} {s:Shared} {E:Value→Shared→Prop} {Q:Unit→Shared→Prop}

structure XFr (C:Cst) (A:Around) (X:Act) (h0:Heap) (s:Shared):Prop where
  fr:FrOK C X.frs s.heap
  hA:A.frames=some X.frs
  hd:∃ e rest,X.frs=e :: rest∧e.frame=X.env.frame
  old:∀ b o,h0.get? b=some o→∃ o',s.heap.get? b=some o'

theorem XFr.turn {h':Heap} (f:XFr C A X h0 s) (x:XTurn X.frs h0 s.heap h'):XFr C A X h0 { s with heap:=h' }:=by
  refine ⟨f.fr.xturn x,f.hA,f.hd,fun b o e=>?_⟩
  obtain ⟨o',e'⟩:=f.old b o e
  by_cases hb:b ∈ X.frs.filterMap (·.frame)
  · refine Xeaa ((f.fr.xturn x).mem hb) fun o₁ e₁ _=>?_
    exact ⟨o₁,e₁⟩
  · exact ⟨o',x.same b o' hb e' fun q=>nsm q e⟩

theorem frameOf_ok {L:Addr} {Q:Value→Shared→Prop} (f:XFr C A X h0 s) (hL:X.env.frame=some L) (h:∀ h',Heap.SlotsOnly (X.frs.filterMap (·.frame)) s.heap h'→Q (.ref L) { s with heap:=h' }):wpAny C.M A (frameOf X.env) Q E s:=by
  refine Xeeaa (f.hd) fun e rest hf he=>?_
  have hA:=f.hA
  have hfr:=f.fr
  rw [hf] at hA hfr h
  refine wpAny_bind (wpAny_frameEnvs hA ?_)
  have hdw:((e :: rest).dropWhile fun x=>x.frame != X.env.frame)=e :: rest:=by simp [List.dropWhile,he]
  rw [hdw]
  refine wpAny_bind (wpAny_bind (wpAny_readyFrames_fun (fun_frames hfr) fun h₁ hs₁=>wpAny_pure ?_))
  rw [he,hL]
  exact wpAny_pure (h h₁ hs₁)

theorem entry_ok {L e:Addr} {oe:Obj} {vs:Array Value} {head:Value} {hadNext:Bool} (f:XFr C A X h0 s) (hL:X.env.frame=some L) (he:s.heap.get? e=some oe) (hd:oe.data=.fields vs) (hsz:1 < vs.size) (hen:h0.get? e=none) (hec:oe.cls ≠ .type "code")
    (h:∀ h' T oT ts,XTurn X.frs h0 s.heap h'→h'.get? e=some { oe with data:=.fields (vs.setIfInBounds 1 (.ref T)) }→s.heap.get? T=none→T ≠ e→h'.get? T=some oT→oT.data=.fields ts→ts[3]?=some (rawInt L)→oT.cls ≠ .type "code"→Q () { s with heap:=h' }) :
    wpAny C.M A (do let a ← frameOf X.env; let pl ← entryPlaceOf L hadNext; let b ← EntryCells.newEntry head a .none (rawInt L) .none pl; setField (.ref e) 1 b) Q E s:=by
  have hene:e ∉ X.frs.filterMap (·.frame):=fun hm=>by
    refine Xeaaaeea (f.fr.mem hm) fun o ho _ _ es ep hd'=>?_
    cases ssm he ho
    rw [hd] at hd'; cases hd'
  refine wpAny_bind (frameOf_ok f hL fun h₁ hs₁=>?_)
  refine wpAny_bind (wpAny_entryPlaceOf fun pl hpl=>?_)
  refine wpAny_bind (wpAny_newObj_type ?_ (hpl.sizeOk5 _ _ _ _ _))
  have he₁:h₁.get? e=some oe:=(hs₁.2.1 e hene).trans he
  have he₂:=Heap.get?_push_of_some (h:=h₁) { cls:=.type "traceback",dict:=none,data:=.fields ([head,.ref L,.none,rawInt L,.none]++(if pl.isEmpty then List.replicate 6 Value.none else pl)).toArray } he₁
  refine wpAny_setField he₂ hd hsz ?_
  have hTe:h₁.objs.size ≠ e:=Nat.ne_of_gt (Heap.lt_size he₁)
  have hd₃:=Obj.data_mapFields hd (·.setIfInBounds 1 (Value.ref h₁.objs.size))
  have he₃:=Heap.get?_update_self (Obj.mapFields (·.setIfInBounds 1 (Value.ref h₁.objs.size))) he₂ (Obj.isFreed_of_fields hd₃)
  have hT₃:=(Heap.get?_update_other (h₁.push { cls:=.type "traceback",dict:=none,data:=.fields ([head,.ref L,.none,rawInt L,.none]++(if pl.isEmpty then List.replicate 6 Value.none else pl)).toArray })
    (Obj.mapFields (·.setIfInBounds 1 (Value.ref h₁.objs.size))) (Ne.symm hTe)).trans (Heap.get?_push_size h₁ rfl)
  refine h _ h₁.objs.size _ _ (((XTurn.slots hs₁).trans (.push _)).trans (.fields he₂ hd hen hec _)) ?_ (Heap.get?_none_of_le (by rw [hs₁.1]; exact Nat.le_refl _)) hTe hT₃ rfl (by first | (simp; done) | (rcases hpl with rfl | ⟨_,_,_,_,_,_,_,rfl⟩ <;> simp)) (by simp)
  rw [he₃]
  obtain ⟨c,dd,dt,sl⟩:=oe
  simp only at hd
  subst hd
  rfl

theorem old_none' (f:XFr C A X h0 s) {a:Addr} (e:s.heap.get? a=none):h0.get? a=none:=old_none f.old e

theorem note_ok {e:Addr} {k:List Nat} (f:XFr C A X h0 s) (x:ExcAt C h0 s.heap e k) (K:∀ h',XTurn X.frs h0 s.heap h'→ExcT C h0 h' e k→Q () { s with heap:=h' }):wpAny C.M A (noteFrame (.ref e) X.env) Q E s:=by
  refine Xaeeeeeeeaaaaaaaaa (x) fun hn oe vs d od es n t h1 h2 h3 h4 h5 h6 h7 h8 h9=>?_
  refine Xeeaa (f.hd) fun e0 rest hfr hhd=>?_
  obtain ⟨_,L,oL,hL,hL2,hL3,hL4,_⟩:=f.fr e0 (by rw [hfr]; exact .head _)
  rw [hhd] at hL
  have hdne:d ≠ e:=fun q=>by
    rw [q] at h6; cases ssm h1 h6
    rw [h7] at h4; cases h4
  have hdf:∀ vs,od.data ≠ .fields vs:=fun vs q=>by subst h7; cases q
  have hdn:d ∉ X.frs.filterMap (·.frame):=fun q=>by
    refine Xeaaa (f.fr.mem q) fun o ho hc _=>?_
    cases ssm h6 ho
    subst h7
    simp [isFrameObj,PySem.W.dictOf] at hc
  unfold noteFrame
  simp only [hL]
  rcases h9 with h9 | ⟨T,oT,ts,fl,g1,g2,g3,g4,g5,g6,g7,g8⟩
  · refine wpAny_bind (wpAny_field h1 h4 h9 ?_)
    rw [if_neg (by decide)]
    refine entry_ok f hL h1 h4 (Array.getElem?_eq_some_iff.mp h9).1 hn (by rw [h2]; simp) fun h' T oT ts x a1 a2 a3 a4 a5 a6 a7=>K h' x ⟨hn,_,_,d,od,es,n,t,a1,h2,h3,rfl,h5,x.same d od hdn h6 fun _=>.inl hdf,h7,h8,T,oT,ts,rawInt L,?_,old_none' f a2,a3,a4,a5,a6,.inr ⟨L,rfl⟩,a7⟩
    simp [(Array.getElem?_eq_some_iff.mp h9).1]
  · refine wpAny_bind (wpAny_field h1 h4 g1 ?_)
    rw [if_pos (show (Value.ref T != Value.none)=true from by simp)]
    refine wpAny_bind (wpAny_field g4 g5 g6 ?_)
    by_cases q:(fl == rawInt L)=true
    · rw [if_pos q]
      exact wpAny_pure (K s.heap (.refl ..) ⟨hn,oe,vs,d,od,es,n,t,h1,h2,h3,h4,h5,h6,h7,h8,T,oT,ts,fl,g1,g2,g3,g4,g5,g6,g7,g8⟩)
    · rw [if_neg q]
      refine wpAny_bind (wpAny_setField g4 g5 (Array.getElem?_eq_some_iff.mp g6).1 ?_)
      have x₁:XTurn X.frs h0 s.heap (s.heap.update T (Obj.mapFields (·.setIfInBounds 3 Value.none))):=.fields g4 g5 g2 g8 _
      have he':(s.heap.update T (Obj.mapFields (·.setIfInBounds 3 Value.none))).get? e=some oe:=(Heap.get?_update_other _ _ g3).trans h1
      have f':=f.turn x₁
      refine entry_ok f' hL he' h4 (Array.getElem?_eq_some_iff.mp g1).1 hn (by rw [h2]; simp) fun h' T' oT' ts' x a1 a2 a3 a4 a5 a6 a7=>K h' (x₁.trans x) ⟨hn,_,_,d,od,es,n,t,a1,h2,h3,rfl,h5,(x₁.trans x).same d od hdn h6 fun _=>.inl hdf,h7,h8,T',oT',ts',rawInt L,?_,old_none' f' a2,a3,a4,a5,a6,.inr ⟨L,rfl⟩,a7⟩
      simp [(Array.getElem?_eq_some_iff.mp g1).1]

theorem flight_ok {e:Addr} {k:List Nat} {fr:Option Addr} (f:XFr C A X h0 s) (x:ExcT C h0 s.heap e k) (K:∀ h',XTurn X.frs h0 s.heap h'→ExcT C h0 h' e k→Q () { s with heap:=h' }):wpAny C.M A (setFlight (.ref e) fr) Q E s:=by
  obtain ⟨hn,oe,vs,d,od,es,n,t,h1,h2,h3,h4,h5,h6,h7,h8,T,oT,ts,fl,g1,g2,g3,g4,g5,g6,g7,g8⟩:=x
  have hdT:d ≠ T:=fun q=>by
    rw [q] at h6; cases ssm g4 h6
    rw [h7] at g5; cases g5
  refine wpAny_bind (wpAny_field h1 h4 g1 ?_)
  rw [if_pos (show (Value.ref T != Value.none)=true from by simp)]
  have hsz:=(Array.getElem?_eq_some_iff.mp g6).1
  refine wpAny_setField g4 g5 hsz (K _ (.fields g4 g5 g2 g8 _) ⟨hn,oe,vs,d,od,es,n,t,(Heap.get?_update_other _ _ g3).trans h1,h2,h3,h4,h5,(Heap.get?_update_other _ _ (Ne.symm hdT)).trans h6,h7,h8,T,_,_,fr.elim .none fun f=>rawInt f,g1,g2,g3,Heap.get?_update_self _ g4 (Obj.isFreed_of_fields (Obj.data_mapFields g5 _)),Obj.data_mapFields g5 _,by simp [hsz],?_,?_⟩)
  · cases fr with
    | none=>exact .inl rfl
    | some a=>exact .inr ⟨a,rfl⟩
  · obtain ⟨c,dd,dt,sl⟩:=oT
    dsimp only at g5 g8
    subst g5
    exact g8

theorem tb_some {e:Addr} {k:List Nat} {Q:Value→Shared→Prop} (x:ExcT C h0 s.heap e k) (K:∀ T,Q (.ref T) s):wpAny C.M A (field (.ref e) 1) Q E s:=by
  obtain ⟨hn,oe,vs,d,od,es,n,t,h1,h2,h3,h4,h5,h6,h7,h8,T,oT,ts,fl,g1,g2,g3,g4,g5,g6,g7⟩:=x
  exact wpAny_field h1 h4 g1 (K T)

theorem back_ok {e:Addr} {k:List Nat} {E':Value→Shared→Prop} (f:XFr C A X h0 s) (x:ExcAt C h0 s.heap e k) (K:∀ h',XTurn X.frs h0 s.heap h'→ExcT C h0 h' e k→E' (.ref e) { s with heap:=h' }) :
    notedBy C.M A X.env (fun e s'=>cameBackBy C.M A X.env E' e s') (.ref e) s:=by
  refine note_ok f x fun h₁ x₁ y₁=>?_
  refine wpAny_bind (tb_some y₁ fun T=>?_)
  rw [if_neg (by simp)]
  exact flight_ok (f.turn x₁) y₁ fun h₂ x₂ y₂=>K h₂ (x₁.trans x₂) y₂

theorem GX.xturn {lc lc':Loc} {ol:List Addr} {σ':Store} {s s':Shared} {h':Heap} (g:GX C X lc' σ' s') (x:HExt C X lc lc' ol s s') (hb:∀ b o,C.h₀.get? b=some o→∃ o',s.heap.get? b=some o') (ht:∀ q ∈ C.tabs,∃ o,s.heap.get? q.2=some o) (k:XTurn X.frs s.heap s'.heap h') :
    GX C X lc' σ' { s' with heap:=h' }∧HExt C X lc lc' ol s { s' with heap:=h' }:=by
  have nf:∀ b o,s'.heap.get? b=some o→¬ isFrameObj o→b ∉ X.frs.filterMap (·.frame):=fun b o e n q=>by
    refine Xeaaa (g.fr.mem q) fun o' e' c _=>?_
    cases ssm e e'; exact n c
  have kd:∀ b o,s'.heap.get? b=some o→¬ isFrameObj o→(∀ vs,o.data ≠ .fields vs)→h'.get? b=some o:=fun b o e n d=>k.same b o (nf b o e n) e fun _=>.inl d
  refine ⟨⟨⟨fun b o e=>?_,fun q hq=>?_,?_,?_,g.g.new,g.g.gens,g.g.drawn,g.g.os⟩,g.fr.xturn k⟩,fun b o hm e=>?_,x.grow,fun b o e=>?_⟩
  · have hf:b ∉ X.frs.filterMap (·.frame):=fun q=>by
      refine Xeaaaa (g.fr.mem q) fun _ _ _ n _=>?_
      exact nsm n e
    refine k.same b o hf (g.g.base b o e) fun q=>?_
    obtain ⟨o',e'⟩:=hb b o e
    exact nsm q e'
  · refine Xeaaa (g.g.tab q hq) fun ps e t c=>?_
    obtain ⟨o₀,e₀⟩:=ht q hq
    refine ⟨ps,k.same _ _ (nf _ _ e (by simp [isFrameObj])) e fun z=>(nsm z e₀),t,c.keep fun b o ho e=>k.same _ _ (nf _ _ e ?_) e fun _=>.inr ho.1⟩
    intro z
    unfold isFrameObj at z
    rw [ho.1] at z
    simp at z
  · have hb:=g.g.box
    cases q:lc'.box <;> cases q2:σ'.box <;> rw [q,q2] at hb <;> first | exact hb.elim | trivial | skip
    obtain ⟨ne,t,xs,⟨n1,e1⟩,⟨n2,e2⟩,hi⟩:=hb
    exact ⟨ne,t,xs,⟨n1,kd _ _ e1 (by simp [isFrameObj]) (fun vs q=>by cases q)⟩,⟨n2,kd _ _ e2 (by simp [isFrameObj]) (fun vs q=>by cases q)⟩,hi⟩
  · have hb:=g.g.rd
    cases q:lc'.rd <;> cases q2:σ'.rd <;> rw [q,q2] at hb <;> first | exact hb.elim | trivial | skip
    refine Xaeeaa (hb) fun e1 es n e2 r=>?_
    exact ⟨kd _ _ e1 (by simp [isFrameObj]) (fun vs q=>by cases q),es,n,kd _ _ e2 (by simp [isFrameObj]) (fun vs q=>by cases q),r⟩
  · refine Xeaa (x.keep b o hm e) fun o₁ e₁ z=>?_
    by_cases hf:b ∈ X.frs.filterMap (·.frame)
    · refine Xeaaaeea (g.fr.mem hf) fun o₂ e₂ c _ es ep d=>?_
      cases ssm e₁ e₂
      obtain ⟨sl,e₃⟩:=k.keep b o₁ e₁ fun vs q=>by rw [d] at q; cases q
      exact ⟨_,e₃,z.trans (.inr ⟨c,sl,rfl⟩)⟩
    · exact ⟨o₁,k.same b o₁ hf e₁ fun q=>(nsm q e),z⟩
  · obtain ⟨o₁,e₁⟩:=x.old b o e
    by_cases hf:b ∈ X.frs.filterMap (·.frame)
    · refine Xeaa ((g.fr.xturn k).mem hf) fun o₂ e₂ _=>?_
      exact ⟨o₂,e₂⟩
    · exact ⟨o₁,k.same b o₁ hf e₁ fun q=>(nsm q e)⟩
end
section
variable {C:Cst} {G:Nat→D} {NM:Names} {H:Hd} {n:Nat} {sp:Sp} {A:Around} {X:Act} {lc₀ lc lc₁ lc' lc'':Loc} {ρ ρ':Ro} {ow ow':Nat→Option Addr} {ol₀ ol ol' ol'':List Addr} {σ σ₁ σ':Store} {s₀ s₁ s s' s'':Shared}

theorem SExt.sub (x:SExt C X lc lc' ol ol' s s'):Sub (fz s.heap (X.Z C lc ol)) (fz s'.heap (X.Z C lc' ol')):=by
  refine Sub.step x.keep (fun a ha=>.inl ?_) fun a ha=>?_
  · unfold Act.Z
    rcases List.mem_append.mp ha with h | h
    · exact List.mem_append_left _ h
    · exact List.mem_append_right _ (List.mem_append_left _ h)
  · unfold Act.Z Act.M at ha ⊢
    simp only [List.mem_append,List.mem_cons] at ha ⊢
    rcases ha with (h | h | h) | h | h
    · exact .inl (.inl (.inl h))
    · exact .inl (.inl (.inr (.inl h)))
    · rcases x.olNew a h with q | q
      · exact .inl (.inl (.inr (.inr q)))
      · exact .inr q
    · rcases x.grow.mu a h with q | q
      · exact .inl (.inr (.inl q))
      · exact .inr q
    · exact .inl (.inr (.inr h))

theorem HExt.unhid {wr:List Addr} (x:HExt C (X.hid wr) lc lc' ol s s'):HExt C X lc lc' ol s s':=⟨x.keep,x.grow,x.old⟩
theorem SExt.unhid {wr:List Addr} (x:SExt C (X.hid wr) lc lc' ol ol' s s'):SExt C X lc lc' ol ol' s s':=⟨x.toHExt.unhid,x.olNew⟩

theorem SCont.exN {r:R (Ro × Fl)} {Q:Flow→Shared→Prop} {E:Value→Shared→Prop} {k t:List Nat} {e:Addr} (K:SCont C X lc ρ ow ol s r Q E) (t₀:St C X lc ρ ow ol σ s) (hA:A.frames=some X.frs) (er:r=.exc k t σ')
    (g:GX C X lc' σ' s') (x:HExt C X lc lc' ol s s') (xa:ExcAt C s.heap s'.heap e k):notedBy C.M A X.env (fun e s'=>cameBackBy C.M A X.env E e s') (.ref e) s':=by
  refine back_ok ⟨g.fr,hA,t₀.f.frame,x.old⟩ xa fun h' xt xc=>?_
  obtain ⟨g',x'⟩:=g.xturn x (fun b o e=>⟨o,t₀.g.base b o e⟩) (fun q hq=>let ⟨_,e,_⟩:=t₀.g.tab q hq; ⟨_,e⟩) xt
  exact K.ex k t σ' lc' _ e er g' x' xc.at

theorem s_whl {N:Nat} {c:Expr} {as:List Stmt} {e:Mine.E} {es:Ss} {pos:Pos} (h0:TrOK C G H n sp c e) (h1:SsOK C G H n N sp as es):SOK C G H n N sp (.While c as [] pos) (.whl e es):=fun A X lc ρ ow ol σ s Q E hs ha t K=>by
  refine wpAny_While ?_
  refine codeAny_whileLoop (fun n s=>∃ lc ρ ow ol σ,St C X lc ρ ow ol σ s∧SCont C X lc ρ ow ol s (whlF (fun ρ σ=>toB (evE G H e ρ σ)) (fun ρ σ=>evSs G H N es ρ σ) n ρ σ) Q E) ?_ N ⟨lc,ρ,ow,ol,σ,t,K⟩
  rintro m s ⟨lc,ρ,ow,ol,σ,t,K⟩
  cases m with
  | zero=>exact absurd rfl K.nb
  | succ m =>
    have K:SCont C X lc ρ ow ol s ((toB (evE G H e ρ σ)).bind fun c σ₁=>match c with
      | false=>.ok (ρ,.nxt) σ₁
      | true=>(evSs G H N es ρ σ₁).bind fun r σ₂=>match r.2 with
        | .nxt=>whlF (fun ρ σ=>toB (evE G H e ρ σ)) (fun ρ σ=>evSs G H N es ρ σ) m r.1 σ₂
        | .ret d=>.ok (r.1,.ret d) σ₂) Q E:=K
    refine h0 A X lc ρ ow ol σ s hs ha t _ _ ⟨fun q=>K.nb (by rw [q]; rfl),fun b σ₁ lc₁ s₁ x q xt p=>?_,fun k tt σ' lc' s' ee q xt xa=>K.exN t ha.frames (by rw [q]; rfl) ⟨xt.st.g,xt.st.fr⟩ (xt.sext t).toHExt xa⟩
    subst p
    rw [q] at K
    cases b with
    | false =>
      simp only [Bool.false_eq_true,if_false]
      rw [arm_execs_nil]
      exact wpAny_pure (K.ok ρ .nxt σ₁ lc₁ ow ol s₁ .next rfl xt.st (xt.sext t) rfl)
    | true =>
      simp only [if_true]
      have K1:SCont C X lc₁ ρ ow ol s₁ ((evSs G H N es ρ σ₁).bind fun r σ₂=>match r.2 with
        | .nxt=>whlF (fun ρ σ=>toB (evE G H e ρ σ)) (fun ρ σ=>evSs G H N es ρ σ) m r.1 σ₂
        | .ret d=>.ok (r.1,.ret d) σ₂) Q E:=K.next (xt.sext t) rfl
      refine h1 A X lc₁ ρ ow ol σ₁ s₁ _ _ hs ha xt.st ⟨fun q=>K1.nb (by rw [q]; rfl),fun ρ' fl σ' lc' ow' ol' s' f e t' x y=>?_,fun k tt σ' lc' s' ee q g x xa=>K1.exN xt.st ha.frames (by rw [q]; rfl) g x xa⟩
      rw [e] at K1
      cases fl with
      | nxt =>
        have y:f=.next:=y
        subst y
        exact ⟨m,Nat.lt_succ_self _,lc',ρ',ow',ol',σ',t',K1.next x rfl⟩
      | ret d =>
        refine Xeaa (y) fun v zz1 r=>?_; subst zz1
        exact K1.ok ρ' (.ret d) σ' lc' ow' ol' s' (.ret v) rfl t' x ⟨v,rfl,r⟩

theorem SExt.turn {wr:List Addr} {h':Heap} {tk:Nat} (x:SExt C X lc lc' ol ol' s s') (hw:∀ b ∈ wr,s.heap.get? b=none) (k:∀ b o,b ∉ wr→s'.heap.get? b=some o→h'.get? b=some o):SExt C X lc lc' ol ol' s { s' with heap:=h',toks:=tk }:=by
  refine ⟨⟨fun b o hb e=>?_,x.grow,fun b o e=>?_⟩,x.olNew⟩
  · refine Xeaa (x.keep b o hb e) fun o' e' z=>?_
    exact ⟨o',k _ _ (fun q=>nsm (hw b q) e) e',z⟩
  · obtain ⟨o',e'⟩:=x.old b o e
    exact ⟨o',k _ _ (fun q=>nsm (hw b q) e) e'⟩

theorem s_forr {N:Nat} {tg iter:Expr} {as:List Stmt} {i:It} {ks:List Nat} {es:Ss} {pos:Pos} (hfs:∀ env x,foldedSetIterable iter env x=pure x) (htg:TgOK sp tg ks) (hit:ItOK C G H n sp tg iter i) (h1:SsOK C G H n N sp as es) :
    SOK C G H n N sp (.For tg iter as [] pos) (.forr ks i es):=fun A X lc ρ ow ol σ s Q E hs ha t K=>by
  refine wpAny_For (hit A X lc ρ ow ol σ s _ _ hs ha t ⟨fun q=>K.nb ?_,fun xs σ₁ lc₁ s₁ it wr I q xt hI hi₁ tw hw hmu=>?_,fun k t' σ' lc' s' e q xt xa=>K.ex k t' σ' lc' s' e ?_ ⟨xt.st.g,xt.st.fr⟩ (xt.sext t).toHExt xa⟩) (hfs _)
  · simp only [xSq,q]; rfl
  · have e0:evS G H N (.forr ks i es) ρ σ=forF (fun ρ d=>bindT ρ ks d) (fun ρ σ=>evSs G H N es ρ σ) xs ρ σ₁:=by simp only [xSq,q]; rfl
    rw [e0] at K
    have hloc:∀ b ∈ wr,b ≠ X.env.locals:=fun b hb q=>by
      obtain ⟨m,⟨o,_,_,e,_⟩,_⟩:=t.f.ns
      rw [← q] at e; exact nsm (hw b hb) e
    refine codeAny_forLoop_any (fun m s'=>∃ xs lc' ρ' ow' ol' σ',m=xs.length∧St C (X.hid wr) lc' ρ' ow' ol' σ' s'∧I xs ((X.hid wr).Z C lc' ol') s'.heap∧SExt C X lc lc' ol ol' s s'∧(∀ b ∈ wr,b ∉ lc'.mu C) ∧
      SCont C X lc ρ ow ol s (forF (fun ρ d=>bindT ρ ks d) (fun ρ σ=>evSs G H N es ρ σ) xs ρ' σ') Q E) ?_ xs.length ⟨xs,lc₁,ρ,ow,ol,σ₁,rfl,tw,hi₁,xt.sext t,hmu,K⟩
    clear K q xt hi₁ tw hmu e0
    rintro m s₂ ⟨xs,lc₂,ρ₂,ow₂,ol₂,σ₂,rfl,t₂,i₂,x₂,mu₂,K⟩
    have outs:∀ (xs:List D) Z h,I xs Z h→∀ b ∈ wr,∀ o,h.get? b=some o→OutObj o:=fun xs Z h hi b hb o e=>by
      refine Xeaa (hI.objs _ _ _ hi b hb) fun o' e' c=>?_
      cases ssm e e'; exact c
    have nol:∀ (lc:Loc) ρ ow ol σ s,St C (X.hid wr) lc ρ ow ol σ s→∀ b ∈ wr,b ∉ ol:=fun lc ρ ow ol σ s t b hb q=>(t.f.ownNew b q).2.2.2.1 (List.mem_append_left _ hb)
    cases xs with
    | nil =>
      refine wpAny_mono (hI.done _ s₂ (fun s₁=>Q .next s₁) _ i₂ fun h' tk k=>?_) (fun r s₁ ⟨e,q⟩=>by
        subst e
        show wpAny _ _ (execs [] X.env) _ _ _
        rw [arm_execs_nil]
        exact wpAny_pure q) fun _ _ x=>x
      refine K.ok ρ₂ .nxt σ₂ lc₂ ow₂ ol₂ _ .next rfl (t₂.turnOut k fun b hb=>⟨mu₂ b hb,nol _ _ _ _ _ _ t₂ b hb,hloc b hb,fun q=>?_,outs _ _ _ i₂ b hb⟩) (x₂.turn hw k) rfl
      obtain ⟨o,e⟩:=t.f.hxOld b q
      exact nsm (hw b hb) e
    | cons x xs =>
      have key:=fun Q hQ=>hI.item x xs _ s₂ Q (notedBy C.M A X.env (fun e s'=>cameBackBy C.M A X.env E e s')) i₂ (fun b hb=>by
        exact List.mem_append_right _ (List.mem_append_right _ (List.mem_append_left _ hb))) hQ
      refine wpAny_mono (key ?QQ ?h1) ?h2 fun _ _ x=>x
      case h2 =>
        intro r s₁ h
        refine Xeaa (h) fun v zz1 q=>?_; subst zz1
        exact q
      intro v h' tk hv i₃ k
      cases qb:bindT ρ₂ ks x with
      | none=>exact absurd (by simp only [forF,qb]) K.nb
      | some ρ₃ =>
        unfold forF at K
        rw [qb] at K
        have K:SCont C X lc ρ ow ol s ((evSs G H N es ρ₃ σ₂).bind fun r σ₁=>match r.2 with
          | .nxt=>forF (fun ρ d=>bindT ρ ks d) (fun ρ σ=>evSs G H N es ρ σ) xs r.1 σ₁
          | .ret d=>.ok (r.1,.ret d) σ₁) Q E:=K
        have t₃:St C (X.hid wr) lc₂ ρ₂ ow₂ ol₂ σ₂ { s₂ with heap:=h',toks:=tk }:=t₂.turn k fun b hb=>⟨mu₂ b hb,nol _ _ _ _ _ _ t₂ b hb,hloc b hb,outs _ _ _ i₂ b hb,let ⟨o,e,_⟩:=hI.objs _ _ _ i₃ b hb; ⟨o,e⟩⟩
        have x₃:SExt C X lc lc₂ ol ol₂ s { s₂ with heap:=h',toks:=tk }:=x₂.turn hw k
        have hs':SpX (X.hid wr) sp:=⟨hs.scope,hs.sl,hs.cn,hs.code,hs.qual⟩
        have ha':AOK C A (X.hid wr) n:=⟨ha.handled,ha.frames,ha.depth,ha.units⟩
        have step:∀ {lc₃ lc₄ ol₃ ol₄ s₃ s₄ ρ₃ ow₃ σ₃},St C (X.hid wr) lc₃ ρ₃ ow₃ ol₃ σ₃ s₃→I xs ((X.hid wr).Z C lc₃ ol₃) s₃.heap→(∀ b ∈ wr,b ∉ lc₃.mu C)→SExt C (X.hid wr) lc₃ lc₄ ol₃ ol₄ s₃ s₄→I xs ((X.hid wr).Z C lc₄ ol₄) s₄.heap∧∀ b ∈ wr,b ∉ lc₄.mu C:=by
          intro lc₃ lc₄ ol₃ ol₄ s₃ s₄ ρ₃ ow₃ σ₃ t₃ i₃ m₃ x
          refine ⟨hI.frame _ _ _ _ _ i₃ (fun b hb o e=>x.keep.get (fun q=>?_) e (outs _ _ _ i₃ b hb o e).2.2.1) x.sub,fun b hb q=>?_⟩
          · rcases List.mem_append.mp q with q | q
            · have q:b ∈ X.env.locals :: (X.cells.map (·.2)++ol₃):=q
              rcases List.mem_cons.mp q with q | q
              · exact hloc b hb q
              · rcases List.mem_append.mp q with q | q
                · refine Xeaa (List.mem_map.mp q) fun c hc zz1=>?_; subst zz1
                  obtain ⟨_,⟨o,v,e',_⟩,_⟩:=t.f.cellAt c hc
                  exact nsm (hw _ hb) e'
                · exact nol _ _ _ _ _ _ t₃ b hb q
            · exact m₃ b hb q
          · rcases x.grow.mu b q with q | q
            · exact m₃ b hb q
            · refine Xeaa (hI.objs _ _ _ i₃ b hb) fun o e _=>?_
              exact nsm q e
        refine tg_okI (X:=X.hid wr) ha.handled htg hs' t₃ hv qb fun s₄ ow₄ t₄ x₄=>?_
        obtain ⟨i₄,m₄⟩:=step t₃ i₃ mu₂ x₄
        have x₄':SExt C X lc lc₂ ol ol₂ s s₄:=x₃.trans x₄.unhid
        refine h1 A (X.hid wr) lc₂ ρ₃ ow₄ ol₂ σ₂ s₄ _ _ hs' ha' t₄ ⟨fun q=>K.nb (by rw [q]; rfl),fun ρ' fl σ' lc' ow' ol' s' f e t' x y=>?_,fun k tt σ' lc' s' ee q g x xa=>?_⟩
        · rw [e] at K
          have x':SExt C X lc lc' ol ol' s s':=x₄'.trans x.unhid
          cases fl with
          | nxt =>
            have y:f=.next:=y
            subst y
            obtain ⟨i₅,m₅⟩:=step t₄ i₄ m₄ x
            exact ⟨xs.length,Nat.lt_succ_self _,xs,lc',ρ',ow',ol',σ',rfl,t',i₅,x',m₅,K⟩
          | ret d =>
            refine Xeaa (y) fun v zz1 r=>?_; subst zz1
            exact K.ok ρ' (.ret d) σ' lc' ow' ol' s' (.ret v) rfl t'.unhide x' ⟨v,rfl,relD.unhide r⟩
        · exact K.exN t ha.frames (by rw [q]; rfl) ⟨g.g,g.fr⟩ (HExt.trans x₄' x.unhid) (xa.back' x₄'.old)
  · simp only [xSq,q]; rfl
end
section
variable {prog:Program} {w:World} {A:Around} {E:Value→Shared→Prop} {s:Shared}
theorem setItem_at {l:Addr} {items:Array Value} {k:Int} {t:Tok} {v:Value} {n:Nat} {Q:Unit→Shared→Prop} (hl:s.heap.get? l=some { cls:=.type "list",data:=.seq items n }) (h0:0 ≤ k) (hk:k < 1000) (hn:k < items.size)
    (h:Q () { s with heap:=s.heap.update l (Obj.mapSeq (·.setIfInBounds k.toNat v)) }):wpAny (model prog w) A (setItem (.ref l) (.int k t) v) Q E s:=by
  have hT:s.TypeIs (.ref l) "list":=⟨_,hl,rfl⟩
  have hfit:=fitsIndex_of h0 (k:=k) (by lia)
  clear hk
  unfold setItem
  try with_reducible refine wpAny_holding ?_
  first | refine wpAny_bind (wpAny_pure ?_) | skip
  refine wpAny_bind (wpAny_sequenceKey hT (by decide) ?_)
  refine wpAny_bind (wpAny_callSpecial?_slot (name:=Str.ofString "__setitem__") hT slot_list_setitem (wpAny_call_entry slot_list_setitem hT entry_list_setitem ?_ (args_list_setitem _ _ _)))
  show wpAny _ _ (Builtin.List.listSubscript? (.int k t) >>= _) _ _ s
  refine wpAny_bind (wpAny_listSubscript_int hfit ?_)
  clear hfit
  obtain ⟨j,rfl⟩:=Int.eq_ofNat_of_zero_le h0
  have hj:j < items.size:=by exact (fun {n m}=>Int.ofNat_lt.mp) hn
  show wpAny _ _ ((seqItemAt l j >>= fun r=>pure (r.map (j,·))) >>= _) _ _ s
  refine wpAny_bind (wpAny_bind (wpAny_seqItemAt hl rfl (wpAny_pure ?_)))
  rw [Array.getElem?_eq_getElem hj]
  show wpAny _ _ (setSeqItemAt l j v >>= _) _ _ s
  refine wpAny_bind (wpAny_setSeqItemAt hl rfl ?_)
  exact wpAny_bind (wpAny_pure (wpAny_pure ⟨.none,rfl,wpAny_pure h⟩))
end

section
variable {C:Cst} {G:Nat→D} {NM:Names} {H:Hd} {n:Nat} {sp:Sp} {A:Around} {X:Act} {lc₀ lc lc₁ lc' lc'':Loc} {ρ ρ':Ro} {ow ow':Nat→Option Addr} {ol ol' ol'':List Addr} {σ σ₁ σ':Store} {s₀ s₁ s s' s'':Shared}

theorem set_box {p:Addr × Addr} {z:List Int × Int} {i:Int} {u:Tok} {h':Heap} {tk:Nat} (t:St C X lc ρ ow ol σ s) (hp:lc.box=some p) (hz:σ.box=some z) (hs:Heap.SameBut p.1 s.heap h') (hl:h'.PlainList p.1 #[.ref p.2,.int i u]) :
    Ext C X lc lc ρ ow ol { σ with box:=some (z.1,i) } s { s with heap:=h',toks:=tk }:=by
  have hb:=t.g.box
  rw [hp,hz] at hb
  obtain ⟨ne,tt,xs,⟨k,h1⟩,h2,h3⟩:=hb
  refine Ext.of t (t.g.turn (mu_box1 hp) hs (tab_ne' t.g h1 fun ps e=>?_) ?_ (show RdRel C.PR lc.rd σ.rd h' from rd_apart t.g h1 rfl hs)) (Keep.same hs (mu_box1 hp)) (.refl ..)
  · have:=congrArg Obj.cls e; simp [tabObj] at this
  · rw [hp]
    exact ⟨ne,u,xs,hl,h2.extBut hs.extBut (Ne.symm ne),h3⟩

theorem s_setBox {N:Nat} {o b:Expr} {e₀ e:Mine.E} {k:Nat} {p₀ sp' pos:Pos} (hc:notComp b=true) (h0:EvOK C G H n sp o e₀) (h1:EvOK C G H n sp b e) :
    SOK C G H n N sp (.Assign [.Subscript o (.Constant (.int 1) k p₀) sp'] b pos) (.setBox e₀ e):=fun A X lc ρ ow ol σ s Q E hs ha t K=>by
  refine wpAny_Assign_Subscript ((h1 A X lc ρ ow ol σ s hs ha t).toD.hereS t K fun v s₁ d σ₁ lc₁ _ xt1 r1 K1=>?_) (swaps_plain hc _ _ _)
  refine (h0 A X lc₁ ρ ow ol σ₁ s₁ hs ha xt1.st).hereS xt1.st K1 fun ov s₂ x σ₂ lc₂ _ xt2 r2 K2=>?_
  refine wpAny_Constant_int (k:=k) (pos:=p₀) ?_
  cases x with
  | box =>
    refine Xeaa (r2) fun p e1 zz1=>?_; subst zz1
    cases d with
    | int i =>
      obtain ⟨u,rfl⟩:=RelD.int_inv r1
      have hb:=xt2.st.g.box
      rw [e1] at hb
      cases q:σ₂.box with
      | none=>rw [q] at hb; exact hb.elim
      | some z =>
        rw [q] at hb
        obtain ⟨ne,tt,xs,⟨m,g1⟩,g2,g3⟩:=hb
        have K2:SCont _ _ _ _ _ _ _ (match setBoxS .box (.int i) σ₂ with | some σ₃=>.ok (ρ,.nxt) σ₃ | none=>.bad) Q E:=K2
        simp only [setBoxS,q] at K2
        refine setItem_at g1 (by decide) (by decide) (by simp) ?_
        have xt3:=set_box (i:=i) (u:=u) (tk:=s₂.toks + 1) xt2.st e1 q (Heap.SameBut.update s₂.heap p.1 (Obj.mapSeq (·.setIfInBounds (1:Int).toNat (.int i u)))) (by
          have:=plain_upd g1 (·.setIfInBounds (1:Int).toNat (.int i u))
          simpa using this)
        exact K2.ok ρ .nxt _ lc₂ ow ol _ .next rfl xt3.st (xt3.sext xt2.st) rfl
    | _=>exact absurd rfl K2.nb
  | _=>exact absurd (by cases d <;> rfl) K2.nb
end
end Mine
end
section
set_option tactic.hygienic false
open PySem PySem.W PySem.Calls PyProof.Rows Builtin Builtin.ObjectAttr
namespace Mine
section
variable {prog:Program} {w:World} {A:Around} {E:Value→Shared→Prop} {s:Shared} {K:Frag} {x cl dx:Addr} {es:List DictEntry} {n:Nat} {name:Str} {v:Value} {ox:Obj}

theorem setAttr_at {Q:Unit→Shared→Prop} (X:K.In s.heap) (I:InstAt s.heap x ox cl (some (PySem.W.dictOf es n))) (hd:ox.dict=some dx) (hD:s.heap.get? dx=some (PySem.W.dictOf es n))
    (hs:findIn K (.ref cl) "__setattr__"=some (some (.builtin "object.__setattr__"))) (hp:plainOver K cl=true) (ht:findIn K (.ref cl) name=some none) (hh:(clsIn K cl).any (·.hasDict)=true)
    (hl:es.any (·.key.isStr name)=true) (hz:es.length ≤ 1000)
    (h:∀ h' hsh key,h'.get? dx=some (PySem.W.dictOf (putL name hsh key v es) (putN name es n))→Heap.SameBut dx s.heap h'→Q () { s with heap:=h',toks:=s.toks + 2 }):wpAny (model prog w) A (setAttr (.ref x) name v) Q E s:=by
  refine set_plain X I hs (osa_open (r:=none) (s:={ s with toks:=s.toks + 1 }) X I hp (by unfold takerIn; rw [ht]; rfl) fun b=>?_)
  refine Xeaa (any_some hh) fun cd hc hd'=>?_
  obtain ⟨hx,hcl,hn,-⟩:=I
  obtain ⟨oc,odi,oda,osl⟩:=ox
  dsimp only at hcl hd
  subst hcl hd
  have key:∀ hsh kk,(s.heap.update dx (Obj.putName name hsh kk v)).get? dx=some (PySem.W.dictOf (putL name hsh kk v es) (putN name es n)):=fun hsh kk=>by
    rw [Heap.get?_update_self _ hD (by rw [putName_dict]; rfl),putName_dict]
  have hlen:∀ hsh kk,(putL name hsh kk v es).length ≤ 1001:=fun hsh kk=>by
    have:∀ l:List DictEntry,(putL name hsh kk v l).length ≤ l.length + 1:=fun l=>by
      induction l with
      | nil=>simp [putL]
      | cons e r ih=>unfold putL; split <;> simp <;> lia
    have:=this es
    lia
  refine wpAny_bind (wpAny_pure (wpAny_bind (wpAny_bind (wpAny_loadPart hx (wpAny_bind (looks_clsIn X hc _ _ _ _ (fun _ _ e=>e) ?_))))))
  rw [hd']
  refine wpAny_pure (a:=some dx) (wpAny_bind (wpAny_pure (wpAny_bind ?_)))
  refine wpAny_bind (wpAny_bind (wpAny_askSetting (wpAny_pure (wpAny_bind (wpAny_mkText (wpAny_bind (wpAny_loadPart hD ?_)))))))
  have c:(!(es.toArray).any (·.key.isStr name) && (es.toArray).any (·.refKey))=false:=by
    have:(es.toArray).any (·.key.isStr name)=true:=by rw [← Array.any_toList]; exact hl
    rw [this]; rfl
  dsimp only
  rw [aRefKeyMayBeTheName_at,c]
  refine wpAny_updatePart hD ?_
  refine wpAny_bind (wpAny_lookBehind (key _ _) (pastItsLine_dict (by rw [List.size_toArray,sizeLine_eq]; exact Nat.le_trans (hlen _ _) (by decide))) ?_)
  exact wpAny_pure (h _ _ _ (key _ _) (Heap.SameBut.update ..))
end

section
variable {C:Cst} {G:Nat→D} {NM:Names} {H:Hd} {n:Nat} {sp:Sp} {A:Around} {X:Act} {lc₀ lc lc₁ lc' lc'':Loc} {ρ ρ':Ro} {ow ow':Nat→Option Addr} {ol ol' ol'':List Addr} {σ σ₁ σ':Store} {s₀ s₁ s s' s'':Shared}

theorem put_rd {es:List DictEntry} {r r':Rd} {j:Nat} {nm:Str} {i:Int} {u:Tok} (h:RdEs es r) (hj:attrN[j]?=some nm) (hp:rdPut r j (.int i)=some r'):(∀ hsh key,RdEs (putL nm hsh key (.int i u) es) r')∧es.any (·.key.isStr nm)=true∧es.length ≤ 1000:=by
  refine Xeeeeeeeeeeeea (h) fun h0 k0 t0 h1 k1 t1 h2 k2 t2 h3 k3 t3 zz1=>?_; subst zz1
  have e01:(Value.str "text" k0).isStr "at"=false:=by show (Str.ofString "text" == Str.ofString "at")=false; decide +kernel
  have e02:(Value.str "text" k0).isStr "groups"=false:=by show (Str.ofString "text" == Str.ofString "groups")=false; decide +kernel
  have e03:(Value.str "text" k0).isStr "farthest_back"=false:=by show (Str.ofString "text" == Str.ofString "farthest_back")=false; decide +kernel
  have e12:(Value.str "at" k1).isStr "groups"=false:=by show (Str.ofString "at" == Str.ofString "groups")=false; decide +kernel
  have e13:(Value.str "at" k1).isStr "farthest_back"=false:=by show (Str.ofString "at" == Str.ofString "farthest_back")=false; decide +kernel
  have e23:(Value.str "groups" k2).isStr "farthest_back"=false:=by show (Str.ofString "groups" == Str.ofString "farthest_back")=false; decide +kernel
  have e11:(Value.str "at" k1).isStr "at"=true:=by show (Str.ofString "at" == Str.ofString "at")=true; decide +kernel
  have e22:(Value.str "groups" k2).isStr "groups"=true:=by show (Str.ofString "groups" == Str.ofString "groups")=true; decide +kernel
  have e33:(Value.str "farthest_back" k3).isStr "farthest_back"=true:=by show (Str.ofString "farthest_back" == Str.ofString "farthest_back")=true; decide +kernel
  have hp:rdSet r i j=some r':=hp
  rcases rdSet_inv hp with ⟨q,zz⟩ | ⟨q,zz⟩ | ⟨q,zz⟩ <;> subst q <;> subst zz <;> cases hj
  · refine ⟨fun hsh key=>⟨h0,k0,t0,h1,k1,u,h2,k2,t2,h3,k3,t3,?_⟩,by simp [e01,e11],by simp⟩
    simp [putL,e01,e11]
  · refine ⟨fun hsh key=>⟨h0,k0,t0,h1,k1,t1,h2,k2,u,h3,k3,t3,?_⟩,by simp [e02,e12,e22],by simp⟩
    simp [putL,e02,e12,e22]
  · refine ⟨fun hsh key=>⟨h0,k0,t0,h1,k1,t1,h2,k2,t2,h3,k3,u,?_⟩,by simp [e03,e13,e23,e33],by simp⟩
    simp [putL,e03,e13,e23,e33]
theorem rdPut_int {r r':Rd} {j:Nat} {d:D} (h:rdPut r j d=some r'):∃ i,d=.int i:=by
  refine Xeaa (Option.bind_eq_some_iff.mp h) fun i h _=>?_
  exact ⟨i,D.asInt_inv h⟩

theorem box_apart {a:Addr} {o:Obj} {h':Heap} (g:GRel C lc σ s) (ho:s.heap.get? a=some o) (hc:o.cls=.type "dict") (hs:Heap.SameBut a s.heap h'):BoxRel lc.box σ.box h':=by
  have hb:=g.box
  cases q:lc.box <;> cases q2:σ.box <;> rw [q,q2] at hb <;> first | exact hb.elim | trivial | skip
  obtain ⟨ne,t,xs,⟨n1,e1⟩,⟨n2,e2⟩,hi⟩:=hb
  refine ⟨ne,t,xs,⟨n1,hs.extBut _ _ (fun z=>?_) e1⟩,⟨n2,hs.extBut _ _ (fun z=>?_) e2⟩,hi⟩
  · rw [z] at e1; cases ssm ho e1; simp at hc
  · rw [z] at e2; cases ssm ho e2; simp at hc

theorem set_rd {p:Addr × Addr} {r r':Rd} {es es':List DictEntry} {m m':Nat} {h':Heap} {tk:Nat} (t:St C X lc ρ ow ol σ s) (hp:lc.rd=some p) (hr:σ.rd=some r) (h2:s.heap.get? p.2=some (PySem.W.dictOf es m)) (hs:Heap.SameBut p.2 s.heap h') (hl:h'.get? p.2=some (PySem.W.dictOf es' m')) (hi:RdEs es' r') :
    Ext C X lc lc ρ ow ol { σ with rd:=some r' } s { s with heap:=h',toks:=tk }:=by
  have hb:=t.g.rd
  rw [hp,hr] at hb
  refine Xaa (hb) fun h1 _=>?_
  have ne:p.1 ≠ p.2:=fun q=>by rw [q] at h1; cases ssm h2 h1
  refine Ext.of t (t.g.turn (mu_rd hp) hs (tab_ne' t.g h2 fun ps e=>?_) (show BoxRel lc.box σ.box h' from box_apart t.g h2 rfl hs) ?_) (Keep.same hs (mu_rd hp)) (.refl ..)
  · have:=congrArg Obj.data e; simp [tabObj] at this
  · rw [hp]
    exact ⟨hs.extBut _ _ ne h1,es',m',hl,hi⟩

theorem rd_set {ov:Value} {r r':Rd} {j:Nat} {nm:Str} {i:Int} {u:Tok} {mN:Nat→Option Str} {Q:Unit→Shared→Prop} {E:Value→Shared→Prop} (ok:COK C G NM) (rk:ROK C NM mN) (t:St C X lc ρ ow ol σ s) (r2:relV C X ol lc s.heap .rd ov) (hr:σ.rd=some r) (hj:attrN[j]?=some nm) (hp:rdPut r j (.int i)=some r')
    (K:∀ s',Ext C X lc lc ρ ow ol { σ with rd:=some r' } s s'→Q () s'):wpAny C.M A (setAttr ov nm (.int i u)) Q E s:=by
  refine Xeeeaaaaa (rd_inst t r2 hr) fun p es m e1 zz1 e2 e3 I=>?_; subst zz1
  refine Xaaa (put_rd (u:=u) e2 hj hp) fun g1 g2 g3=>?_
  exact setAttr_at (ok.at t.g) I rfl e3 rk.sa rk.po (rk.at_ j nm hj) rk.hd g2 g3 fun h' hsh key e5 e6=>K _ (set_rd t e1 hr e3 e6 e5 (g1 hsh key))

theorem s_setAttr {N:Nat} {o b:Expr} {e₀ e:Mine.E} {j:Nat} {nm:Str} {ap pos:Pos} {mN:Nat→Option Str} (ok:COK C G NM) (rk:ROK C NM mN) (hj:attrN[j]?=some nm) (hc:notComp b=true) (h0:EvOK C G H n sp o e₀) (h1:EvOK C G H n sp b e) :
    SOK C G H n N sp (.Assign [.Attribute o nm ap] b pos) (.setAttr e₀ j e):=fun A X lc ρ ow ol σ s Q E hs ha t K=>by
  refine plainObj_wpAny_Assign_Attribute ((h1 A X lc ρ ow ol σ s hs ha t).toD.hereS t K fun v s₁ d σ₁ lc₁ _ xt1 r1 K1=>?_) (swaps_plain hc _ _ _)
  refine (h0 A X lc₁ ρ ow ol σ₁ s₁ hs ha xt1.st).hereS xt1.st K1 fun ov s₂ x σ₂ lc₂ _ xt2 r2 K2=>?_
  replace K2:SCont _ _ _ _ _ _ _ (match setAttrS x j d σ₂ with | some σ₃=>.ok (ρ,.nxt) σ₃ | none=>.bad) Q E:=K2
  cases x with
  | rd =>
    refine Xea (rd_store xt2.st r2) fun r hr=>?_
    have e0:setAttrS .rd j d σ₂=(rdPut r j d).map fun r'=>{ σ₂ with rd:=some r' }:=by unfold setAttrS; rw [hr]
    rw [e0] at K2
    cases q:rdPut r j d with
    | none=>rw [q] at K2; exact absurd rfl K2.nb
    | some r' =>
      rw [q] at K2
      refine Xea (rdPut_int q) fun i zz1=>?_; subst zz1
      refine Xea (RelD.int_inv r1) fun u zz1=>?_; subst zz1
      exact rd_set ok rk xt2.st r2 hr hj q fun s₃ xt3=>K2.ok ρ .nxt _ lc₂ ow ol _ .next rfl xt3.st (xt3.sext xt2.st) rfl
  | _=>exact absurd (by simp [setAttrS]) K2.nb

theorem rd_get {ov:Value} {r:Rd} {j:Nat} {nm:Str} {d:D} {mN:Nat→Option Str} {Q:Value→Shared→Prop} {E:Value→Shared→Prop} (ok:COK C G NM) (rk:ROK C NM mN) (t:St C X lc ρ ow ol σ s) (r2:relV C X ol lc s.heap .rd ov) (hr:σ.rd=some r) (hj:attrN[j]?=some nm) (hd:rdGet r j=some d)
    (K:KD C X lc ρ ow ol σ s Q d):wpAny C.M A (getAttr ov nm true) Q E s:=by
  refine Xeeeaaaaa (rd_inst t r2 hr) fun p es' m e1 zz1 e2 e3 I=>?_; subst zz1
  refine Xeaa (any_some rk.hd) fun cd hcd hdict=>?_
  have hnone:=rk.at_ j nm hj
  have key:∀ v,getL nm es'=some (some v)→handedIn v=true→relD C X ol lc s.heap d v→wpAny C.M A (getAttr (.ref p.1) nm true) Q E s:=fun v hg hh hr=>by
    refine get_value (v:=v) (ok.at t.g) I rk.ga ?_ hh (K.toks t hr)
    unfold findObj
    rw [hcd,Option.bind_some,hnone,Option.bind_some]
    simp only [Option.bind_some,PySem.W.ownOf,hdict,if_true]
    rw [lookIn_dict,hg]
    rfl
  refine Xeeeeeeeeeeeea (e2) fun h0 k0 t0 h1 k1 t1 h2 k2 t2 h3 k3 t3 zz1=>?_; subst zz1
  rcases rdGet_inv hd with ⟨q,zz⟩ | ⟨q,zz⟩ | ⟨q,zz⟩ | ⟨q,zz⟩ <;> subst q <;> subst zz <;> cases hj
  · exact key _ rfl rfl (.str _ _)
  · exact key _ rfl rfl (.int _ _)
  · exact key _ rfl rfl (.int _ _)
  · exact key _ rfl rfl (.int _ _)

theorem s_addAttr {N:Nat} {o b:Expr} {e₀ e:Mine.E} {j:Nat} {nm:Str} {ap pos:Pos} {mN:Nat→Option Str} (ok:COK C G NM) (rk:ROK C NM mN) (hj:attrN[j]?=some nm) (h0:EvOK C G H n sp o e₀) (h1:EvOK C G H n sp b e) :
    SOK C G H n N sp (.AugAssign (.Attribute o nm ap) .Add b pos) (.addAttr e₀ j e):=fun A X lc ρ ow ol σ s Q E hs ha t K=>by
  refine wpAny_AugAssign_AttributeAny ((h0 A X lc ρ ow ol σ s hs ha t).hereS t K fun ov s₁ x σ₁ lc₁ _ xt1 r1 K1=>?_)
  replace K1:SCont _ _ _ _ _ _ _ ((ofOpt σ₁ (attrInt x j σ₁)).bind fun o σ₁=>(toD (evE G H e ρ σ₁)).bind fun d σ₂=>match (addD o d).bind fun d'=>setAttrS x j d' σ₂ with
    | some σ₃=>.ok (ρ,.nxt) σ₃
    | none=>.bad) Q E:=K1
  cases x with
  | rd =>
    refine Xea (rd_store xt1.st r1) fun r hr=>?_
    have e0:attrInt .rd j σ₁=(rdGet r j).bind D.asInt:=by unfold attrInt; rw [hr]
    rw [e0] at K1
    cases q:rdGet r j with
    | none=>rw [q] at K1; exact absurd rfl K1.nb
    | some d0 =>
      rw [q] at K1
      cases d0 with
      | int a =>
        replace K1:SCont _ _ _ _ _ _ _ ((toD (evE G H e ρ σ₁)).bind fun d σ₂=>match (addD a d).bind fun d'=>setAttrS .rd j d' σ₂ with
          | some σ₃=>.ok (ρ,.nxt) σ₃
          | none=>.bad) Q E:=K1
        refine rd_get ok rk xt1.st r1 hr hj q fun lc₂ s₂ v xt2 r2=>?_
        refine Xea (RelD.int_inv r2) fun u zz1=>?_; subst zz1
        have K2:=K1.next (s':=s₂) (lc':=lc₂) (ρ':=ρ) (ow':=ow) (ol':=ol) (xt2.sext xt1.st) rfl
        refine (h1 A X lc₂ ρ ow ol σ₁ s₂ hs ha xt2.st).toD.hereS xt2.st K2 fun v s₃ d σ₃ lc₃ _ xt3 r3 K3=>?_
        replace K3:SCont _ _ _ _ _ _ _ (match (addD a d).bind fun d'=>setAttrS .rd j d' σ₃ with
          | some σ₃=>.ok (ρ,.nxt) σ₃
          | none=>.bad) Q E:=K3
        cases d with
        | int b =>
          refine Xea (RelD.int_inv r3) fun u3 zz1=>?_; subst zz1
          have r4:=xt3.relV (xt2.relV r1)
          refine Xea (rd_store xt3.st r4) fun r' hr'=>?_
          have e0:((addD a (.int b)).bind fun d'=>setAttrS .rd j d' σ₃)=(rdPut r' j (.int (a + b))).map fun r'=>{ σ₃ with rd:=some r' }:=by
            show setAttrS .rd j (.int (a + b)) σ₃=_
            unfold setAttrS; rw [hr']
          rw [e0] at K3
          cases q2:rdPut r' j (.int (a + b)) with
          | none=>rw [q2] at K3; exact absurd rfl K3.nb
          | some r'' =>
            rw [q2] at K3
            refine PySem.AutoIntOps.iadd_0 ?_
            have xt4:Ext C X lc₃ lc₃ ρ ow ol σ₃ s₃ { s₃ with toks:=s₃.toks + 1 }:=Ext.toks xt3.st
            exact rd_set ok rk xt4.st (xt4.relV r4) hr' hj q2 fun s₅ xt5=>K3.ok ρ .nxt _ lc₃ ow ol _ .next rfl xt5.st ((xt4.trans xt5).sext xt3.st) rfl
        | _=>exact absurd rfl K3.nb
      | _=>exact absurd rfl K1.nb
  | _=>exact absurd (by simp [attrInt,ofOpt,R.bind]) K1.nb
end
end Mine
end
section
set_option tactic.hygienic false
open PySem PySem.W PyProof.Rows
namespace Mine
section
variable {C:Cst} {G:Nat→D} {NM:Names} {H:Hd} {n:Nat} {sp:Sp} {A:Around} {X:Act} {lc₀ lc lc₁ lc' lc'':Loc} {ρ ρ':Ro} {ow ow':Nat→Option Addr} {ol ol' ol'':List Addr} {σ σ₁ σ':Store} {s₀ s₁ s s' s'':Shared}

theorem own_hid {a:Addr} {xs:List Value} (t:St C (X.hid [a]) lc ρ ow ol σ s) (hl:s.heap.PlainList a xs.toArray) (ha:a ∉ lc.mu C∧a ≠ X.env.locals∧a ∉ X.hx):St C X lc ρ ow (a :: ol) σ s:=by
  have f:=t.f
  have hs:Sub (fz s.heap ((X.hid [a]).Z C lc ol)) (fz s.heap (X.Z C lc (a :: ol))):=Sub.of_fz fun b hb=>by
    show b ∈ X.M ol++(lc.mu C++([a]++X.hx))
    unfold Act.Z Act.M at hb
    unfold Act.M
    simp only [List.mem_append,List.mem_cons,List.not_mem_nil,or_false] at hb ⊢
    rcases hb with (h | h | h | h) | h | h
    · exact .inl (.inl h)
    · exact .inl (.inr (.inl h))
    · exact .inr (.inr (.inl h))
    · exact .inl (.inr (.inr h))
    · exact .inr (.inl h)
    · exact .inr (.inr (.inr h))
  refine Xeaa (f.ns) fun m hn hr=>?_
  refine ⟨t.g,{ kind:=f.kind,globals:=f.globals,builtins:=f.builtins,frame:=f.frame,slots:=f.slots,cells:=f.cells,cellAt:=f.cellAt,cellInj:=f.cellInj,slInj:=f.slInj,ownLoc:=f.ownLoc,ownInj:=f.ownInj,locNew:=f.locNew,locMut:=f.locMut,ns:=⟨m,hn,fun j u y kd e1 e2=>?_⟩,ownIn:=fun j b e=>List.mem_cons_of_mem _ (f.ownIn j b e),ownNew:=fun b hb=>?_,hxOld:=fun b hb=>f.hxOld b (.tail _ hb),hxNew:=fun b hb=>f.hxNew b (.tail _ hb) },t.fr⟩
  · refine Xeaa (hr j u y kd e1 e2) fun val g1 g2=>?_
    exact ⟨val,g1,g2.keep hs (.refl ..) fun b ys e x=>x⟩
  · rcases List.mem_cons.mp hb with rfl | hb
    · exact ⟨ha.1,f.hxNew b (.head _),ha.2.1,ha.2.2,_,hl⟩
    · refine Xaaaaea (f.ownNew b hb) fun m1 m2 m3 m4 ys hy=>?_
      exact ⟨m1,m2,m3,fun q=>m4 (.tail _ q),ys,hy⟩

theorem swap_two {x y:Str} {px py tp p2 lp bp:Pos} {k k2:Nat} {l r:Expr} {op:Operator} {env:Env} (hk:env.scope.kind=.function) (hx:env.kindOf x=some .local) (hy:env.kindOf y=some .local) (hp:(py.line == px.line)=true) (hxy:(x == y)=false)
    (hl:constantsAlone 7 l=false) :
    swappedStores [.Tuple [.Name x px,.Name y py] k tp] (.Tuple [.List [] lp,.BinOp l op r bp] k2 p2) env=pure (some [x,y]):=by
  have hb:(env.blockKind != .function)=false:=by unfold Env.blockKind; rw [hk]; rfl
  have hyx:(y == x)=false:=by
    rw [beq_eq_false_iff_ne] at hxy ⊢
    exact fun q=>hxy q.symm
  have hp':py.line=px.line:=by simpa using hp
  have p1:∀ z p,(Expr.Name z p).pos=p:=fun _ _=>rfl
  have f1:∀ n,foldedForSure n (.List [] lp)=false:=fun n=>by cases n <;> rfl
  have f2:∀ n,constantsAlone n (.List [] lp)=false:=fun n=>by cases n <;> rfl
  unfold swappedStores
  simp [hb,hx,hy,hp',hxy,hyx,p1,List.eraseDups,List.eraseDupsBy,List.eraseDupsBy.loop,f1,f2]

theorem mul_new {A:Around} {E:Value→Shared→Prop} {a:Addr} {v:Value} {i:Int} {u:Tok} {Q:Value→Shared→Prop} (h1:s.heap.get? a=some { cls:=.type "list",data:=.seq #[v] }) (h0:0 ≤ i) (h:i ≤ LIM)
    (K:Q (.ref s.heap.objs.size) { s with heap:=s.heap.push { cls:=.type "list",data:=.seq (List.replicate i.toNat v).toArray } }):wpAny C.M A (binaryOp .Mult (.ref a) (.int i u)) Q E s:=by
  have hl:i ≤ 100000:=h
  refine wpAny_binaryOp_repeat_ref (T:="list") (U:="int") (by decide) ⟨_,h1,rfl⟩ (fun s'=>typeIs_int s' i u) noFill_list_mul PySem.F.fills_int_mul PySem.F.slot_int_rmul repeat_list PySem.F.slot_int_index.lookup
    (call_meets PySem.F.slot_int_rmul (typeIs_int s i u) PySem.F.entry_int_rmul (PySem.F.args_int_rmul_2 _ _) (lm_int_rmul_list_any i u a _ 0 none #[])
      ⟨h1,rfl,⟨_,h1,rfl⟩,call_meets PySem.F.slot_list_mul ⟨_,h1,rfl⟩ PySem.F.entry_list_mul (PySem.F.args_list_mul_2 _ _)
        (lm_list_mul_any a _ 0 none #[] i u (by simp [Builtin.List.listFitsIndex]; lia) (by simp; lia) (by simp [Builtin.List.listTooLong,sizeLine]; lia))
        ⟨h1,?_⟩⟩)
  rw [fold_one]
  simpa using K

theorem put_comm (ρ:Ro) {k j:Nat} (h:k ≠ j) (a b:V):(ρ.put k a).put j b=(ρ.put j b).put k a:=by
  exact List.set_comm _ _ (fun q=>h q)

theorem s_own2 {N:Nat} {x y:Str} {px py tp p2 lp bp ep fp mp pos:Pos} {k k2 k3 k4 i j:Nat} {m:Nat} (hi:sp.sl[i]?=some (some (x,.local))) (hj:sp.sl[j]?=some (some (y,.local))) (hx:sp.scope.names.lookup x=some .local) (hy:sp.scope.names.lookup y=some .local)
    (hp:(py.line == px.line)=true) (hxy:(x == y)=false) (hm:m ≤ LIM) :
    SOK C G H n N sp (.Assign [.Tuple [.Name x px,.Name y py] k tp] (.Tuple [.List [] lp,.BinOp (.List [.Constant (.bool false) k3 fp] ep) .Mult (.Constant (.int (m:Int)) k4 mp) bp] k2 p2) pos) (.own2 i j m):=fun A X lc ρ ow ol σ s Q E hs ha t K=>by
  have hij:i ≠ j:=fun q=>by
    subst q
    rw [hi] at hj
    injection hj with hj
    injection hj with hj
    injection hj with hj
    rw [hj] at hxy
    simp at hxy
  refine Assign_Tuple_swapped (names:=[x,y]) ?_ rfl (swap_two t.f.kind (by unfold Env.kindOf; rw [hs.scope]; exact hx) (by unfold Env.kindOf; rw [hs.scope]; exact hy) hp hxy (by rfl))
  refine wpAny_Tuple ?_
  show wpAny _ _ (spliced [(false,eval (.List [] lp) X.env),(false,eval (.BinOp (.List [.Constant (.bool false) k3 fp] ep) .Mult (.Constant (.int (m:Int)) k4 mp) bp) X.env)]) _ _ _
  refine Calls.spliced_cons (wpAny_List_spliced ?_)
  show wpAny _ _ (pure []) _ _ _
  refine wpAny_pure ⟨Nat.zero_le _,?_⟩
  refine Calls.spliced_cons (wpAny_BinOp (wpAny_List_spliced ?_))
  show wpAny _ _ (spliced [(false,eval (.Constant (.bool false) k3 fp) X.env)]) _ _ _
  refine Calls.spliced_cons (wpAny_Constant_bool ?_)
  show wpAny _ _ (pure []) _ _ _
  refine wpAny_pure ⟨by decide,?_⟩
  refine wpAny_Constant_int ?_
  refine mul_new (Heap.get?_push_size _ rfl) (by exact Int.natCast_nonneg m) (by exact_mod_cast hm) ?_
  show wpAny _ _ (pure []) _ _ _
  refine wpAny_pure ⟨lim_size (n:=2) (by decide),?_⟩
  dsimp only
  have hA:=Heap.get?_push_size s.heap (o:={ cls:=.type "list",data:=.seq ([]:List Value).toArray }) rfl
  have k1:∀ b o,s.heap.get? b=some o→(s.heap.push { cls:=.type "list",data:=.seq ([]:List Value).toArray }).get? b=some o:=fun _ _ e=>Heap.get?_push_of_some _ e
  have hAn:=none_at_end s.heap
  generalize hh1:s.heap.push { cls:=.type "list",data:=.seq ([]:List Value).toArray }=h1 at *
  generalize hAa:s.heap.objs.size=A1 at *
  have k2':∀ b o,h1.get? b=some o→(h1.push { cls:=.type "list",data:=.seq [Value.bool false].toArray }).get? b=some o:=fun _ _ e=>Heap.get?_push_of_some _ e
  generalize hh2:h1.push { cls:=.type "list",data:=.seq [Value.bool false].toArray }=h2 at *
  have hR:=Heap.get?_push_size h2 (o:={ cls:=.type "list",data:=.seq (List.replicate (m:Int).toNat (Value.bool false)).toArray }) rfl
  have k3':∀ b o,h2.get? b=some o→(h2.push { cls:=.type "list",data:=.seq (List.replicate (m:Int).toNat (Value.bool false)).toArray }).get? b=some o:=fun _ _ e=>Heap.get?_push_of_some _ e
  have hRn:=none_at_end h2
  generalize hh3:h2.push { cls:=.type "list",data:=.seq (List.replicate (m:Int).toNat (Value.bool false)).toArray }=h3 at *
  generalize hRa:h2.objs.size=R1 at *
  have hT:=Heap.get?_push_size h3 (o:={ cls:=.type "tuple",data:=.seq [Value.ref A1,Value.ref R1].toArray }) rfl
  have k4':∀ b o,h3.get? b=some o→(h3.push { cls:=.type "tuple",data:=.seq [Value.ref A1,Value.ref R1].toArray }).get? b=some o:=fun _ _ e=>Heap.get?_push_of_some _ e
  refine unpackItems_tuple (items:=[Value.ref A1,Value.ref R1].toArray) ha.handled ⟨_,hT,rfl,_,rfl⟩ fun h' e=>?_
  have k5:∀ b o,(h3.push { cls:=.type "tuple",data:=.seq [Value.ref A1,Value.ref R1].toArray }).get? b=some o→h'.get? b=some o:=fun b o eb=>e b o (fun q=>by rw [q] at eb; exact nsm (none_at_end _) eb) eb
  have kall:∀ b o,h1.get? b=some o→h'.get? b=some o:=fun b o e=>k5 _ _ (k4' _ _ (k3' _ _ (k2' _ _ e)))
  have hRn0:s.heap.get? R1=none:=old_none (fun b o e=>⟨o,k2' _ _ (k1 _ _ e)⟩) hRn
  have hAR:A1 ≠ R1:=fun q=>by
    have:=k2' _ _ hA
    rw [q] at this; exact nsm hRn this
  have kk:∀ b o,s.heap.get? b=some o→h'.get? b=some o:=fun b o e=>kall _ _ (k1 _ _ e)
  have lA:h'.PlainList A1 ([]:List Value).toArray:=⟨0,kall _ _ hA⟩
  have lR:h'.PlainList R1 (List.replicate m (Value.bool false)).toArray:=⟨0,k5 _ _ (k4' _ _ (by simpa using hR))⟩
  refine Xaa (M_fresh t hAn) fun a1 a2=>?_
  refine Xaa (M_fresh t hRn0) fun r1 r2=>?_
  have aL:A1 ≠ X.env.locals:=fun q=>a1 (by rw [q]; exact .head _)
  have rL:R1 ≠ X.env.locals:=fun q=>r1 (by rw [q]; exact .head _)
  have t0:St C ((X.hid [A1]).hid [R1]) lc ρ ow ol σ { s with heap:=h',toks:=s.toks + 1 }:=t.hide (wr:=[R1,A1]) kk fun b hb=>by
    simp only [List.mem_cons,List.not_mem_nil,or_false] at hb
    rcases hb with rfl | rfl
    · exact ⟨hRn0,let ⟨_,e⟩:=lR; ⟨_,e⟩⟩
    · exact ⟨hAn,let ⟨_,e⟩:=lA; ⟨_,e⟩⟩
  have mA:A1 ∉ lc.mu C:=Loc.mu_old t.g hAn
  have mR:R1 ∉ lc.mu C:=Loc.mu_old t.g hRn0
  have t1:=own_hid t0 lR ⟨mR,rL,fun q=>by
    rcases List.mem_cons.mp q with q | q
    · exact hAR q.symm
    · exact r2 q⟩
  have x0:SExt C X lc lc ol (R1 :: ol) s { s with heap:=h',toks:=s.toks + 1 }:=⟨⟨.all kk,.refl ..,fun b o e=>⟨o,kk b o e⟩⟩,fun b hb=>by
    rcases List.mem_cons.mp hb with rfl | hb
    · exact .inr hRn0
    · exact .inl hb⟩
  show wpAny _ _ (do holding _ (bindName X.env y (.ref R1)); assignInOrder [bindName X.env x] [.ref A1]) _ _ _
  refine wpAny_bind (wpAny_holding (wpAny_bindName ?_))
  have rep:∀ {F:Heap} (m:Nat),RelDs C.prog C.w F (List.replicate m (.bool false)) (List.replicate m (.bool false)):=fun m=>RelDs.replicate (.bool false) m
  refine store_ok (X:=X.hid [A1]) ⟨hs.scope,hs.sl,hs.cn,hs.code,hs.qual⟩ hj (.inl rfl) t1 (v:=.own (List.replicate m (.bool false))) (o:=some R1) ⟨R1,_,rfl,rfl,lR,rep m⟩ (fun b e=>?_) fun s₃ t₃ x₃=>?_
  · cases e
    exact ⟨.head _,fun j q=>absurd q (ow_fresh t hRn0 j)⟩
  · show wpAny _ _ (do holding _ (bindName X.env x (.ref A1)); assignInOrder [] []) _ _ _
    refine wpAny_bind (wpAny_holding (wpAny_bindName ?_))
    have hA1:s₃.heap.PlainList A1 ([]:List Value).toArray:=PlainList.keep x₃.keep (fun q=>by
      rcases List.mem_append.mp q with q | q
      · have q:A1 ∈ X.env.locals :: (X.cells.map (·.2)++(R1 :: ol)):=q
        simp only [List.mem_cons,List.mem_append] at q
        rcases q with q | q | q | q
        · exact aL q
        · exact a1 (.tail _ (List.mem_append_left _ q))
        · exact hAR q
        · exact a1 (.tail _ (List.mem_append_right _ q))
      · exact mA q) lA
    have t4:=own_hid t₃ hA1 ⟨mA,aL,a2⟩
    have x4:SExt C X lc lc ol (A1 :: R1 :: ol) s s₃:=⟨(x0.trans x₃.unhid).toHExt,fun b hb=>by
      rcases List.mem_cons.mp hb with rfl | hb
      · exact .inr hAn
      · exact (x0.trans x₃.unhid).olNew b hb⟩
    refine store_ok hs hi (.inl rfl) t4 (v:=.own []) (o:=some A1) ⟨A1,[],rfl,rfl,hA1,.nil⟩ (fun b e=>?_) fun s₄ t₄ x₄=>?_
    · cases e
      refine ⟨.head _,fun q e=>?_⟩
      unfold setOw at e
      split at e
      · cases e; exact absurd rfl hAR
      · exact absurd e (ow_fresh t hAn q)
    · exact wpAny_pure (K.ok _ .nxt σ lc _ _ s₄ .next (by show R.ok ((ρ.put i (.own [])).put j (.own (List.replicate m (.bool false))),Fl.nxt) σ=_; rw [put_comm ρ hij]) t₄ (x4.trans x₄) rfl)
end
section
variable {C:Cst} {G:Nat→D} {NM:Names} {H:Hd} {n:Nat} {sp:Sp} {A:Around} {X:Act} {lc₀ lc lc₁ lc' lc'':Loc} {ρ ρ':Ro} {ow ow':Nat→Option Addr} {ol ol' ol'':List Addr} {σ σ₁ σ':Store} {s₀ s₁ s s' s'':Shared}

theorem ext_take (xs:List Value) (k:Nat):xs.toArray.extract 0 k=(xs.take k).toArray:=by
  apply Array.ext'
  simp [List.extract]
theorem ext_drop (xs:List Value) (k:Nat):xs.toArray.extract k=(xs.drop k).toArray:=by
  apply Array.ext'
  simp [List.extract]
  exact List.take_of_length_le (by simp)

theorem s_setSlice {N:Nat} {lo hi b:Expr} {e₁ e₂ e:Mine.E} {k:Nat} {x:Str} {p slp sp' pos:Pos} (hx:okName x=true) (hc:notComp b=true) (hk:sp.sl[k]?=some (some (x,.local))) (h1:EvOK C G H n sp lo e₁) (h2:EvOK C G H n sp hi e₂) (h3:EvOK C G H n sp b e) :
    SOK C G H n N sp (.Assign [.Subscript (.Name x p) (.Slice (some lo) (some hi) none slp) sp'] b pos) (.setSlice k e₁ e₂ e):=fun A X lc ρ ow ol σ s Q E hs ha t K=>by
  have hd:(x == ("__debug__":Str))=false:=by simp only [okName,Bool.and_eq_true,Bool.not_eq_true'] at hx; exact hx.1
  refine wpAny_Assign_Subscript ((h3 A X lc ρ ow ol σ s hs ha t).toD.hereS t K fun v s₁ d σ₁ lc₁ _ xt1 r1 K1=>?_) (swaps_plain hc _ _ _)
  replace K1:SCont _ _ _ _ _ _ _ ((ofOpt σ₁ (ownOf (ρ.get k))).bind fun l σ₁=>(toD (evE G H e₁ ρ σ₁)).bind fun x σ₂=>(toD (evE G H e₂ ρ σ₂)).bind fun y σ₃ =>
    match x,y with
    | .int a,.int b=>(ofOpt σ₃ (setSl l a b d)).bind fun l' σ₄=>.ok (ρ.put k (.own l'),.nxt) σ₄
    | _,_=>.bad) Q E:=K1
  cases q:ownOf (ρ.get k) with
  | none=>exact absurd (by rw [q]; rfl) K1.nb
  | some l =>
    rw [q] at K1
    replace K1:SCont _ _ _ _ _ _ _ ((toD (evE G H e₁ ρ σ₁)).bind fun x σ₂=>(toD (evE G H e₂ ρ σ₂)).bind fun y σ₃ =>
      match x,y with
      | .int a,.int b=>(ofOpt σ₃ (setSl l a b d)).bind fun l' σ₄=>.ok (ρ.put k (.own l'),.nxt) σ₄
      | _,_=>.bad) Q E:=K1
    have q':=ownOf_some q
    refine wpAny_Name (own_slot hx hs hk xt1.st q' fun a xs ea g1 g2=>?_) hd
    refine wpAny_Slice (wpAny_mono ((h1 A X lc₁ ρ ow ol σ₁ s₁ hs ha xt1.st).toD.hereS xt1.st K1 (Q:=fun l s₁=>wpAny C.M A (evalPart (some hi) X.env) (fun u s₂=>wpAny C.M A (evalPart none X.env) (fun st s₃ =>
      wpAny C.M A (setItem (.ref a) (.ref s₃.heap.objs.size) v) (fun _=>Q .next) E { s₃ with heap:=s₃.heap.push { cls:=.type "slice",data:=.fields #[l,u,st] } }) E s₂) E s₁) fun lv s₂ y₁ σ₂ lc₂ _ xt2 r2 K2=>?_) (fun _ _ x=>x) fun _ _ x=>x)
    show wpAny C.M A (eval hi X.env) _ E s₂
    refine (h2 A X lc₂ ρ ow ol σ₂ s₂ hs ha xt2.st).toD.hereS xt2.st K2 fun hv s₃ y₂ σ₃ lc₃ _ xt3 r3 K3=>?_
    show wpAny C.M A (pure Value.none) _ E s₃
    refine wpAny_pure ?_
    cases y₁ with
    | int i =>
      cases y₂ with
      | int j =>
        obtain ⟨u1,rfl⟩:=RelD.int_inv r2
        obtain ⟨u2,rfl⟩:=RelD.int_inv r3
        replace K3:SCont _ _ _ _ _ _ _ ((ofOpt σ₃ (setSl l i j d)).bind fun l' σ₄=>.ok (ρ.put k (.own l'),.nxt) σ₄) Q E:=K3
        cases q3:setSl l i j d with
        | none=>rw [q3] at K3; exact absurd rfl K3.nb
        | some l' =>
          rw [q3] at K3
          replace K3:SCont _ _ _ _ _ _ _ (.ok (ρ.put k (.own l'),.nxt) σ₃) Q E:=K3
          refine Xeaa (Option.bind_eq_some_iff.mp q3) fun m h e2=>?_
          clear q3
          cases D.asLst_inv h
          · refine Xaa (iteS e2) fun hb zz=>?_; clear e2; subst zz
            · refine Xaaaaa (hb) fun c1 c2 c3 c4 c5=>?_
              refine Xeeaaa (RelD.lst_inv r1) fun bb ys zz1 hb1 hb2=>?_; subst zz1
              have hb1':=list_sub (xt2.trans xt3).sub hb1
              have hb2':=(xt2.trans xt3).relDs hb2
              have kp:∀ b o,s₃.heap.get? b=some o→(s₃.heap.push { cls:=.type "slice",data:=.fields #[.int i u1,.int j u2,.none] }).get? b=some o:=fun _ _ e=>Heap.get?_push_of_some _ e
              have hm:a ∉ lc₁.mu C:=(xt1.st.f.ownNew a (xt1.st.f.ownIn k a ea)).1
              obtain ⟨z,g3⟩:=PlainList.keep (xt2.trans xt3).keep hm g1
              have g4:=(xt2.trans xt3).relDs g2
              refine Xeaaea (isList_of hb1') fun ob ho hcl nb hdb=>?_
              have hab:a ≠ bb:=fun q=>by
                refine Xeaa (hb1') fun o ho' _=>?_
                obtain ⟨_,hz⟩:=fz_get.mp ho'
                refine hz ?_
                rw [← q]
                exact List.mem_append_left _ (.tail _ (List.mem_append_right _ (xt1.st.f.ownIn k a ea)))
              have l1:=g4.length
              have l2:=hb2'.length
              have t4:Ext C X lc₃ lc₃ ρ ow ol σ₃ s₃ { s₃ with heap:=s₃.heap.push { cls:=.type "slice",data:=.fields #[.int i u1,.int j u2,.none] } }:=Ext.all xt3.st kp
              refine setSlice_list (kp _ _ g3) (kp _ _ ho) hcl hdb hab (Heap.IsSliceOf.new ..) c1 c2 (by rw [List.size_toArray,List.size_toArray,← l1,← l2]; unfold LIM at c4 c5; omega) (by rw [List.size_toArray,← l1]; exact c3) ?_
              obtain ⟨t5,x5⟩:=own_set (l':=l.take i.toNat++m++l.drop j.toNat) (xs':=xs.take i.toNat++ys++xs.drop j.toNat) (tk:=s₃.toks) t4.st ea q' (Heap.SameBut.update _ a (Obj.mapSeq fun xs=>xs.extract 0 i.toNat++ys.toArray++xs.extract j.toNat)) (by
                have:=plain_upd (kp _ _ g3) fun xs=>xs.extract 0 i.toNat++ys.toArray++xs.extract j.toNat
                rw [ext_take,ext_drop] at this
                simpa using this) (((t4.relDs g4).take _ |>.append (t4.relDs hb2')).append ((t4.relDs g4).drop _))
              exact K3.ok _ .nxt _ _ _ _ _ .next rfl t5 ((t4.sext xt3.st).trans x5) rfl
      | _=>exact absurd rfl K3.nb
    | _=>exact absurd rfl K3.nb
end
end Mine
end
section
open PySem PySem.W PyProof.Rows
namespace Mine
structure FnSp where
  scope:Scope
  sl:List (Option (Str × NameKind))
  ps:List Str
  body:List Stmt
  code:Value
  qual:Str

noncomputable def cellNs (names:List (Str × NameKind)):List Str:=((names.filter fun x=>x.2 == .cell).map (·.1)).reverse
noncomputable abbrev FnSp.sp (F:FnSp):Sp:=⟨F.scope,F.sl,cellNs F.scope.names,F.code,F.qual⟩

structure FnSp.OK (F:FnSp):Prop where
  kind:F.scope.kind=.function
  co:F.scope.isCoroutine=false
  gen:F.scope.isGenerator=false
  slots:∀ (k:Nat) x kd,F.sl[k]?=some (some (x,kd))→F.scope.names.lookup x=some kd
  inj:∀ (k j:Nat) x kd kd',F.sl[k]?=some (some (x,kd))→F.sl[j]?=some (some (x,kd'))→k=j
  nodup:(cellNs F.scope.names).Nodup
  par:∀ (k:Nat) x,F.ps[k]?=some x→StS F.sp k x
  few:F.ps.length ≤ F.sl.length

structure FnAt (C:Cst) (f:Addr) (F:FnSp):Prop where
  obj:∃ o fd,C.h₀.get? f=some o∧o.data=.func fd∧fd.scope=F.scope∧fd.body=.stmts F.body∧fd.globals=mainGlobals∧fd.builtins=builtinsNs∧fd.closure=[]∧C.h₀.CodeRec fd.code fd.qualname∧fd.code=F.code∧fd.qualname++".<locals>."=F.qual ∧
    ∀ vals:List Value,vals.length=F.ps.length→bindArgs fd ⟨vals,[]⟩=pure (F.ps.zip vals)
  lim:C.h₀.NoLimit

theorem cells_names:∀ (names:List (Str × NameKind)) (n:Nat) (acc:List (Str × Addr)),(cellsFrom n names acc).map (·.1)=cellNs names++acc.map (·.1)
  | [],_,acc=>by simp [cellsFrom,cellNs]
  | (name,kind) :: r,n,acc=>by
    unfold cellsFrom
    by_cases q:(kind == NameKind.cell)=true
    · rw [if_pos q,cells_names r]
      simp [cellNs,List.filter_cons,q]
    · rw [if_neg q,cells_names r]
      simp [cellNs,List.filter_cons,q]
theorem lookup_of_nodup {l:List (Str × Addr)} (h:(l.map (·.1)).Nodup):∀ q ∈ l,l.lookup q.1=some q.2:=by
  induction l with
  | nil=>intro q hq; cases hq
  | cons p l ih =>
    intro q hq
    rw [List.map_cons,List.nodup_cons] at h
    rw [List.lookup_cons]
    rcases List.mem_cons.mp hq with rfl | hq
    · simp
    · have:(q.1 == p.1)=false:=by
        rw [beq_eq_false_iff_ne]
        exact fun e=>h.1 (List.mem_map.mpr ⟨q,hq,e⟩)
      rw [this]
      exact ih h.2 q hq

noncomputable def fAct (X:Act) (env:Env) (sl:List (Option (Str × NameKind))) (ol:List Addr):Act:={ env:=env,sl:=sl,hx:=X.M ol++X.hx,frs:=env :: X.frs,cells:=env.cells }

section
variable {C:Cst} {G:Nat→D} {NM:Names} {H:Hd} {n:Nat} {sp:Sp} {A:Around} {X:Act} {lc₀ lc lc₁ lc' lc'':Loc} {ρ ρ':Ro} {ow ow':Nat→Option Addr} {ol ol' ol'':List Addr} {σ σ₁ σ':Store} {s₀ s₁ s s' s'':Shared} {F:FnSp} {env:Env}

structure IExt (C:Cst) (lc lc':Loc) (s s':Shared):Prop where
  keep:Keep (lc.mu C) s.heap s'.heap
  grow:Grow C lc lc' s.heap
  old:∀ b o,s.heap.get? b=some o→∃ o',s'.heap.get? b=some o'

theorem IExt.of {X':Act} (kp:∀ b o,s.heap.get? b=some o→s₁.heap.get? b=some o) (hf:∀ a ∈ X'.M [],s.heap.get? a=none) (x:HExt C X' lc lc' [] s₁ s'):IExt C lc lc' s s':=by
  refine ⟨fun b o hb e=>x.keep b o (fun q=>?_) (kp b o e),⟨x.grow.box,x.grow.rd,fun a ha=>?_,x.grow.sub⟩,fun b o e=>x.old b o (kp b o e)⟩
  · rcases List.mem_append.mp q with q | q
    · exact nsm (hf b q) e
    · exact hb q
  · rcases x.grow.mu a ha with q | q
    · exact .inl q
    · exact .inr (old_none (fun b o e=>⟨o,kp b o e⟩) q)

theorem IExt.ext (t:St C X lc ρ ow ol σ s) (x:IExt C lc lc' s s') (g:GRel C lc' σ' s'):Ext C X lc lc' ρ ow ol σ' s s':=Ext.of t g x.keep x.grow

theorem fAct_Z {env:Env} {sl:List (Option (Str × NameKind))} {a:Addr} (h:a ∈ X.Z C lc ol):a ∈ (fAct X env sl ol).Z C lc ol':=by
  unfold Act.Z at h ⊢
  rcases List.mem_append.mp h with h | h
  · exact List.mem_append_right _ (List.mem_append_right _ (List.mem_append_left _ h))
  · rcases List.mem_append.mp h with h | h
    · exact List.mem_append_right _ (List.mem_append_left _ h)
    · exact List.mem_append_right _ (List.mem_append_right _ (List.mem_append_right _ h))
theorem relD.outF {env:Env} {sl:List (Option (Str × NameKind))} {h:Heap} {d:D} {v:Value} (r:relD C (fAct X env sl ol) ol' lc h d v):relD C X ol lc h d v:=RelD.mono (Sub.of_fz fun _ ha=>fAct_Z ha) r

theorem enter_st {m:Nat} {h':Heap} {tk:Nat} (t:St C X lc ρ ow ol σ s) (hsc:env.scope=F.scope) (hF:F.OK) (hg:env.globals=mainGlobals) (hb:env.builtins=builtinsNs) (hfr:env.frame=some env.locals)
    (hL:s.heap.get? env.locals=none) (hLo:h'.get? env.locals=some { cls:=.type "frame",data:=.dict #[] }) (kp:∀ b o,s.heap.get? b=some o→h'.get? b=some o)
    (hn:env.cells.map (·.1)=cellNs F.scope.names) (hc:∀ q ∈ env.cells,h'.IsCell q.2 none∧s.heap.get? q.2=none) (hap:env.cells.Pairwise fun x y=>x.2 ≠ y.2) :
    St C (fAct X env F.sl ol) lc (List.replicate m none) (fun _=>none) [] σ { s with heap:=h',toks:=tk }:=by
  have base:∀ a,s.heap.get? a=none→C.h₀.get? a=none:=fun a ha=>by
    cases q:C.h₀.get? a with
    | none=>rfl
    | some o=>have:=t.g.base _ o q; exact nsm ha this
  have hns:h'.Ns env.locals fun _=>none:=⟨_,#[],0,hLo,rfl,by intro e he; simp at he,fun x=>by simp [nsFind,findBy]⟩
  have hget:∀ k,Ro.get (List.replicate m none) k=none:=fun k=>by
    unfold Ro.get
    rw [List.getElem?_replicate]
    split <;> rfl
  refine ⟨t.g.keepAll kp,{ kind:=by show env.scope.kind=_; rw [hsc]; exact hF.kind,globals:=hg,builtins:=hb,frame:=⟨env,X.frs,rfl,rfl⟩,slots:=fun k x kd e=>?_,ns:=⟨_,hns,fun k v x kd e=>?_⟩,cells:=.inr rfl,cellAt:=fun q hq=>?_,cellInj:=fun q hq r hr e=>?_,slInj:=hF.inj,ownLoc:=fun k l x kd e=>?_,ownIn:=fun k a e=>(by cases e),ownInj:=fun k j a e=>(by cases e),ownNew:=fun a ha=>(by cases ha),locNew:=base _ hL,locMut:=Loc.mu_old t.g hL,hxOld:=fun a ha=>?_,hxNew:=fun a ha=>?_ },?_⟩
  · show env.scope.names.lookup x=_
    rw [hsc]
    exact hF.slots k x kd e
  · rw [hget] at e; cases e
  · refine ⟨lookup_of_nodup (by show (env.cells.map (·.1)).Nodup; rw [hn]; exact hF.nodup) q hq,?_,base _ (hc q hq).2⟩
    refine Xeaa ((hc q hq).1) fun o e d=>?_
    exact ⟨o,_,e,d⟩
  · exact name_of_addr hap (show (q.1,q.2) ∈ env.cells from hq) (show (r.1,q.2) ∈ env.cells by rw [e]; exact hr)
  · rw [hget] at e; cases e
  · have:a ∈ X.Z C lc ol:=by
      unfold Act.Z
      rcases List.mem_append.mp ha with h | h
      · exact List.mem_append_left _ h
      · exact List.mem_append_right _ (List.mem_append_right _ h)
    obtain ⟨o,e⟩:=t.Z_old a this
    exact ⟨o,kp _ _ e⟩
  · refine t.Z_new a ?_
    unfold Act.Z
    rcases List.mem_append.mp ha with h | h
    · exact List.mem_append_left _ h
    · exact List.mem_append_right _ (List.mem_append_right _ h)
  · intro e he
    rcases List.mem_cons.mp he with rfl | he
    · exact ⟨by rw [hsc,hF.kind]; decide,_,_,hfr,hLo,rfl,base _ hL,_,_,rfl⟩
    · exact (t.fr.apart (M:=[]) (fun b o _=>kp b o) fun _ q=>by cases q) e he

theorem relVs_in {h':Heap} (t:St C X lc ρ ow ol σ s) (kp:∀ b o,s.heap.get? b=some o→h'.get? b=some o) {sl:List (Option (Str × NameKind))} (hf:∀ a ∈ (fAct X env sl ol).M [],s.heap.get? a=none) {vs:List V} {vals:List Value} (r:relVs C X ol lc s.heap vs vals) :
    relVs C (fAct X env sl ol) [] lc h' vs vals:=by
  refine r.keep (Sub.step (M:=[]) (.all kp) (fun _ q=>by cases q) fun a ha=>?_) (.refl ..)
  unfold Act.Z at ha ⊢
  rcases List.mem_append.mp ha with h | h
  · exact .inr (hf a h)
  · rcases List.mem_append.mp h with h | h
    · exact .inl (List.mem_append_right _ (List.mem_append_left _ h))
    · rcases List.mem_append.mp h with h | h
      · exact .inl (List.mem_append_left _ h)
      · exact .inl (List.mem_append_right _ (List.mem_append_right _ h))

theorem put_next (done:List V) (v:V) (m:Nat):Ro.put (done.map some++List.replicate (m + 1) none) done.length v=(done++[v]).map some++List.replicate m none:=by
  unfold Ro.put
  rw [List.set_append_right _ _ (by simp),List.replicate_succ]
  simp

theorem params_ok {X':Act} (f:Str × Value→PUnit→Sem (ForInStep PUnit)) (hf:∀ nm v u,f (nm,v) u=(do storeName X'.env nm v; pure (.yield ⟨⟩))) (hs:SpX X' sp) {E:Value→Shared→Prop} :
    ∀ (ps:List Str) (vs:List V) (vals:List Value) (done:List V) (ow:Nat→Option Addr) (m:Nat) (s:Shared) (Q:PUnit→Shared→Prop),ps.length=vs.length→(∀ (k:Nat) x,ps[k]?=some x→StS sp (done.length + k) x) →
      St C X' lc (done.map some++List.replicate (vs.length + m) none) ow [] σ s→relVs C X' [] lc s.heap vs vals →
      (∀ s' ow',St C X' lc ((done++vs).map some++List.replicate m none) ow' [] σ s'→SExt C X' lc lc [] [] s s'→Q ⟨⟩ s')→wpAny C.M A (forIn (ps.zip vals) ⟨⟩ f) Q E s
  | [],vs,vals,done,ow,m,s,Q,hl,hp,t,r,K=>by
    have:vs=[]:=List.eq_nil_of_length_eq_zero hl.symm
    subst this
    cases r
    rw [List.zip_nil_left,List.forIn_nil]
    exact wpAny_pure (K s ow (by simpa using t) (.refl ..))
  | p :: ps,vs,vals,done,ow,m,s,Q,hl,hp,t,r,K=>by
    cases r with
    | nil=>simp at hl
    | cons r1 r2 =>
      rename_i v x vs xs
      rw [List.zip_cons_cons,List.forIn_cons,hf]
      refine Xeaa (hp 0 p rfl) fun kd h1 h2=>?_
      have hno:∀ l,v ≠ .own l:=fun l q=>by subst q; obtain ⟨_,_,_,e,_⟩:=r1; cases e
      refine wpAny_bind (wpAny_bind (store_ok hs h1 (h2.imp id fun h=>⟨h.1,h.2,hno⟩) t (o:=none) r1 (fun _ e=>by cases e) fun s₁ t₁ x₁=>wpAny_pure ?_))
      have hm:(v :: vs).length + m=(vs.length + m) + 1:=by simp; exact Nat.add_right_comm vs.length 1 m
      simp only [Nat.add_zero] at t₁
      rw [hm,put_next] at t₁
      refine params_ok f hf hs ps vs xs (done++[v]) _ m s₁ Q (by simpa using hl) (fun k y e=>?_) t₁ (r2.keep x₁.sub (.refl ..)) fun s' ow' t' x'=>?_
      · have:=hp (k + 1) y (by simpa using e)
        simpa [Nat.add_assoc,Nat.add_comm 1] using this
      · exact K s' ow' (by simpa using t') (x₁.trans x')
end
end Mine
end
section
set_option tactic.hygienic false
open PySem PySem.W PyProof.Rows
namespace Mine
section
variable {C:Cst} {G:Nat→D} {NM:Names} {H:Hd} {n:Nat} {sp:Sp} {A:Around} {X:Act} {lc₀ lc lc₁ lc' lc'':Loc} {ρ ρ':Ro} {ow ow':Nat→Option Addr} {ol ol' ol'':List Addr} {σ σ₁ σ':Store} {s₀ s₁ s s' s'':Shared} {F:FnSp} {env:Env}

theorem enter_env {func:Option Addr} {vs:List V} {vals:List Value} {Q:Env→Shared→Prop} {E:Value→Shared→Prop} (hF:F.OK) (t:St C X lc ρ ow ol σ s) (r:relVs C X ol lc s.heap vs vals) (hl:F.ps.length=vs.length) (m:Nat)
    (K:∀ env s₁ ow',env.scope=F.scope→env.code=F.code→env.qual=F.qual→env.frame=some env.locals→env.cells.map (·.1)=cellNs F.scope.names→(∀ a ∈ (fAct X env F.sl ol).M [],s.heap.get? a=none)→St C (fAct X env F.sl ol) lc (vs.map some++List.replicate m none) ow' [] σ s₁ →
      IExt C lc lc s s₁→Q env s₁) :
    wpAny C.M A (newFunctionEnv F.scope mainGlobals [] (F.ps.zip vals) F.qual func F.code none builtinsNs) Q E s:=by
  simp only [newFunctionEnv,Option.isSome_none,Bool.false_eq_true,if_false]
  refine wpAny_bind (wpAny_alloc (wpAny_bind (wpAny_layCells _ (fun name kind cells=>by cases hkc:kind == NameKind.cell <;> simp [hkc]) _ _ _ _ ?_)))
  have ok:=cellsFrom_ok F.scope.names (s.heap.push { cls:=.type "frame",data:=.dict #[] }) (s.heap.objs.size + 1) [] ⟨fun _ _ hm=>(nomatch hm),List.Pairwise.nil⟩ (by rw [Heap.size_push]; exact Nat.le_refl _)
  have cn:=cells_names F.scope.names (s.heap.push { cls:=.type "frame",data:=.dict #[] }).objs.size []
  rw [List.map_nil,List.append_nil] at cn
  have kp:∀ b o,s.heap.get? b=some o→(pushCells (s.heap.push { cls:=.type "frame",data:=.dict #[] }) F.scope.names).get? b=some o:=fun b o e=>pushCells_keeps _ _ _ _ (Heap.get?_push_of_some _ e)
  have hLo:=pushCells_keeps F.scope.names _ _ _ (Heap.get?_push_size s.heap (o:={ cls:=.type "frame",data:=.dict #[] }) rfl)
  have hLn:=none_at_end s.heap
  show wpAny _ _ _ _ _ ({ s with heap:=pushCells (s.heap.push { cls:=.type "frame",data:=.dict #[] }) F.scope.names }:Shared)
  generalize cellsFrom (s.heap.push { cls:=.type "frame",data:=.dict #[] }).objs.size F.scope.names []=cl at *
  show wpAny _ _ (forIn (F.ps.zip vals) PUnit.unit _ >>= _) _ _ _
  refine wpAny_bind ?_
  have hnew:∀ q ∈ cl,s.heap.get? q.2=none:=fun q hq=>Heap.get?_none_of_le (Nat.le_trans (Nat.le_succ _) (ok.empty q.1 q.2 hq).2)
  have fr:∀ a ∈ (fAct X { scope:=F.scope,locals:=s.heap.objs.size,globals:=mainGlobals,cells:=cl,qual:=F.qual,func:=func,code:=F.code,frame:=some s.heap.objs.size,builtins:=builtinsNs } F.sl ol).M [],s.heap.get? a=none:=fun a ha=>by
    have ha:a ∈ s.heap.objs.size :: (cl.map (·.2)++[]):=ha
    rcases List.mem_cons.mp ha with rfl | ha
    · exact hLn
    · rw [List.append_nil] at ha
      refine Xeaa (List.mem_map.mp ha) fun q hq zz1=>?_; subst zz1
      exact hnew q hq
  have t1:St C (fAct X { scope:=F.scope,locals:=s.heap.objs.size,globals:=mainGlobals,cells:=cl,qual:=F.qual,func:=func,code:=F.code,frame:=some s.heap.objs.size,builtins:=builtinsNs } F.sl ol) lc (List.replicate (vs.length + m) none) (fun _=>none) [] σ { s with heap:=pushCells (s.heap.push { cls:=.type "frame",data:=.dict #[] }) F.scope.names,toks:=s.toks } :=
    enter_st t rfl hF rfl rfl rfl hLn hLo kp cn (fun q hq=>⟨(ok.empty q.1 q.2 hq).1,hnew q hq⟩) ok.apart
  refine params_ok (X':=fAct X { scope:=F.scope,locals:=s.heap.objs.size,globals:=mainGlobals,cells:=cl,qual:=F.qual,func:=func,code:=F.code,frame:=some s.heap.objs.size,builtins:=builtinsNs } F.sl ol) (sp:=F.sp) _ (fun _ _ _=>rfl) ⟨rfl,rfl,cn,rfl,rfl⟩ F.ps vs vals [] _ m _ _ hl (fun k x e=>by simpa using hF.par k x e) (by simpa using t1) (relVs_in t kp fr r) fun s' ow' t' x'=>wpAny_pure ?_
  exact K _ s' ow' rfl rfl rfl rfl cn fr (by simpa using t') (IExt.of kp fr x'.toHExt)

theorem IExt.trans (x:IExt C lc lc₁ s s₁) (y:IExt C lc₁ lc' s₁ s'):IExt C lc lc' s s' :=
  ⟨x.keep.grow x.grow y.keep,x.grow.transN x.old y.grow,fun b o e=>let ⟨o',e'⟩:=x.old b o e; y.old b o' e'⟩

theorem IExt.body {X':Act} (x:IExt C lc lc s s₁) (hf:∀ a ∈ X'.M [],s.heap.get? a=none) (y:HExt C X' lc lc' [] s₁ s'):IExt C lc lc' s s':=by
  refine ⟨fun b o hb e=>?_,⟨y.grow.box,y.grow.rd,fun a ha=>?_,y.grow.sub⟩,fun b o e=>let ⟨o',e'⟩:=x.old b o e; y.old b o' e'⟩
  · refine Xeaa (x.keep b o hb e) fun o₁ e₁ z₁=>?_
    obtain ⟨o₂,e₂,z₂⟩:=y.keep b o₁ (fun q=>by
      rcases List.mem_append.mp q with q | q
      · exact nsm (hf b q) e
      · exact hb q) e₁
    exact ⟨o₂,e₂,z₁.trans z₂⟩
  · rcases y.grow.mu a ha with q | q
    · exact .inl q
    · exact .inr (old_none x.old q)

theorem leave_ok {A':Around} {Q:Unit→Shared→Prop} {E:Value→Shared→Prop} {e:Addr} {k:List Nat} (t:St C X lc ρ ow ol σ s) (hA:A'.frames=some (env :: X.frs)) (hf:∀ a ∈ (fAct X env F.sl ol).M [],s.heap.get? a=none) (g:GX C (fAct X env F.sl ol) lc' σ' s') (x:IExt C lc lc' s s') (xa:ExcAt C s.heap s'.heap e k)
    (K:∀ s'',Ext C X lc lc' ρ ow ol σ' s s''→ExcAt C s.heap s''.heap e k→Q () s''):wpAny C.M A' (leaving env (.ref e)) Q E s':=by
  have fx:XFr C A' (fAct X env F.sl ol) s.heap s':=⟨g.fr,hA,⟨env,X.frs,rfl,rfl⟩,x.old⟩
  refine wpAny_bind (note_ok fx xa fun h₁ x₁ c₁=>?_)
  refine flight_ok (fx.turn x₁) c₁ fun h₂ x₂ c₂=>?_
  have hx:HExt C (fAct X env F.sl ol) lc lc' [] s s':=⟨x.keep.mono fun a ha=>List.mem_append_right _ ha,x.grow,x.old⟩
  obtain ⟨g₂,y₂⟩:=GX.xturn g hx (fun b o e=>⟨o,t.g.base b o e⟩) (fun q hq=>let ⟨_,e,_⟩:=t.g.tab q hq; ⟨_,e⟩) (x₁.trans x₂)
  have y:=IExt.of (X':=fAct X env F.sl ol) (s₁:=s) (fun _ _ e=>e) hf y₂
  exact K _ (y.ext t g₂.g) c₂.at

theorem AOK.deeper {env:Env} {sl:List (Option (Str × NameKind))} (a:AOK C A X (n + 1)):AOK C (A.deeper env) (fAct X env sl ol) n :=
  ⟨a.handled,Around.frames_deeper a.frames,by have:=a.depth; show A.depth + 1 + _ + _ ≤ _; lia,by have:=a.units; show A.units + 3 + _ + _ ≤ _; lia⟩

theorem call_fn {f:Addr} {ss:Ss} {N m:Nat} {vs:List V} {vals:List Value} (hF:F.OK) (hf:FnAt C f F) (hb:SsOK C G H n N F.sp F.body ss) (ha:AOK C A X (n + 1)) (t:St C X lc ρ ow ol σ s) (r:relVs C X ol lc s.heap vs vals) (hl:F.ps.length=vs.length) :
    Den C A X (relD C X ol) lc ρ ow ol s ((evSs G H N ss (vs.map some++List.replicate m none) σ).bind fun x σ=>match x.2 with | .nxt=>.ok .null σ | .ret d=>.ok d σ) (call (.ref f) vals):=fun Q E K=>by
  refine Xeeaaaaaaaaaaa (hf.obj) fun o fd ho hd h1 h2 h3 h4 h5 h6 h8 h9 h7=>?_
  have ho':=t.g.base _ _ ho
  have hlv:vals.length=F.ps.length:=by
    have:∀ {F h lc} {vs:List V} {vals:List Value},RelVs C F h lc vs vals→vals.length=vs.length:=by
      intro F h lc vs vals r
      induction r with
      | nil=>rfl
      | cons _ _ ih=>simp [ih]
    rw [this r,hl]
  have hcd:s.heap.CodeRec fd.code fd.qualname:=by
    refine Xeeeeaaaa (h6) fun c oc vs tq e1 e2 e3 e4=>?_
    exact ⟨c,oc,vs,tq,e1,t.g.base _ _ e2,e3,e4⟩
  refine wpAny_call (codeAny_call_function (body:=F.body) (by have:=ha.depth; lia) ho' hd (by rw [h1]; exact hF.co) (by rw [h1]; exact hF.gen) h2 hcd ?_)
  rw [h7 vals hlv,h1,h3,h4,h5,h8,h9]
  refine wpAny_pure (enter_env hF t r hl m fun env s₁ ow' e1 c1 c2 e2 e3 e4 t₁ x₁=>⟨hf.lim.keeps t₁.g.base,codeAny_func ?_⟩)
  · have hA:=AOK.deeper (env:=env) (sl:=F.sl) (ol:=ol) ha
    refine hb (A.deeper env) (fAct X env F.sl ol) lc _ ow' [] σ s₁ _ _ ⟨e1,rfl,e3,c1,c2⟩ hA t₁ ⟨fun q=>K.nb (by rw [q]; rfl),fun ρ' fl σ' lc' ow'' ol' s' f q t' x' y=>?_,fun k tt σ' lc' s' e q g x xa=>?_⟩
    · have z:=x₁.body e4 x'.toHExt
      cases fl with
      | nxt =>
        have y:f=.next:=y
        subst y
        exact K.ok .null σ' lc' s' .none (by rw [q]; rfl) (z.ext t t'.g) .null
      | ret d =>
        refine Xeaa (y) fun v zz1 r'=>?_; subst zz1
        exact K.ok d σ' lc' s' v (by rw [q]; rfl) (z.ext t t'.g) r'.outF
    · refine leave_ok t hA.frames e4 g (x₁.body e4 x) (xa.back' x₁.old) fun s'' y xa'=>?_
      exact K.ex k tt σ' lc' s'' e (by rw [q]; rfl) y xa'
end
end Mine
end
section
set_option tactic.hygienic false
open PySem PySem.W PySem.Calls PyProof.Rows Builtin Builtin.ObjectAttr
namespace Mine
structure PassOK (K:Frag) (cl:Addr):Prop where
  cd:∃ cd,clsIn K cl=some cd∧cd.hasDict=true∧(∀ self,refuseLoop self "__setattr__" cd.mro=pure ())∧cd.mro.contains (.type "object")=true∧cd.mro.isEmpty=false
  sa:findIn K (.ref cl) "__setattr__"=some (some (.builtin "object.__setattr__"))

section
variable {prog:Program} {w:World} {A:Around} {E:Value→Shared→Prop} {s:Shared} {K:Frag} {x cl dx:Addr} {es:List DictEntry} {n:Nat} {name:Str} {v:Value} {ox:Obj} {od:Option Obj}

theorem osa_own {tk:Tok} {R:Result→Shared→Prop} (X:K.In s.heap) (P:PassOK K cl) (I:InstAt s.heap x ox cl od) (ht:findIn K (.ref cl) name=some none)
    (h:wpAny (model prog w) A.in1 (storeInOwnDict (.ref x) (.ref cl) (.str name tk) name v false)
      (fun fin s'=>match fin with | .done f=>R (.ok f) s' | .again c'=>c'.quiet=true∧codeAny (model prog w) A c' R s') (fun e s'=>R (.error e) s') s) :
    codeAny (model prog w) A (.call (.builtin "object.__setattr__") ⟨[.ref x,.str name tk,v],[]⟩) R s:=by
  have SF:=PySem.F.store_object
  refine Xeaaaaa (P.cd) fun cd hc hd hp hob hne=>?_
  have sub:Looks (model prog w) s.heap (isInstance (.ref x) (.type "object")) true:=I.type.andThen (looks_mroIn X (by unfold mroIn; rw [hc,Option.bind_some,if_neg (by rw [hne]; decide),hob]))
  refine codeAny_call_builtin SF.slot.plain SF.entry (@check_slot (model prog w) _ _ s "object.__setattr__" "object" "__setattr__" (.ref x) [.str name tk,v] [] _ SF.kind SF.split sub (SF.args (.ref x) (.str name tk) v) ?_)
  have hm:Looks (model prog w) s.heap (mroOf (.ref cl)) cd.mro:=(looks_clsIn X hc).andThen .now
  rw [osa_eq,refuse_eq]
  refine wpAny_bind (wpAny_bind (I.type.here (wpAny_bind (hm.here ?_))))
  rw [hp]
  exact wpAny_pure (wpAny_bind (I.type.here (wpAny_bind ((looks_findIn X ht).here (wpAny_bind (wpAny_pure h))))))

theorem setAttr_first {Q:Unit→Shared→Prop} (X:K.In s.heap) (P:PassOK K cl) (hx:s.heap.get? x=some ox) (hcl:ox.cls=.ref cl) (hdn:ox.dict=none) (hno:notCls ox=true) (ht:findIn K (.ref cl) name=some none)
    (h:∀ h' hsh key,h'.get? s.heap.objs.size=some (PySem.W.dictOf [⟨hsh,key,v⟩] 1)→key.isStr name=true→key.isStr name=true→(∃ tk,key=.str name tk)→h'.get? x=some { ox with dict:=some s.heap.objs.size }→(∀ b o,b ≠ x→s.heap.get? b=some o→h'.get? b=some o)→Q () { s with heap:=h',toks:=s.toks + 2 }) :
    wpAny (model prog w) A (setAttr (.ref x) name v) Q E s:=by
  have I:InstAt s.heap x ox cl none:=⟨hx,hcl,hno,by rw [hdn]; trivial⟩
  refine set_plain X I P.sa (osa_own (s:={ s with toks:=s.toks + 1 }) X P I ht ?_)
  refine Xeaaa (P.cd) fun cd hc hd' _=>?_
  obtain ⟨oc,odi,oda,osl⟩:=ox
  dsimp only at hcl hdn
  subst hcl hdn
  have hxs:x ≠ s.heap.objs.size:=Nat.ne_of_lt (Heap.lt_size hx)
  refine wpAny_bind (wpAny_pure (wpAny_bind (wpAny_bind (wpAny_loadPart hx (wpAny_bind (looks_clsIn X hc _ _ _ _ (fun _ _ e=>e) ?_))))))
  rw [hd']
  show wpAny _ _ (match oda with
    | .cls _=>pure none
    | _=>(do
      let d ← alloc { cls:=.type "dict",data:=.dict #[] }
      update x fun o=>{ o with dict:=some d }
      dictMade (.ref cl) x d)) _ _ _
  have go:wpAny (model prog w) A.in1 (do
      let d ← alloc { cls:=.type "dict",data:=.dict #[] }
      update x fun o=>{ o with dict:=some d }
      dictMade (.ref cl) x d) (fun a s'=>wpAny (model prog w) A.in1 (match a with
        | some d=>storeInDict d (.str name s.toks) name v
        | none=>noDictFor (.ref x) (.ref cl) name false) (fun fin s'=>match fin with | .done f=>(match (Except.ok f:Result) with | .ok (.ret _)=>Q () s' | .ok _=>False | .error e=>E e s') | .again c'=>c'.quiet=true∧codeAny (model prog w) A c' (fun r s'=>match r with | .ok (.ret _)=>Q () s' | .ok _=>False | .error e=>E e s') s') (fun e s'=>E e s') s') (fun e s'=>E e s') { s with toks:=s.toks + 1 }:=by
    refine wpAny_bind (wpAny_alloc ?_)
    have hx₁:(s.heap.push { cls:=.type "dict",data:=.dict #[] }).get? x=some ⟨.ref cl,none,oda,osl⟩:=Heap.get?_push_of_some _ hx
    refine wpAny_bind (wpAny_update hx₁ ?_)
    refine wpAny_pure ?_
    have hfr:=(Heap.get?_some_iff.mp hx).2
    have hD:((s.heap.push { cls:=.type "dict",data:=.dict #[] }).update x fun o=>{ o with dict:=some s.heap.objs.size }).get? s.heap.objs.size=some (PySem.W.dictOf [] 0) :=
      (Heap.get?_update_ne _ _ _ _ hxs.symm).trans (Heap.get?_push_at rfl rfl)
    have hX:((s.heap.push { cls:=.type "dict",data:=.dict #[] }).update x fun o=>{ o with dict:=some s.heap.objs.size }).get? x=some ⟨.ref cl,some s.heap.objs.size,oda,osl⟩:=by
      refine Heap.get?_update_self _ hx₁ ?_
      cases oda <;> first | rfl | exact hfr
    have hO:∀ b o,b ≠ x→s.heap.get? b=some o→((s.heap.push { cls:=.type "dict",data:=.dict #[] }).update x fun o=>{ o with dict:=some s.heap.objs.size }).get? b=some o:=fun b o hb e=>(Heap.get?_update_ne _ _ _ _ hb).trans (Heap.get?_push_of_some _ e)
    generalize (s.heap.push { cls:=.type "dict",data:=.dict #[] }).update x (fun o=>{ o with dict:=some s.heap.objs.size })=h1 at *
    have key:∀ hsh kk,(h1.update s.heap.objs.size (Obj.putName name hsh kk v)).get? s.heap.objs.size=some (PySem.W.dictOf [⟨hsh,kk,v⟩] 1):=fun hsh kk=>by
      rw [Heap.get?_update_self _ hD (by rw [putName_dict]; rfl),putName_dict]
      rfl
    refine wpAny_bind (wpAny_pure (wpAny_bind ?_))
    refine wpAny_bind (wpAny_bind (wpAny_askSetting (wpAny_pure (wpAny_bind (wpAny_mkText (wpAny_bind (wpAny_loadPart hD ?_)))))))
    dsimp only
    have c0:(([]:List DictEntry).toArray).any (·.refKey)=false:=by simp
    rw [aRefKeyMayBeTheName_at,c0,Bool.and_false]
    refine wpAny_updatePart (s:={ s with heap:=h1,toks:=s.toks + 1 + 1 }) hD ?_
    refine wpAny_bind (wpAny_lookBehind (key _ _) (pastItsLine_dict (by rw [sizeLine_eq]; exact Nat.le_trans (Nat.le_refl 1) (by decide))) ?_)
    exact wpAny_pure (h _ _ _ (key _ _) (by simp [Value.isStr]) (by simp [Value.isStr]) ⟨_,rfl⟩ ((Heap.get?_update_ne _ _ _ _ hxs).trans hX) fun b o hb e=>(Heap.get?_update_ne _ _ _ _ (Nat.ne_of_lt (Heap.lt_size e))).trans (hO b o hb e))
  cases oda <;> first | exact go | exact absurd hno (by simp [notCls])

theorem setAttr_next {Q:Unit→Shared→Prop} (X:K.In s.heap) (P:PassOK K cl) (I:InstAt s.heap x ox cl (some (PySem.W.dictOf es n))) (hd:ox.dict=some dx) (hD:s.heap.get? dx=some (PySem.W.dictOf es n)) (ht:findIn K (.ref cl) name=some none)
    (hl:es.all (fun e=>!e.refKey)=true) (hz:es.length ≤ 1000)
    (h:∀ h' hsh tk,h'.get? dx=some (PySem.W.dictOf (putL name hsh (.str name tk) v es) (putN name es n))→Heap.SameBut dx s.heap h'→Q () { s with heap:=h',toks:=s.toks + 2 }):wpAny (model prog w) A (setAttr (.ref x) name v) Q E s:=by
  refine set_plain X I P.sa (osa_own (s:={ s with toks:=s.toks + 1 }) X P I ht ?_)
  refine Xeaaa (P.cd) fun cd hc hd' _=>?_
  obtain ⟨hx,hcl,hn,-⟩:=I
  obtain ⟨oc,odi,oda,osl⟩:=ox
  dsimp only at hcl hd
  subst hcl hd
  have key:∀ hsh kk,(s.heap.update dx (Obj.putName name hsh kk v)).get? dx=some (PySem.W.dictOf (putL name hsh kk v es) (putN name es n)):=fun hsh kk=>by
    rw [Heap.get?_update_self _ hD (by rw [putName_dict]; rfl),putName_dict]
  have hlen:∀ hsh kk,(putL name hsh kk v es).length ≤ 1001:=fun hsh kk=>by
    have:∀ l:List DictEntry,(putL name hsh kk v l).length ≤ l.length + 1:=fun l=>by
      induction l with
      | nil=>simp [putL]
      | cons e r ih=>unfold putL; split <;> simp <;> lia
    have:=this es
    lia
  refine wpAny_bind (wpAny_pure (wpAny_bind (wpAny_bind (wpAny_loadPart hx (wpAny_bind (looks_clsIn X hc _ _ _ _ (fun _ _ e=>e) ?_))))))
  rw [hd']
  refine wpAny_pure (a:=some dx) (wpAny_bind (wpAny_pure (wpAny_bind ?_)))
  refine wpAny_bind (wpAny_bind (wpAny_askSetting (wpAny_pure (wpAny_bind (wpAny_mkText (wpAny_bind (wpAny_loadPart hD ?_)))))))
  have c:(es.toArray).any (·.refKey)=false:=by
    rw [← Array.any_toList,List.any_eq_false]
    intro e he
    have:=List.all_eq_true.mp hl e he
    simpa using this
  dsimp only
  rw [aRefKeyMayBeTheName_at,c,Bool.and_false]
  refine wpAny_updatePart hD ?_
  refine wpAny_bind (wpAny_lookBehind (key _ _) (pastItsLine_dict (by rw [List.size_toArray,sizeLine_eq]; exact Nat.le_trans (hlen _ _) (by decide))) ?_)
  exact wpAny_pure (h _ _ _ (key _ _) (Heap.SameBut.update ..))
end
end Mine
end
section
set_option tactic.hygienic false
open PySem PySem.W PyProof.Rows
namespace Mine
structure JFOK (C:Cst) (NM:Names):Prop where
  mg:C.mg "JSFail"=some (.ref C.JF)
  kp:keepIn C.K (.ref C.JF)=true
  cls:∃ nm q N bs sn sub ab col dd k0 k1 k2 k3 k5,C.h₀.get? C.JF=some (excClassObj nm q C.JF N bs [.type "Exception",.type "BaseException",.type "object"] true sn sub ab col dd k0 k1 k2 k3 k5 "Exception.__new__") ∧
    ∃ mN fI oI fd p0 p1 p2 p3 p4 p5 p6 p7,C.h₀.Ns N mN∧mN "__init__"=some (.ref fI)∧C.h₀.get? fI=some oI∧oI.cls=.type "function"∧oI.data=.func fd∧C.h₀.CodeRec fd.code fd.qualname ∧
      fd.body=.stmts [.Assign [.Attribute (.Name "self" p0) "kind" p1] (.Name "kind" p2) p3,.Assign [.Attribute (.Name "self" p4) "text" p5] (.Name "text" p6) p7] ∧
      (∀ a b c,bindArgs fd ⟨[a,b,c],[]⟩=pure [(("self":Str),a),(("kind":Str),b),(("text":Str),c)])∧fd.scope.kind=.function∧fd.scope.isCoroutine=false∧fd.scope.isGenerator=false∧(∀ x ∈ fd.scope.names,x.2 ≠ .cell) ∧
      fd.scope.names.lookup ("self":Str)=some .local∧fd.scope.names.lookup ("kind":Str)=some .local∧fd.scope.names.lookup ("text":Str)=some .local
  pass:PassOK C.K C.JF
  kind:findIn C.K (.ref C.JF) "kind"=some none
  text:findIn C.K (.ref C.JF) "text"=some none
  lim:C.h₀.NoLimit

section
variable {C:Cst} {G:Nat→D} {NM:Names} {H:Hd} {n:Nat} {sp:Sp} {A:Around} {X:Act} {lc₀ lc lc₁ lc' lc'':Loc} {ρ ρ':Ro} {ow ow':Nat→Option Addr} {ol ol' ol'':List Addr} {σ σ₁ σ':Store} {s₀ s₁ s s' s'':Shared} {F:FnSp} {env:Env}

theorem raise_made {M:Model} {nm q:Str} {cl N:Addr} {bs bm:List Value} {hdct:Bool} {sn:List Str} {sub:List Value} {ab:Bool} {col:Option Bool} {dd:Option Addr} {k0 k1 k2 k3 k5:Option Value} {newId:String} {E:Value→Shared→Prop} {x:Sem Value} {Q:Flow→Shared→Prop} (hbase:bm.contains (.type "BaseException")=true) (hh:A.handled=none)
    (h:wpAny M A x (fun v s₁=>∃ e oe vs,v=.ref e∧s₁.heap.get? cl=some (excClassObj nm q cl N bs bm hdct sn sub ab col dd k0 k1 k2 k3 k5 newId) ∧
      s₁.heap.get? e=some oe∧oe.cls=.ref cl∧oe.data=.fields vs∧vs[1]?=some .none∧E (.ref e) s₁) E s) :
    wpAny M A (raiseStmt env (some x) none) Q E s:=by
  have hcB:(Value.ref cl :: bm).contains (.type "BaseException")=true:=by rw [List.contains_cons,hbase,Bool.or_true]
  unfold raiseStmt
  refine wpAny_bind (wpAny_mono h (fun v s₁ h₁=>?_) fun _ _ x=>x)
  refine Xeeeaaaaaaa (h₁) fun e oe vs zz1 hC he hcl hd h1 hE=>?_; subst zz1
  obtain ⟨hp,g,d,tk,os⟩:=s₁
  obtain ⟨oc,od,odt,osl⟩:=oe
  dsimp only at hcl hd
  subst hcl hd
  repeat (first | with_reducible refine wpAny_loadPart_at he ?_ | with_reducible refine wpAny_loadPart_at hC ?_ | (with_reducible refine wpAny_isSubtype_exc hC ?_; rw [hcB]) | (with_reducible refine wpAny_field he rfl h1 ?_) | wp_step)
  exact wpAny_raiseNew_none hh hE

theorem make_jf {k t:Str} {u1 u2:Tok} {Q:Value→Shared→Prop} {E:Value→Shared→Prop} (ok:COK C G NM) (jf:JFOK C NM) (g:GRel C lc σ s) (hd:A.depth + 8 ≤ recursionLimit)
    (K:∀ h' tk e oe vs d es m,(∀ b o,s.heap.get? b=some o→h'.get? b=some o)→s.heap.get? e=none→h'.get? e=some oe→oe.cls=.ref C.JF→oe.dict=some d→oe.data=.fields vs→s.heap.get? d=none→h'.get? d=some (PySem.W.dictOf es m) →
      getL "kind" es=some (some (.str k u1))→vs[1]?=some .none→Q (.ref e) { s with heap:=h',toks:=tk }) :
    wpAny C.M A (call (.ref C.JF) [.str k u1,.str t u2]) Q E s:=by
  obtain ⟨nm,q,N,bs,sn,sub,ab,col,dd,k0,k1,k2,k3,k5,hC,mN,fI,oI,fd,p0,p1,p2,p3,p4,p5,p6,p7,hN,hi,hfI,hfc,hfd,hcd,hbody,hbind,hk,hco,hgen,hcell,l1,l2,l3⟩:=jf.cls
  have hb:=g.base
  obtain ⟨hp,gg,dr,tk,os⟩:=s
  refine wpAny_call_exc_init PySem.F.excBase_Exception (hb _ _ hC) (hN.at' fun o e=>hb _ _ e) hi (hb _ _ hfI) hfc (fun h' e hm=>?_) (by exact lim_size (n:=2) (by decide))
  refine Xeaaa (hm.there) fun tup he _ _=>?_
  have hb':∀ b o,C.h₀.get? b=some o→h'.get? b=some o:=fun b o q=>hm.keeps _ _ (hb _ _ q)
  have hcd':h'.CodeRec fd.code fd.qualname:=by
    refine Xeeeeaaaa (hcd) fun c oc vs tq e1 e2 e3 e4=>?_
    exact ⟨c,oc,vs,tq,e1,hb' _ _ e2,e3,e4⟩
  refine wpAny_call (codeAny_call_def (fd:=fd) (body:=_) (binds:=[(("self":Str),.ref e),(("kind":Str),.str k u1),(("text":Str),.str t u2)]) ?_ (hb' _ _ hfI) hfd (jf.lim.keeps hb') hcd' hbody (BindsTo.of_eq (hbind _ _ _)) hcell (fun x hx=>?_) (fun h₁ hns hk₁=>?_) hco hgen hk)
  · have:(Code.builtin "type.__call__" ⟨.ref C.JF :: [.str k u1,.str t u2],[]⟩).weight ≤ 1:=by
      have e:(Code.builtin "type.__call__" ⟨.ref C.JF :: [.str k u1,.str t u2],[]⟩).weight=1:=by kernel_rfl
      exact Nat.le_of_ble_eq_true rfl
    show A.depth + _ < _
    lia
  · simp only [List.mem_cons,List.not_mem_nil,or_false] at hx
    rcases hx with rfl | rfl | rfl <;> assumption
  · have X₁:C.K.In h₁:=ok.kin.keeps fun b o q=>hk₁ _ _ (hb' _ _ q)
    have hkd:(callEnv fd h'.objs.size fI).scope.kind=.function:=hk
    have e₁:=hk₁ _ _ he
    have hLo:=hns
    rw [arm_execs_cons]
    refine wpAny_bind (plainObj_wpAny_Assign_Attribute (wpAny_Name (wpAny_loadName_local hkd l2 hns (v:=.str k u1) (by rfl) (wpAny_Name (wpAny_loadName_local hkd l1 hns (v:=.ref e) (by rfl) ?_) (by decide))) (by decide)))
    refine setAttr_first (cl:=C.JF) (s:={ heap:=h₁,gens:=gg,drawn:=dr,toks:=tk + 3,os:=os }) X₁ jf.pass e₁ rfl rfl rfl jf.kind fun h₂ hsh key f1 f2 _ f3 f4 f5=>?_
    dsimp only at f1 f4 f5 ⊢
    refine Xea (f3) fun tk1 zz1=>?_; subst zz1
    have hns₂:h₂.Ns h'.objs.size fun x=>([(("self":Str),Value.ref e),(("kind":Str),.str k u1),(("text":Str),.str t u2)]:List (Str × Value)).reverse.lookup x:=by
      refine hns.at' fun o q=>f5 _ _ (fun z=>?_) q
      exact absurd (Heap.lt_size (z ▸ he:h'.get? h'.objs.size=_)) (Nat.lt_irrefl _)
    have hDn:h'.get? h₁.objs.size=none:=by
      cases q:h'.get? h₁.objs.size with
      | none=>rfl
      | some o=>exact absurd (Heap.lt_size (hk₁ _ _ q)) (Nat.lt_irrefl _)
    rw [arm_execs_cons]
    refine wpAny_bind (plainObj_wpAny_Assign_Attribute (wpAny_Name (wpAny_loadName_local hkd l3 hns₂ (v:=.str t u2) (by rfl) (wpAny_Name (wpAny_loadName_local hkd l1 hns₂ (v:=.ref e) (by rfl) ?_) (by decide))) (by decide)))
    have hKe:∀ b o,C.h₀.get? b=some o→b ≠ e:=fun b o q z=>by
      have:=hb _ _ q
      have:=(z ▸ this:hp.get? e=some o)
      rw [hm.new] at this
      cases this
    have X₂:C.K.In h₂:=ok.kin.keeps fun b o q=>f5 _ _ (hKe b o q) (hk₁ _ _ (hb' _ _ q))
    refine setAttr_next (cl:=C.JF) (dx:=h₁.objs.size) (es:=[⟨hsh,.str "kind" tk1,.str k u1⟩]) (n:=1) (s:={ heap:=h₂,gens:=gg,drawn:=dr,toks:=tk + 3 + 2,os:=os }) X₂ jf.pass ⟨f4,rfl,rfl,f1⟩ rfl f1 jf.text (by rfl) (by simp) fun h₃ hsh2 tk2 g1 g2=>?_
    dsimp only at g1 g2 ⊢
    rw [arm_execs_nil]
    refine wpAny_pure ⟨rfl,?_⟩
    have hne:e ≠ h₁.objs.size:=fun z=>by rw [z] at he; exact nsm hDn he
    refine K h₃ _ e _ _ h₁.objs.size _ _ (fun b o q=>?_) hm.new (g2.extBut _ _ hne f4) rfl rfl rfl ?_ g1 ?_ rfl
    · have hbe:b ≠ e:=fun z=>by rw [z] at q; have:=hm.new; exact nsm this q
      refine g2.extBut _ _ (fun z=>?_) (f5 _ _ hbe (hk₁ _ _ (hm.keeps _ _ q)))
      have:=hm.keeps _ _ q
      rw [z] at this; exact nsm hDn this
    · cases q:hp.get? h₁.objs.size with
      | none=>rfl
      | some o=>have:=hm.keeps _ _ q; exact nsm hDn this
    · have e1:(Value.str "kind" tk1).isStr "text"=false:=by show (Str.ofString "kind" == Str.ofString "text")=false; decide +kernel
      have e2:(Value.str "kind" tk1).isStr "kind"=true:=by show (Str.ofString "kind" == Str.ofString "kind")=true; decide +kernel
      unfold getL
      simp [putL,e1,e2]
end
section
variable {C:Cst} {G:Nat→D} {NM:Names} {H:Hd} {n:Nat} {sp:Sp} {A:Around} {X:Act} {lc₀ lc lc₁ lc' lc'':Loc} {ρ ρ':Ro} {ow ow':Nat→Option Addr} {ol ol' ol'':List Addr} {σ σ₁ σ':Store} {s₀ s₁ s s' s'':Shared} {F:FnSp} {env:Env}

noncomputable abbrev synErr:List Nat:=[83,121,110,116,97,120,69,114,114,111,114]
theorem synErr_eq:(Str.ofString "SyntaxError")=mkS synErr:=by decide +kernel

theorem raise_ok {p1 p2 p3 p4 p5:Pos} {kk:Nat} {t:List Nat} (ok:COK C G NM) (jf:JFOK C NM) (hs:SpX X sp) (ha:AOK C A X n) (st:St C X lc ρ ow ol σ s) (hk:sp.scope.names.lookup ("JSFail":Str)=some .globalImplicit) (hx:sp.sl[0]?=some (some (("text":Str),.local))) (hv:ρ.get 0=some (.d (.str t)))
    {Q:Flow→Shared→Prop} {E:Value→Shared→Prop} (K:∀ s' e,Ext C X lc lc ρ ow ol σ s s'→ExcAt C s.heap s'.heap e synErr→E (.ref e) s') :
    wpAny C.M A (exec (.Raise (some (.Call (.Name "JSFail" p1) [.Constant (.str "SyntaxError") kk p2,.Name "text" p3] [] p4)) none p5) X.env) Q E s:=by
  obtain ⟨nm,q,N,bs,sn,sub,ab,col,dd,k0,k1,k2,k3,k5,hC,-⟩:=jf.cls
  rw [arm_exec_Raise]
  refine wpAny_bind (wpAny_standAt (raise_made (cl:=C.JF) (nm:=nm) (q:=q) (N:=N) (bs:=bs) (bm:=[.type "Exception",.type "BaseException",.type "object"]) (hdct:=true) (sn:=sn) (sub:=sub) (ab:=ab) (col:=col) (dd:=dd) (k0:=k0) (k1:=k1) (k2:=k2) (k3:=k3) (k5:=k5) (newId:="Exception.__new__") (by decide) ha.handled ?_))
  refine wpAny_bind (wpAny_mono (Q:=fun v s₁=>∃ e oe vs,v=.ref e∧s₁.heap.get? C.JF=some (excClassObj nm q C.JF N bs [.type "Exception",.type "BaseException",.type "object"] true sn sub ab col dd k0 k1 k2 k3 k5 "Exception.__new__") ∧
      s₁.heap.get? e=some oe∧oe.cls=.ref C.JF∧oe.data=.fields vs∧vs[1]?=some .none∧E (.ref e) s₁) (E:=E) ?_ (fun v s₁ h=>wpAny_bind (wpAny_standAt (wpAny_pure h))) fun _ _ x=>x)
  refine wpAny_Call_NameR (wpAny_Name (load_glob ok hs hk st jf.mg ?_) (by decide))
  refine callWith_of (P:=C.K.In) (by rw [noStar_any (by rfl)]; rfl) (keeps_K jf.kp) (evalArgs_ok (by rfl) ?_)
  rw [starEach_cons (by rfl),starEach_cons (by rfl)]
  refine Calls.spliced_cons (wpAny_Constant_str (k:=kk) (pos:=p2) ?_)
  have t1:Ext C X lc lc ρ ow ol σ s { s with toks:=s.toks + 1 }:=Ext.toks st
  refine Calls.spliced_cons (wpAny_Name (pos:=p3) (load_slot (by decide) hs hx t1.st hv fun val _ r=>?_) (by decide))
  show wpAny _ _ (pure []) _ _ _
  refine wpAny_pure ⟨ok.at t1.st.g,?_⟩
  refine Xea (RelD.str_inv r) fun u zz1=>?_; subst zz1
  refine make_jf ok jf t1.st.g (by have:=ha.depth; lia) fun h' tk e oe vs d es m kp h1 h2 h3 h4 h5 h6 h7 h8 h9=>⟨e,oe,vs,rfl,kp _ _ (st.g.base _ _ hC),h2,h3,h5,h9,?_⟩
  refine K _ e (Ext.all st kp) ⟨h1,oe,vs,d,_,es,m,s.toks,h2,h3,h4,h5,h6,h7,rfl,?_,.inl h9⟩
  rw [h8,← synErr_eq]

theorem call_fail {f:Addr} {t:List Nat} {vals:List Value} {p1 p2 p3 p4 p5:Pos} {kk:Nat} (ok:COK C G NM) (jf:JFOK C NM) (hF:F.OK) (hf:FnAt C f F) (hb:F.body=[.Raise (some (.Call (.Name "JSFail" p1) [.Constant (.str "SyntaxError") kk p2,.Name "text" p3] [] p4)) none p5]) (hps:F.ps=[("text":Str)]) (hk:F.scope.names.lookup ("JSFail":Str)=some .globalImplicit) (hx:F.sl[0]?=some (some (("text":Str),.local)))
    (ha:AOK C A X (n + 1)) (st:St C X lc ρ ow ol σ s) (r:relVs C X ol lc s.heap [.d (.str t)] vals):Den C A X (relD C X ol) lc ρ ow ol s (.exc synErr t σ) (call (.ref f) vals):=fun Q E K=>by
  refine Xeeaaaaaaaaaaa (hf.obj) fun o fd ho hd h1 h2 h3 h4 h5 h6 h8 h9 h7=>?_
  have ho':=st.g.base _ _ ho
  have hlv:vals.length=F.ps.length:=by
    cases r with
    | cons _ r=>cases r; rw [hps]; rfl
  have hcd:s.heap.CodeRec fd.code fd.qualname:=by
    refine Xeeeeaaaa (h6) fun c oc vs tq e1 e2 e3 e4=>?_
    exact ⟨c,oc,vs,tq,e1,st.g.base _ _ e2,e3,e4⟩
  refine wpAny_call (codeAny_call_function (body:=F.body) (by have:=ha.depth; lia) ho' hd (by rw [h1]; exact hF.co) (by rw [h1]; exact hF.gen) h2 hcd ?_)
  rw [h7 vals hlv,h1,h3,h4,h5,h8,h9]
  refine wpAny_pure (enter_env hF st r (by rw [hps]; rfl) 0 fun env s₁ ow' e1 c1 c2 e2 e3 e4 t₁ x₁=>⟨hf.lim.keeps t₁.g.base,codeAny_func ?_⟩)
  have hA:=AOK.deeper (env:=env) (sl:=F.sl) (ol:=ol) ha
  rw [hb,arm_execs_cons]
  refine wpAny_bind (raise_ok ok jf (sp:=F.sp) ⟨e1,rfl,e3,c1,c2⟩ hA t₁ hk hx rfl fun s₂ e xt xa=>?_)
  have hx2:=(xt.sext t₁).toHExt
  refine leave_ok st hA.frames e4 ⟨xt.st.g,xt.st.fr⟩ (x₁.body e4 hx2) (xa.back' x₁.old) fun s'' y xa'=>?_
  exact K.ex synErr t σ lc s'' e rfl y xa'
end
structure MkOK (C:Cst) (NM:Names):Prop where
  mg:C.mg "PatternReader"=some (.ref C.PR)
  kp:keepIn C.K (.ref C.PR)=true
  mks:makesIn C.K C.PR=true
  init:∃ fI oI fd p0 p1 p2 p3 q0 q1 q2 q3 kq r0 r1 r2 r3 kr t0 t1 t2 t3 kt,findIn C.K (.ref C.PR) "__init__"=some (some (.ref fI))∧typeIn C.K (.ref fI)=some (.type "function")∧C.h₀.get? fI=some oI∧oI.data=.func fd∧C.h₀.CodeRec fd.code fd.qualname ∧
      fd.body=.stmts [.Assign [.Attribute (.Name "self" p0) "text" p1] (.Name "text" p2) p3,.Assign [.Attribute (.Name "self" q0) "at" q1] (.Constant (.int 0) kq q2) q3,
        .Assign [.Attribute (.Name "self" r0) "groups" r1] (.Constant (.int 0) kr r2) r3,.Assign [.Attribute (.Name "self" t0) "farthest_back" t1] (.Constant (.int 0) kt t2) t3] ∧
      (∀ a b,bindArgs fd ⟨[a,b],[]⟩=pure [(("self":Str),a),(("text":Str),b)])∧fd.scope.kind=.function∧fd.scope.isCoroutine=false∧fd.scope.isGenerator=false∧(∀ x ∈ fd.scope.names,x.2 ≠ .cell) ∧
      fd.scope.names.lookup ("self":Str)=some .local∧fd.scope.names.lookup ("text":Str)=some .local
  pass:PassOK C.K C.PR
  lim:C.h₀.NoLimit

section
variable {C:Cst} {G:Nat→D} {NM:Names} {H:Hd} {n:Nat} {sp:Sp} {A:Around} {X:Act} {lc₀ lc lc₁ lc' lc'':Loc} {ρ ρ':Ro} {ow ow':Nat→Option Addr} {ol ol' ol'':List Addr} {σ σ₁ σ':Store} {s₀ s₁ s s' s'':Shared} {F:FnSp} {env:Env}

theorem str_ne {a b:String} {k:Tok} (h:(Str.ofString a == Str.ofString b)=false):(Value.str (Str.ofString a) k).isStr (Str.ofString b)=false:=h
theorem make_rd {t:Str} {u:Tok} {Q:Value→Shared→Prop} {E:Value→Shared→Prop} {mN:Nat→Option Str} (ok:COK C G NM) (rk:ROK C NM mN) (mk:MkOK C NM) (g:GRel C lc σ s) (hd:A.depth + 8 ≤ recursionLimit)
    (K:∀ h' tk x dx es m t1 t2 t3,(∀ b o,s.heap.get? b=some o→h'.get? b=some o)→s.heap.get? x=none→s.heap.get? dx=none→h'.get? x=some (instObj C.PR dx)→h'.get? dx=some (PySem.W.dictOf es m) →
      (∃ h0 k0 h1 k1 h2 k2 h3 k3,es=[⟨h0,.str "text" k0,.str t u⟩,⟨h1,.str "at" k1,.int 0 t1⟩,⟨h2,.str "groups" k2,.int 0 t2⟩,⟨h3,.str "farthest_back" k3,.int 0 t3⟩])→Q (.ref x) { s with heap:=h',toks:=tk }) :
    wpAny C.M A (call (.ref C.PR) [.str t u]) Q E s:=by
  obtain ⟨fI,oI,fd,p0,p1,p2,p3,q0,q1,q2,q3,kq,r0,r1,r2,r3,kr,t0,t1,t2,t3,kt,hi,hf,hfI,hfd,hcd,hbody,hbind,hk,hco,hgen,hcell,l1,l2⟩:=mk.init
  have hb:=g.base
  have X:=ok.at g
  obtain ⟨hp,gg,dr,tk,os⟩:=s
  refine wpAny_call (make_core (makes_of X mk.mks) (looks_findIn X hi) (fun self=>bind_fn X self hf) (.inl rfl) ?_)
  have kp:∀ b o,hp.get? b=some o→((hp.push emptyDict).push (instObj C.PR hp.objs.size)).get? b=some o:=fun b o e=>Heap.get?_push_of_some _ (Heap.get?_push_of_some _ e)
  have hX:((hp.push emptyDict).push (instObj C.PR hp.objs.size)).get? (hp.objs.size + 1)=some (instObj C.PR hp.objs.size):=by
    have:=Heap.get?_push_size (hp.push emptyDict) (o:=instObj C.PR hp.objs.size) rfl
    rwa [Heap.size_push] at this
  have hD:((hp.push emptyDict).push (instObj C.PR hp.objs.size)).get? hp.objs.size=some (PySem.W.dictOf [] 0):=Heap.get?_push_of_some _ (Heap.get?_push_size hp rfl)
  have hxn:hp.get? (hp.objs.size + 1)=none:=Heap.get?_none_of_le (Nat.le_succ _)
  have hdn:=none_at_end hp
  have hxd:hp.objs.size + 1 ≠ hp.objs.size:=Nat.succ_ne_self _
  generalize hp.objs.size + 1=x at *
  generalize (hp.push emptyDict).push (instObj C.PR hp.objs.size)=h' at *
  generalize hp.objs.size=dx at *
  have hb':∀ b o,C.h₀.get? b=some o→h'.get? b=some o:=fun b o q=>kp _ _ (hb _ _ q)
  have hcd':h'.CodeRec fd.code fd.qualname:=by
    refine Xeeeeaaaa (hcd) fun c oc vs tq e1 e2 e3 e4=>?_
    exact ⟨c,oc,vs,tq,e1,hb' _ _ e2,e3,e4⟩
  refine codeAny_call_def (fd:=fd) (body:=_) (binds:=[(("self":Str),.ref x),(("text":Str),.str t u)]) ?_ (hb' _ _ hfI) hfd (mk.lim.keeps hb') hcd' hbody (BindsTo.of_eq (hbind _ _)) hcell (fun y hy=>?_) (fun h₁ hns hk₁=>?_) hco hgen hk
  · have:(Code.builtin "type.__call__" ⟨.ref C.PR :: [.str t u],[]⟩).weight ≤ 1:=by
      have e:(Code.builtin "type.__call__" ⟨.ref C.PR :: [.str t u],[]⟩).weight=1:=by kernel_rfl
      exact Nat.le_of_ble_eq_true rfl
    show A.depth + _ < _
    lia
  · simp only [List.mem_cons,List.not_mem_nil,or_false] at hy
    rcases hy with rfl | rfl <;> assumption
  · have hkd:(callEnv fd h'.objs.size fI).scope.kind=.function:=hk
    have base1:∀ b o,C.h₀.get? b=some o→b ≠ dx:=fun b o q z=>by
      have:=hb _ _ q
      have:=(z ▸ this:hp.get? dx=some o)
      exact nsm hdn this
    have step:∀ {h₂ h₃:Heap},(∀ b o,C.h₀.get? b=some o→h₂.get? b=some o)→Heap.SameBut dx h₂ h₃→∀ b o,C.h₀.get? b=some o→h₃.get? b=some o:=fun hb2 hs b o q=>hs.extBut _ _ (base1 b o q) (hb2 b o q)
    have hLd:h'.objs.size ≠ dx:=fun z=>Nat.lt_irrefl _ (z ▸ Heap.lt_size hD:h'.objs.size < h'.objs.size)
    have b1:∀ b o,C.h₀.get? b=some o→h₁.get? b=some o:=fun b o q=>hk₁ _ _ (hb' _ _ q)
    have fx1:=hk₁ _ _ hX
    have fd1:=hk₁ _ _ hD
    have go:∀ {h₂:Heap} {tk2 tk3:Nat} {es:List DictEntry} {m:Nat} {nm:Str} {v:Value} {e:Expr} {p3 p1 p0:Pos} {Q:Flow→Shared→Prop} {E:Value→Shared→Prop} (jj:Nat),(∀ b o,C.h₀.get? b=some o→h₂.get? b=some o)→h₂.Ns h'.objs.size (fun y=>([(("self":Str),Value.ref x),(("text":Str),.str t u)]:List (Str × Value)).reverse.lookup y)→h₂.get? x=some (instObj C.PR dx)→h₂.get? dx=some (PySem.W.dictOf es m) →
        attrN[jj]?=some nm→es.all (fun e=>!e.refKey)=true→es.length ≤ 1000→notComp e=true→(∀ {Q:Value→Shared→Prop} {E:Value→Shared→Prop},Q v { heap:=h₂,gens:=gg,drawn:=dr,toks:=tk3,os:=os }→wpAny C.M ((A.under (.builtin "type.__call__" ⟨.ref C.PR :: [.str t u],[]⟩)).deeper (callEnv fd h'.objs.size fI)) (eval e (callEnv fd h'.objs.size fI)) Q E { heap:=h₂,gens:=gg,drawn:=dr,toks:=tk2,os:=os }) →
        (∀ h₃ tk4 hsh tk5,h₃.get? dx=some (PySem.W.dictOf (putL nm hsh (.str nm tk5) v es) (putN nm es m))→Heap.SameBut dx h₂ h₃→Q .next { heap:=h₃,gens:=gg,drawn:=dr,toks:=tk4,os:=os }) →
        wpAny C.M ((A.under (.builtin "type.__call__" ⟨.ref C.PR :: [.str t u],[]⟩)).deeper (callEnv fd h'.objs.size fI)) (exec (.Assign [.Attribute (.Name "self" p0) nm p1] e p3) (callEnv fd h'.objs.size fI)) Q E { heap:=h₂,gens:=gg,drawn:=dr,toks:=tk2,os:=os }:=by
      intro h₂ tk2 tk3 es m nm v e p3 p1 p0 Q E jj hb2 hns2 hx2 hd2 hj hrk hlen hnc hev hk2
      refine plainObj_wpAny_Assign_Attribute (hev (wpAny_Name (wpAny_loadName_local hkd l1 hns2 (v:=.ref x) (by rfl) ?_) (by decide))) (swaps_plain hnc _ _ _)
      exact setAttr_next (cl:=C.PR) (dx:=dx) (es:=es) (n:=m) (s:={ heap:=h₂,gens:=gg,drawn:=dr,toks:=tk3,os:=os }) (ok.kin.keeps hb2) mk.pass ⟨hx2,rfl,rfl,hd2⟩ rfl hd2 (rk.at_ jj nm hj) hrk hlen fun h₃ hsh tk5 g1 g2=>hk2 h₃ _ hsh tk5 g1 g2
    have nsNext:∀ {h₂ h₃:Heap},h₂.Ns h'.objs.size (fun y=>([(("self":Str),Value.ref x),(("text":Str),.str t u)]:List (Str × Value)).reverse.lookup y)→Heap.SameBut dx h₂ h₃→h₃.Ns h'.objs.size (fun y=>([(("self":Str),Value.ref x),(("text":Str),.str t u)]:List (Str × Value)).reverse.lookup y):=fun hn hs=>hn.sameBut hs hLd
    rw [arm_execs_cons]
    refine wpAny_bind (go 0 (v:=.str t u) b1 hns fx1 fd1 rfl rfl (by simp) rfl (fun hq=>wpAny_Name (wpAny_loadName_local hkd l2 hns (v:=.str t u) (by rfl) hq) (by decide)) fun h₂ tk2 hs2 tt2 d2 s2=>?_)
    dsimp only
    rw [arm_execs_cons]
    refine wpAny_bind (go 1 (v:=.int 0 tk2) (step b1 s2) (nsNext hns s2) (s2.extBut _ _ hxd fx1) d2 rfl rfl (by simp [putL]) rfl (fun hq=>wpAny_Constant_int hq) fun h₃ tk3 hs3 tt3 d3 s3=>?_)
    dsimp only
    rw [arm_execs_cons]
    refine wpAny_bind (go 2 (v:=.int 0 tk3) (step (step b1 s2) s3) (nsNext (nsNext hns s2) s3) (s3.extBut _ _ hxd (s2.extBut _ _ hxd fx1)) d3 rfl ?_ ?_ rfl (fun hq=>wpAny_Constant_int hq) fun h₄ tk4 hs4 tt4 d4 s4=>?_)
    · simp [putL,str_ne (a:="text") (b:="at") (by decide +kernel),DictEntry.refKey]
    · simp [putL,str_ne (a:="text") (b:="at") (by decide +kernel)]
    dsimp only
    rw [arm_execs_cons]
    refine wpAny_bind (go 3 (v:=.int 0 tk4) (step (step (step b1 s2) s3) s4) (nsNext (nsNext (nsNext hns s2) s3) s4) (s4.extBut _ _ hxd (s3.extBut _ _ hxd (s2.extBut _ _ hxd fx1))) d4 rfl ?_ ?_ rfl (fun hq=>wpAny_Constant_int hq) fun h₅ tk5 hs5 tt5 d5 s5=>?_)
    · simp [putL,str_ne (a:="text") (b:="at") (by decide +kernel),str_ne (a:="text") (b:="groups") (by decide +kernel),str_ne (a:="at") (b:="groups") (by decide +kernel),DictEntry.refKey]
    · simp [putL,str_ne (a:="text") (b:="at") (by decide +kernel),str_ne (a:="text") (b:="groups") (by decide +kernel),str_ne (a:="at") (b:="groups") (by decide +kernel)]
    dsimp only
    rw [arm_execs_nil]
    refine wpAny_pure ⟨rfl,?_⟩
    refine K h₅ _ x dx _ _ tk2 tk3 tk4 (fun b o q=>?_) hxn hdn (s5.extBut _ _ hxd (s4.extBut _ _ hxd (s3.extBut _ _ hxd (s2.extBut _ _ hxd fx1)))) d5 ⟨hs2,tt2,hs3,tt3,hs4,tt4,hs5,tt5,?_⟩
    · have hbd:b ≠ dx:=fun z=>by rw [z] at q; have:=hdn; exact nsm this q
      exact s5.extBut _ _ hbd (s4.extBut _ _ hbd (s3.extBut _ _ hbd (s2.extBut _ _ hbd (hk₁ _ _ (kp _ _ q)))))
    · simp [putL,str_ne (a:="text") (b:="at") (by decide +kernel),str_ne (a:="text") (b:="groups") (by decide +kernel),str_ne (a:="at") (b:="groups") (by decide +kernel),str_ne (a:="text") (b:="farthest_back") (by decide +kernel),str_ne (a:="at") (b:="farthest_back") (by decide +kernel),str_ne (a:="groups") (b:="farthest_back") (by decide +kernel)]
end
section
variable {C:Cst} {G:Nat→D} {NM:Names} {H:Hd} {n:Nat} {sp:Sp} {A:Around} {X:Act} {lc₀ lc lc₁ lc' lc'':Loc} {ρ ρ':Ro} {ow ow':Nat→Option Addr} {ol ol' ol'':List Addr} {σ σ₁ σ':Store} {s₀ s₁ s s' s'':Shared} {F:FnSp} {env:Env}

theorem rd_none (g:GRel C lc σ s) (h:σ.rd=none):lc.rd=none:=by
  have:=g.rd
  rw [h] at this
  cases q:lc.rd with
  | none=>rfl
  | some p=>rw [q] at this; exact this.elim

theorem ext_rd {h':Heap} {tk:Nat} {x dx:Addr} {es:List DictEntry} {m:Nat} {r:Rd} (t:St C X lc ρ ow ol σ s) (hσ:σ.rd=none) (kp:∀ b o,s.heap.get? b=some o→h'.get? b=some o) (hx:h'.get? x=some (instObj C.PR dx)) (hdn:s.heap.get? dx=none) (hd:h'.get? dx=some (PySem.W.dictOf es m)) (hr:RdEs es r) :
    Ext C X lc { lc with rd:=some (x,dx) } ρ ow ol { σ with rd:=some r } s { s with heap:=h',toks:=tk }:=by
  have hl:=rd_none t.g hσ
  have hmu:∀ a,a ∈ ({ lc with rd:=some (x,dx) }:Loc).mu C ↔ a ∈ lc.mu C∨a=dx:=fun a=>by
    unfold Loc.mu
    rw [hl]
    simp only [List.mem_append,List.mem_cons,List.not_mem_nil,or_false]
    constructor
    · rintro (h | h | h)
      · exact .inl (.inl h)
      · exact .inl (.inr h)
      · exact .inr h
    · rintro ((h | h) | h)
      · exact .inl h
      · exact .inr (.inl h)
      · exact .inr (.inr h)
  have g:=t.g.keepAll (s':={ s with heap:=h',toks:=tk }) kp
  refine Ext.of t ⟨g.base,g.tab,g.box,⟨hx,es,m,hd,hr⟩,fun a ha=>?_,g.gens,g.drawn,g.os⟩ (.all kp) ⟨.inr rfl,.inl hl,fun a ha=>?_,fun a ha=>(hmu a).mpr (.inl ha)⟩
  · rcases (hmu a).mp ha with h | rfl
    · exact g.new a h
    · cases q:C.h₀.get? a with
      | none=>rfl
      | some o=>have:=t.g.base _ o q; exact nsm hdn this
  · rcases (hmu a).mp ha with h | rfl
    · exact .inl h
    · exact .inr hdn

theorem ev_mkRd {a:Expr} {e:Mine.E} {p pos:Pos} {mN:Nat→Option Str} (ok:COK C G NM) (rk:ROK C NM mN) (mk:MkOK C NM) (hn:notStar a=true) (hk:sp.scope.names.lookup ("PatternReader":Str)=some .globalImplicit) (h1:EvOK C G H n sp a e) :
    EvOK C G H n sp (.Call (.Name "PatternReader" p) [a] [] pos) (.mkRd e):=fun A X lc ρ ow ol σ s hs ha t Q E K=>by
  refine wpAny_Call_NameR (wpAny_Name (load_glob ok hs hk t mk.mg ?_) (by decide))
  refine callWith_of (P:=C.K.In) (by rw [noStar_any (by simp [hn])]; rfl) (keeps_K mk.kp) (evalArgs_ok (by simp [hn]) ?_)
  rw [starEach_cons hn]
  refine Calls.spliced_cons ((h1 A X lc ρ ow ol σ s hs ha t).toD.here K fun v s₁ d σ₁ lc₁ _ xt1 r1 K1=>?_)
  show wpAny _ _ (pure []) _ _ _
  refine wpAny_pure ⟨ok.at xt1.st.g,?_⟩
  have K1:Cont _ _ _ _ _ _ _ _ (mkRdV d σ₁) Q E:=K1
  cases d with
  | str l =>
    refine Xea (RelD.str_inv r1) fun u zz1=>?_; subst zz1
    cases q:σ₁.rd with
    | some r=>exact absurd (by simp [mkRdV,q]) K1.nb
    | none =>
      have e0:mkRdV (.str l) σ₁=if l.length ≤ LIM then .ok .rd { σ₁ with rd:=some ⟨l,0,0,0⟩ } else .bad:=by simp only [mkRdV,q]
      rw [e0] at K1
      split at K1
      · refine make_rd ok rk mk xt1.st.g (by have:=ha.depth; lia) fun h' tk x dx es m t1 t2 t3 kp f1 f2 f3 f4 f5=>?_
        refine Xeeeeeeeea (f5) fun h0 k0 h1 k1 h2 k2 h3 k3 zz1=>?_; subst zz1
        refine K1.ok .rd _ _ _ _ rfl (ext_rd xt1.st q kp f3 f2 f4 ⟨h0,k0,u,h1,k1,t1,h2,k2,t2,h3,k3,t3,rfl⟩) ⟨_,rfl,rfl⟩
      · exact absurd rfl K1.nb
  | _=>exact absurd (by simp [mkRdV]) K1.nb

theorem ext_noRd (hσ:σ.rd=none) (t:St C X lc ρ ow ol σ s) (x:Ext C X lc lc' ρ ow ol σ' s s'):Ext C X lc { lc' with rd:=none } ρ ow ol { σ' with rd:=none } s s'∧(∀ d v,Mine.relD C X ol lc' s'.heap d v→Mine.relD C X ol { lc' with rd:=none } s'.heap d v):=by
  have hl:=rd_none t.g hσ
  have hsub:∀ a ∈ ({ lc' with rd:=none }:Loc).mu C,a ∈ lc'.mu C:=fun a ha=>by
    unfold Loc.mu at ha ⊢
    simp only [List.mem_append,List.not_mem_nil,or_false] at ha ⊢
    rcases ha with h | h
    · exact .inl h
    · exact .inr (.inl h)
  have g:=x.st.g
  refine ⟨Ext.of t ⟨g.base,g.tab,g.box,trivial,fun a ha=>g.new a (hsub a ha),g.gens,g.drawn,g.os⟩ x.keep ⟨x.grow.box,.inl hl,fun a ha=>x.grow.mu a (hsub a ha),fun a ha=>?_⟩,fun d v r=>RelD.mono (Sub.of_fz fun a ha=>?_) r⟩
  · unfold Loc.mu at ha ⊢
    rw [hl] at ha
    simp only [List.mem_append,List.not_mem_nil,or_false] at ha ⊢
    rcases ha with h | h
    · exact .inl h
    · right
      rcases x.grow.box with q | q
      · rw [q] at h; cases h
      · rw [q]; exact h
  · unfold Act.Z at ha ⊢
    rcases List.mem_append.mp ha with h | h
    · exact List.mem_append_left _ h
    · rcases List.mem_append.mp h with h | h
      · exact List.mem_append_right _ (List.mem_append_left _ (hsub a h))
      · exact List.mem_append_right _ (List.mem_append_right _ h)

theorem Den.noRd {r:R D} {tm:Sem Value} (hσ:σ.rd=none) (t:St C X lc ρ ow ol σ s) (h:Den C A X (relD C X ol) lc ρ ow ol s r tm):Den C A X (relD C X ol) lc ρ ow ol s r.noRd tm:=fun Q E K=>h Q E
  ⟨fun e=>K.nb (by rw [e]; rfl),fun a σ' lc' s' x e xt p=>let ⟨y,z⟩:=ext_noRd hσ t xt; K.ok a _ _ s' x (by rw [e]; rfl) y (z _ _ p),
   fun k tt σ' lc' s' x e xt xa=>let ⟨y,_⟩:=ext_noRd hσ t xt; K.ex k tt _ _ s' x (by rw [e]; rfl) y xa⟩
end
section
variable {prog:Program} {w:World} {A:Around} {E:Value→Shared→Prop} {s:Shared}

theorem nextOf_tup {it t:Addr} {i:Nat} {items:Array Value} {Q:Value→Shared→Prop} (hh:A.handled=none) (hit:s.heap.IsTupleIter it t i) (ht:s.heap.IsTuple t items)
    (h1:∀ x h',items[i]?=some x→h'.IsTupleIter it t (i + 1)→Heap.SameBut it s.heap h'→Q x { s with heap:=h' })
    (h2:∀ h' e,items[i]?=none→Heap.ExtBut it s.heap h'→(∃ o,h'.get? e=some o∧o.cls=.type "StopIteration")→E (.ref e) { s with heap:=h' }) :
    wpAny (model prog w) A (Builtin.SmallTypes.nextOf (.ref it)) Q E s:=by
  refine Xeaaa (id hit) fun o ho hc hd=>?_
  refine Xeaaea (ht) fun ol hol _ nl hdl=>?_
  refine wpAny_bind (wpAny_callSpecial?_slot (name:=Str.ofString "__next__") hit.typeIs F.slot_tuple_iterator_next
    (wpAny_call_entry F.slot_tuple_iterator_next hit.typeIs F.entry_tuple_iterator_next ?_ (F.args_tuple_iterator_next_1 _)))
  show wpAny _ _ (field (.ref it) 0 >>= _) _ _ s
  refine wpAny_bind (wpAny_field ho hd (x:=.ref t) rfl ?_)
  show wpAny _ _ (if (Value.ref t == Value.none)=true then _ else _) _ _ s
  rw [if_neg (show ¬ ((Value.ref t == Value.none)=true) from Bool.false_ne_true)]
  show wpAny _ _ (field (.ref it) 1 >>= _) _ _ s
  refine wpAny_bind (wpAny_field ho hd (x:=.int i 0) rfl ?_)
  show wpAny _ _ (seqItems? (.ref t) >>= _) _ _ s
  refine wpAny_bind (wpAny_seqItems hol hdl ?_)
  cases hx:items[i]? with
  | some x =>
    simp only [Int.toNat_natCast,hx]
    refine wpAny_bind (wpAny_setField ho hd (by simp) (wpAny_pure ⟨x,rfl,wpAny_pure (h1 x _ hx ?_ (Heap.SameBut.update ..))⟩))
    exact ⟨_,Heap.get?_update_self _ ho (Obj.isFreed_of_fields (Obj.data_mapFields hd _)),(Obj.cls_mapFields ..).trans hc,by
      rw [Obj.data_mapFields hd]; simp [rawInt]⟩
  | none =>
    simp only [Int.toNat_natCast,hx]
    refine wpAny_bind (wpAny_rule (wpAny_bind (wpAny_setField ho hd (by simp) ?_)))
    show wpAny _ _ (newExc (.type "StopIteration") [] >>= _) _ _ _
    refine wpAny_bind ?_
    simp only [newExc,newTuple]
    refine wpAny_bind (wpAny_newObj_type ?_ (by size_fits))
    refine wpAny_bind (m:=firstArgMember _ _) (wpAny_of_eq (a:=Value.none) (by first | rfl | (simp only [firstArgMember]; rfl)) ?_)
    refine wpAny_newObj_type ?_ (by size_fits)
    simp only [raiseNew]
    refine wpAny_bind (wpAny_handled ?_)
    first | rw [show A.in1.handled=none from hh] | rw [hh]
    refine wpAny_bind (wpAny_pure (wpAny_throw ?_))
    exact h2 _ _ hx (((Heap.SameBut.update ..).extBut.push _).push _) ⟨_,Heap.get?_push_size _ rfl,rfl⟩

structure ZSt (h:Heap) (z TI TO i1 i2 t1 t2:Addr) (f0:Value) (k:Nat) (xs ys:Array Value):Prop where
  z:IsZip h z TI TO f0
  ti:IsPair h TI (.ref i1) (.ref i2)
  to:∃ a b,IsPair h TO a b
  i1:h.IsTupleIter i1 t1 k
  i2:h.IsTupleIter i2 t2 k
  t1:h.IsTuple t1 xs
  t2:h.IsTuple t2 ys

theorem zip_step {z TI TO i1 i2 t1 t2:Addr} {k:Nat} {xs ys:Array Value} {Q:Fin→Shared→Prop} (hh:A.handled=none) (D:ZipApart z TI TO i1 i2 t1 t2) (S:ZSt s.heap z TI TO i1 i2 t1 t2 .none k xs ys)
    (hQ:∀ x y h',xs[k]?=some x→ys[k]?=some y→ZSt h' z TI TO i1 i2 t1 t2 (rawInt s.heap.objs.size) (k + 1) xs ys→IsPair h' s.heap.objs.size x y →
      (∀ c o,c ≠ z→c ≠ TO→c ≠ i1→c ≠ i2→s.heap.get? c=some o→h'.get? c=some o)→Q (.done (.ret (.ref s.heap.objs.size))) { s with heap:=h' })
    (hE:∀ h' e,(xs[k]?=none∨ys[k]?=none)→(∀ c o,c ≠ z→c ≠ TO→c ≠ i1→c ≠ i2→s.heap.get? c=some o→h'.get? c=some o)→(∃ o,h'.get? e=some o∧o.cls=.type "StopIteration")→E (.ref e) { s with heap:=h' }) :
    wpAny (model prog w) A (Builtin.«zip.__next__» ⟨[.ref z],[]⟩) Q E s:=by
  obtain ⟨hz,hTI,⟨a,b,hTO⟩,h1,h2,hl1,hl2⟩:=S
  show wpAny _ _ (field (.ref z) 2 >>= _) _ _ _
  refine wpAny_bind (wpAny_field hz rfl (x:=.bool false) rfl ?_)
  show wpAny _ _ (field (.ref z) 3 >>= _) _ _ _
  refine wpAny_bind (wpAny_field hz rfl (x:=.ref TI) rfl ?_)
  refine wpAny_bind (wpAny_seqItems hTI rfl ?_)
  show wpAny _ _ (Builtin.SmallTypes.ownedTupleIsFree (.ref z) >>= _) _ _ _
  refine wpAny_bind ?_
  refine wpAny_bind (wpAny_field hz rfl (x:=.none) rfl (wpAny_pure ?_))
  simp only [if_true]
  refine wpAny_bind (wpAny_rule ?_)
  refine wpAny_bind (wpAny_field hz rfl (x:=.ref TO) rfl ?_)
  refine wpAny_bind (wpAny_setField_rec hz (by simp) fun h₁ hz₁ hs₁=>?_)
  replace hz₁:IsZip h₁ z TI TO .ellipsis:=hz₁
  refine wpAny_bind ?_
  simp only [List.zipIdx_cons,List.zipIdx_nil,List.forIn_cons,List.forIn_nil]
  refine wpAny_bind (wpAny_bind (wpAny_onRaise ?_))
  show wpAny _ _ (Builtin.SmallTypes.nextOf (.ref i1) >>= _) _ _ _
  refine wpAny_bind (nextOf_tup hh (h1.extBut hs₁.extBut D.i1z) (hl1.extBut hs₁.extBut D.l1z) (fun x h₂ hx h1₂ hs₂=>wpAny_pure ?_) fun h₂ e hx hs₂ he=>?_)
  · have hTO₂:IsPair h₂ TO a b:=hs₂.extBut _ _ D.TOi1 (hs₁.extBut _ _ D.TOz hTO)
    refine wpAny_bind (wpAny_seqItems hTO₂ rfl ?_)
    refine wpAny_bind (wpAny_updateSeq_pair hTO₂ fun h₃ hTO₃ hs₃=>?_)
    replace hTO₃:IsPair h₃ TO x b:=hTO₃
    refine wpAny_bind (wpAny_letGo (wpAny_pure ?_))
    refine wpAny_bind (wpAny_bind (wpAny_onRaise ?_))
    show wpAny _ _ (Builtin.SmallTypes.nextOf (.ref i2) >>= _) _ _ _
    refine wpAny_bind (nextOf_tup hh (((h2.extBut hs₁.extBut D.i2z).extBut hs₂.extBut D.i12.symm).extBut hs₃.extBut D.TOi2.symm)
      (((hl2.extBut hs₁.extBut D.l2z).extBut hs₂.extBut D.l2i1).extBut hs₃.extBut D.l2TO) (fun y h₄ hy h2₄ hs₄=>wpAny_pure ?_) fun h₄ e hy hs₄ he=>?_)
    · have hTO₄:IsPair h₄ TO x b:=hs₄.extBut _ _ D.TOi2 hTO₃
      refine wpAny_bind (wpAny_seqItems hTO₄ rfl ?_)
      refine wpAny_bind (wpAny_updateSeq_pair hTO₄ fun h₅ hTO₅ hs₅=>?_)
      replace hTO₅:IsPair h₅ TO x y:=hTO₅
      refine wpAny_bind (wpAny_letGo (wpAny_pure (wpAny_pure ?_)))
      refine wpAny_bind (wpAny_seqItems hTO₅ rfl ?_)
      refine wpAny_bind (wpAny_newTuple ?_)
      have hsz:h₅.objs.size=s.heap.objs.size:=by rw [hs₅.1,hs₄.1,hs₃.1,hs₂.1,hs₁.1]
      have hz₅:IsZip h₅ z TI TO .ellipsis:=hs₅.extBut _ _ D.TOz.symm (hs₄.extBut _ _ D.i2z.symm (hs₃.extBut _ _ D.TOz.symm (hs₂.extBut _ _ D.i1z.symm hz₁)))
      have hk₅:∀ c o,c ≠ z→c ≠ TO→c ≠ i1→c ≠ i2→s.heap.get? c=some o→h₅.get? c=some o:=fun c o c1 c2 c3 c4 e =>
        hs₅.extBut _ _ c2 (hs₄.extBut _ _ c4 (hs₃.extBut _ _ c2 (hs₂.extBut _ _ c3 (hs₁.extBut _ _ c1 e))))
      have h1₅:h₅.IsTupleIter i1 t1 (k + 1):=((h1₂.extBut hs₃.extBut D.TOi1.symm).extBut hs₄.extBut D.i12).extBut hs₅.extBut D.TOi1.symm
      have h2₅:h₅.IsTupleIter i2 t2 (k + 1):=h2₄.extBut hs₅.extBut D.TOi2.symm
      have hzlt:z < h₅.objs.size:=Heap.lt_size hz₅
      show wpAny _ _ (Builtin.SmallTypes.ownedTupleHandOut (.ref z) (.ref h₅.objs.size) >>= _) _ _ _
      refine wpAny_bind ?_
      have hz₆:IsZip (h₅.push { cls:=.type "tuple",data:=.seq #[x,y] }) z TI TO .ellipsis:=Heap.get?_push_of_some _ hz₅
      refine wpAny_bind (wpAny_setField_rec hz₆ (by simp) fun h₇ hz₇ hs₇=>?_)
      replace hz₇:IsZip h₇ z TI TO (rawInt h₅.objs.size):=hz₇
      refine wpAny_setField_rec hz₇ (by simp) fun h₈ hz₈ hs₈=>?_
      replace hz₈:IsZip h₈ z TI TO (rawInt h₅.objs.size):=hz₈
      have up:∀ c o,c ≠ z→h₅.get? c=some o→h₈.get? c=some o:=fun c o c1 e=>hs₈.extBut _ _ c1 (hs₇.extBut _ _ c1 (Heap.get?_push_of_some _ e))
      have hT₈:IsPair h₈ h₅.objs.size x y:=hs₈.extBut _ _ (Nat.ne_of_gt hzlt) (hs₇.extBut _ _ (Nat.ne_of_gt hzlt) (Heap.get?_push_size _ rfl))
      rw [hsz] at hz₈ hT₈
      have upT:∀ c o,c ≠ z→c ≠ TO→c ≠ i1→c ≠ i2→s.heap.get? c=some o→h₈.get? c=some o:=fun c o c1 c2 c3 c4 e=>up c o c1 (hk₅ c o c1 c2 c3 c4 e)
      refine wpAny_pure ?_
      show Q (.done (.ret (.ref h₅.objs.size))) _
      rw [hsz]
      refine hQ x y h₈ hx hy ⟨hz₈,upT _ _ D.TIz D.TITO D.TIi1 D.TIi2 hTI,⟨x,y,up _ _ D.TOz hTO₅⟩,h1₅.at fun o e=>up _ o D.i1z e,h2₅.at fun o e=>up _ o D.i2z e,?_,?_⟩ hT₈ upT
      · obtain ⟨o,e,r⟩:=hl1; exact ⟨o,upT _ _ D.l1z D.l1TO D.l1i1 D.l1i2 e,r⟩
      · obtain ⟨o,e,r⟩:=hl2; exact ⟨o,upT _ _ D.l2z D.l2TO D.l2i1 D.l2i2 e,r⟩
    · refine Xeaa (he) fun oe hoe hce=>?_
      have hz₄:IsZip h₄ z TI TO .ellipsis:=hs₄ _ _ D.i2z.symm (hs₃.extBut _ _ D.TOz.symm (hs₂.extBut _ _ D.i1z.symm hz₁))
      have hez:e ≠ z:=fun x=>by subst x; cases ssm hz₄ hoe; simp at hce
      refine wpAny_setField_rec hz₄ (by simp) fun h₅ _ hs₅=>hE h₅ e (.inr hy) (fun c o c1 c2 c3 c4 x=>hs₅.extBut _ _ c1 (hs₄ _ _ c4 (hs₃.extBut _ _ c2 (hs₂.extBut _ _ c3 (hs₁.extBut _ _ c1 x))))) ⟨oe,hs₅.extBut _ _ hez hoe,hce⟩
  · refine Xeaa (he) fun oe hoe hce=>?_
    have hz₂:IsZip h₂ z TI TO .ellipsis:=hs₂ _ _ D.i1z.symm hz₁
    have hez:e ≠ z:=fun x=>by subst x; cases ssm hz₂ hoe; simp at hce
    exact wpAny_setField_rec hz₂ (by simp) fun h₃ _ hs₃=>hE h₃ e (.inl hx) (fun c o c1 _ c3 _ x=>hs₃.extBut _ _ c1 (hs₂ _ _ c3 (hs₁.extBut _ _ c1 x))) ⟨oe,hs₃.extBut _ _ hez hoe,hce⟩

theorem pyNext_zip {z TI TO i1 i2 t1 t2:Addr} {k:Nat} {xs ys:Array Value} {Q:Option Value→Shared→Prop} (hh:A.handled=none) (D:ZipApart z TI TO i1 i2 t1 t2) (S:ZSt s.heap z TI TO i1 i2 t1 t2 .none k xs ys)
    (hQ:∀ x y h',xs[k]?=some x→ys[k]?=some y→ZSt h' z TI TO i1 i2 t1 t2 (rawInt s.heap.objs.size) (k + 1) xs ys→IsPair h' s.heap.objs.size x y →
      (∀ c o,c ≠ z→c ≠ TO→c ≠ i1→c ≠ i2→s.heap.get? c=some o→h'.get? c=some o)→Q (some (.ref s.heap.objs.size)) { s with heap:=h' })
    (hE:∀ h',(xs[k]?=none∨ys[k]?=none)→(∀ c o,c ≠ z→c ≠ TO→c ≠ i1→c ≠ i2→s.heap.get? c=some o→h'.get? c=some o)→Q none { s with heap:=h' }) :
    wpAny (model prog w) A (pyNext (.ref z)) Q E s:=by
  have hT:s.TypeIs (.ref z) "zip":=⟨_,S.z,rfl⟩
  refine wpAny_bind (wpAny_attempt (wpAny_callSpecial?_slot (name:=Str.ofString "__next__") hT F.slot_zip_next
    (wpAny_call_entry F.slot_zip_next hT F.entry_zip_next (zip_step hh D S (fun x y h' e1 e2 a1 a2 a3=>⟨_,rfl,wpAny_pure (hQ x y h' e1 e2 a1 a2 a3)⟩) fun h' e hend hk he=>?_) (F.args_zip_next_1 _))))
  refine Xeaa (he) fun o ho hc=>?_
  refine wpAny_bind (wpAny_isInstance (T:="StopIteration") (b:=true) ⟨o,ho,hc⟩ isSubtype_stop ?_)
  exact wpAny_pure (hE _ hend hk)

noncomputable abbrev zp1 (h:Heap) (l1:Addr):Heap:=h.push { cls:=.type "tuple_iterator",data:=.fields #[.ref l1,.int 0 0] }
noncomputable abbrev zp2 (h:Heap) (l1 l2:Addr):Heap:=(zp1 h l1).push { cls:=.type "tuple_iterator",data:=.fields #[.ref l2,.int 0 0] }
noncomputable abbrev zp3 (h:Heap) (l1 l2:Addr):Heap:=(zp2 h l1 l2).push { cls:=.type "tuple",data:=.seq #[.ref h.objs.size,.ref (zp1 h l1).objs.size] }
noncomputable abbrev zp4 (h:Heap) (l1 l2:Addr):Heap:=(zp3 h l1 l2).push { cls:=.type "tuple",data:=.seq #[.none,.none] }
noncomputable abbrev zp5 (h:Heap) (l1 l2:Addr):Heap:=(zp4 h l1 l2).push { cls:=.type "zip",data:=.fields #[.none,.bool false,.bool false,.ref (zp2 h l1 l2).objs.size,.ref (zp3 h l1 l2).objs.size] }

theorem meets_zip (l1 l2:Addr) (xs ys:Array Value) :
    Meets (Builtin.«zip.__new__» ⟨[.type "zip",.ref l1,.ref l2],[]⟩) (fun _ R s=>s.heap.IsTuple l1 xs∧s.heap.IsTuple l2 ys ∧
      R (.ok (.ret (.ref (zp4 s.heap l1 l2).objs.size))) { s with heap:=zp5 s.heap l1 l2 }) :=
  .of_wp fun prog w A R s h=>by
    obtain ⟨hp,g,d,tk,os⟩:=s; obtain ⟨hl1,hl2,h⟩:=h
    have hsub:=sub_zip
    have hL1:Heap.IsTuple (Shared.heap ⟨hp,g,d,tk,os⟩) l1 xs:=hl1
    have hL2:Heap.IsTuple (Shared.heap ⟨hp.push { cls:=.type "tuple_iterator",data:=.fields #[.ref l1,.int 0 0] },g,d,tk,os⟩) l2 ys:=Heap.IsTuple.push hl2 _
    wp_walk using wpAny_pyIter_tuple hL1,wpAny_pyIter_tuple hL2
    exact ⟨_,rfl,h⟩

theorem call_zip {l1 l2:Addr} {xs ys:Array Value} {Q:Value→Shared→Prop} (hl1:s.heap.IsTuple l1 xs) (hl2:s.heap.IsTuple l2 ys)
    (h:∀ h',ZSt h' (s.heap.objs.size + 4) (s.heap.objs.size + 2) (s.heap.objs.size + 3) s.heap.objs.size (s.heap.objs.size + 1) l1 l2 .none 0 xs ys→(∀ c o,s.heap.get? c=some o→h'.get? c=some o)→Q (.ref (s.heap.objs.size + 4)) { s with heap:=h' }) :
    wpAny (model prog w) A (call (.type "zip") [.ref l1,.ref l2]) Q E s:=by
  refine callType_new F.called_zip (by decide) (F.typeCall_zip_2 _ _) (F.newCall_zip_2 _ _) (fun obj=>F.args_object_init_3 obj _ _) F.entry_zip_new
    (meets_zip l1 l2 xs ys) ⟨hl1,hl2,?_⟩
  have z1:(zp1 s.heap l1).objs.size=s.heap.objs.size + 1:=Heap.size_push ..
  have z2:(zp2 s.heap l1 l2).objs.size=s.heap.objs.size + 2:=by rw [Heap.size_push,z1]
  have z3:(zp3 s.heap l1 l2).objs.size=s.heap.objs.size + 3:=by rw [Heap.size_push,z2]
  have z4:(zp4 s.heap l1 l2).objs.size=s.heap.objs.size + 4:=by rw [Heap.size_push,z3]
  have g5:(zp5 s.heap l1 l2).get? (zp4 s.heap l1 l2).objs.size=some _:=Heap.get?_push_size _ rfl
  have g4:(zp5 s.heap l1 l2).get? (zp3 s.heap l1 l2).objs.size=some _:=Heap.get?_push_of_some _ (Heap.get?_push_size _ rfl)
  have g3:(zp5 s.heap l1 l2).get? (zp2 s.heap l1 l2).objs.size=some _:=Heap.get?_push_of_some _ (Heap.get?_push_of_some _ (Heap.get?_push_size _ rfl))
  have g2:(zp5 s.heap l1 l2).get? (zp1 s.heap l1).objs.size=some _:=Heap.get?_push_of_some _ (Heap.get?_push_of_some _ (Heap.get?_push_of_some _ (Heap.get?_push_size _ rfl)))
  have g1:(zp5 s.heap l1 l2).get? s.heap.objs.size=some _:=Heap.get?_push_of_some _ (Heap.get?_push_of_some _ (Heap.get?_push_of_some _ (Heap.get?_push_of_some _ (Heap.get?_push_size _ rfl))))
  have kp:∀ c o,s.heap.get? c=some o→(zp5 s.heap l1 l2).get? c=some o:=fun c o x =>
    Heap.get?_push_of_some _ (Heap.get?_push_of_some _ (Heap.get?_push_of_some _ (Heap.get?_push_of_some _ (Heap.get?_push_of_some _ x))))
  show _∧_
  rw [z2,z3,z4] at g5
  rw [z1,z2] at g3
  rw [z3] at g4
  rw [z1] at g2
  rw [z4]
  exact ⟨⟨_,g5,rfl⟩,h _ ⟨g5,g3,⟨_,_,g4⟩,⟨_,g1,rfl,rfl⟩,⟨_,g2,rfl,rfl⟩,let ⟨o,e,r⟩:=hl1; ⟨o,kp _ _ e,r⟩,let ⟨o,e,r⟩:=hl2; ⟨o,kp _ _ e,r⟩⟩ kp⟩
end
theorem pair_out {h:Heap} {T:Addr} {a b:Value} (x:IsPair h T a b):∃ o,h.get? T=some o∧OutObj o :=
  ⟨_,x,(fun c d q=>by cases q),(fun v q=>by cases q),(by simp [isFrameObj]),fun q=>by have:=q.1; simp at this⟩

theorem zip_nums (n:Nat) {a b:Nat} (h1:a < n) (h2:b < n):ZipApart (n + 4) (n + 2) (n + 3) n (n + 1) a b:=by
  constructor <;> intro q <;> have q:(_:Nat)=_:=q <;> lia

section
variable {C:Cst} {A:Around}

theorem itr_zip (hh:A.handled=none) {es:List Expr} {kk:Nat} {p:Pos} {z TI TO i1 i2 t1 t2:Addr} (D':ZipApart z TI TO i1 i2 t1 t2) {l m:List D} {xs ys:List Value}:Itr C A (.Tuple es kk p) (.ref z) [z,TI,TO,i1,i2] fun us Z h =>
    ∃ k,ZSt h z TI TO i1 i2 t1 t2 .none k xs.toArray ys.toArray∧((fz h Z).IsTuple t1 xs.toArray∧RelDs C.prog C.w (fz h Z) l xs∧(fz h Z).IsTuple t2 ys.toArray∧RelDs C.prog C.w (fz h Z) m ys)∧us=((l.zip m).map fun p=>D.tup [p.1,p.2]).drop k∧k ≤ (l.zip m).length where
  frame:=fun us Z Z' h h' hI hw hs=>by
    obtain ⟨k,⟨z1,z2,⟨a,b,z3⟩,z4,z5,z6,z7⟩,⟨f1,f2,f3,f4⟩,e,hk⟩:=hI
    have g1:=tuple_sub hs f1
    have g3:=tuple_sub hs f3
    exact ⟨k,⟨hw z (by simp) _ z1,hw TI (by simp) _ z2,⟨a,b,hw TO (by simp) _ z3⟩,z4.at fun o e=>hw i1 (by simp) o e,z5.at fun o e=>hw i2 (by simp) o e,isTuple_of g1,isTuple_of g3⟩,⟨g1,RelDs.mono hs f2,g3,RelDs.mono hs f4⟩,e,hk⟩
  objs:=fun us Z h hI b hb=>by
    obtain ⟨k,⟨z1,z2,⟨a,b',z3⟩,z4,z5,z6,z7⟩,_⟩:=hI
    simp only [List.mem_cons,List.not_mem_nil,or_false] at hb
    rcases hb with rfl | rfl | rfl | rfl | rfl
    · exact ⟨_,z1,(fun c d q=>by cases q),(fun v q=>by cases q),(by simp [isFrameObj]),fun q=>by have:=q.1; simp at this⟩
    · exact pair_out z2
    · exact pair_out z3
    · refine Xeaaa (z4) fun o e hc hd=>?_
      exact ⟨o,e,ItObj.out ⟨_,hc,by decide,by decide,fun v=>by rw [hd]; simp⟩⟩
    · refine Xeaaa (z5) fun o e hc hd=>?_
      exact ⟨o,e,ItObj.out ⟨_,hc,by decide,by decide,fun v=>by rw [hd]; simp⟩⟩
  self:=fun us Z s Q E hI hQ=>by
    refine Xeaa (hI) fun k S _=>?_
    exact wpAny_pyIter_zip S.z hQ
  item:=fun u us Z s Q E hI hw hQ=>by
    obtain ⟨k,S,⟨f1,f2,f3,f4⟩,e,hk⟩:=hI
    have hu:((l.zip m).map fun p=>D.tup [p.1,p.2])[k]?=some u:=by
      have:=congrArg (·[0]?) e
      simp only [List.getElem?_drop,Nat.add_zero] at this
      exact this.symm
    have hus:us=((l.zip m).map fun p=>D.tup [p.1,p.2]).drop (k + 1):=by
      have:=congrArg (List.drop 1) e
      rw [List.drop_drop] at this
      simpa [Nat.add_comm] using this
    rw [List.getElem?_map] at hu
    cases q:(l.zip m)[k]? with
    | none=>rw [q] at hu; cases hu
    | some pq =>
      rw [q] at hu
      cases hu
      obtain ⟨hl,hm⟩:=List.getElem?_zip_eq_some.mp q
      refine Xeaa (f2.get hl) fun v1 hv1 r1=>?_
      refine Xeaa (f4.get hm) fun v2 hv2 r2=>?_
      refine pyNext_zip hh D' S (fun x y h' hx hy S' hT hk'=>⟨.ref s.heap.objs.size,rfl,?_⟩) fun h' hend _=>?_
      · have hx:xs[k]?=some x:=by simpa using hx
        have hy:ys[k]?=some y:=by simpa using hy
        cases ssm hv1 hx
        cases ssm hv2 hy
        refine wpAny_letOwnedTupleGo_zip (s:={ s with heap:=h' }) S'.z fun h'' hz'' hs''=>?_
        have kk:∀ b o,b ∉ [z,TI,TO,i1,i2]→s.heap.get? b=some o→h''.get? b=some o:=fun b o hb e=>by
          simp only [List.mem_cons,List.not_mem_nil,or_false,not_or] at hb
          exact hs''.extBut _ _ hb.1 (hk' _ _ hb.1 hb.2.2.1 hb.2.2.2.1 hb.2.2.2.2 e)
        have hsub:Sub (fz s.heap Z) (fz h'' Z):=Sub.step (M:=[z,TI,TO,i1,i2]) (.of kk) (fun a ha=>.inl (hw a ha)) fun a ha=>.inl ha
        have hTz:s.heap.objs.size ≠ z:=Nat.ne_of_gt (Heap.lt_size S.z)
        have hT':h''.get? s.heap.objs.size=some { cls:=.type "tuple",data:=.seq #[v1,v2] }:=hs''.extBut _ _ hTz hT
        have hpush:∀ b,b=s.heap.objs.size→True:=fun _ _=>trivial
        refine hQ (.ref s.heap.objs.size) h'' s.toks (.inr ⟨⟨_,_,_,rfl⟩,s.heap.objs.size,[pq.1,pq.2],[v1,v2],rfl,rfl,⟨_,hT',rfl,_,rfl⟩,.cons (RelD.mono hsub r1) (.cons (RelD.mono hsub r2) .nil)⟩) ⟨k + 1,?_,⟨tuple_sub hsub f1,RelDs.mono hsub f2,tuple_sub hsub f3,RelDs.mono hsub f4⟩,hus,?_⟩ kk
        · obtain ⟨z1,z2,⟨a,b,z3⟩,z4,z5,z6,z7⟩:=S'
          exact ⟨hz'',hs''.extBut _ _ D'.TIz z2,⟨a,b,hs''.extBut _ _ D'.TOz z3⟩,z4.extBut hs''.extBut D'.i1z,z5.extBut hs''.extBut D'.i2z,z6.extBut hs''.extBut D'.l1z,z7.extBut hs''.extBut D'.l2z⟩
        · exact (List.getElem?_eq_some_iff.mp q).1
      · rcases hend with h | h
        · have h:xs[k]?=none:=by simpa using h
          exact nsm h hv1
        · have h:ys[k]?=none:=by simpa using h
          exact nsm h hv2
  done:=fun Z s Q E hI hQ=>by
    obtain ⟨k,S,⟨f1,f2,f3,f4⟩,e,hk⟩:=hI
    have hkk:k=(l.zip m).length:=by
      have:=congrArg List.length e
      simp at this
      simp at hk ⊢
      lia
    refine pyNext_zip hh D' S (fun x y h' hx hy S' hT hk'=>?_) fun h' hend hk'=>⟨rfl,hQ h' s.toks fun b o hb e=>?_⟩
    · have hx:xs[k]?=some x:=by simpa using hx
      have hy:ys[k]?=some y:=by simpa using hy
      have a1:=(List.getElem?_eq_some_iff.mp hx).1
      have a2:=(List.getElem?_eq_some_iff.mp hy).1
      have b1:=f2.length
      have b2:=f4.length
      rw [List.length_zip] at hkk
      lia
    · simp only [List.mem_cons,List.not_mem_nil,or_false,not_or] at hb
      exact hk' _ _ hb.1 hb.2.2.1 hb.2.2.2.1 hb.2.2.2.2 e
end

section
variable {C:Cst} {G:Nat→D} {NM:Names} {H:Hd} {n:Nat} {sp:Sp} {A:Around} {X:Act} {lc₀ lc lc₁ lc' lc'':Loc} {ρ ρ':Ro} {ow ow':Nat→Option Addr} {ol ol' ol'':List Addr} {σ σ₁ σ':Store} {s₀ s₁ s s' s'':Shared}

theorem it_zip {es:List Expr} {kk:Nat} {tp:Pos} {a b:Expr} {e₁ e₂:Mine.E} {p pos:Pos} (ok:COK C G NM) (hn1:notStar a=true) (hn2:notStar b=true) (hk:sp.scope.names.lookup ("zip":Str)=some .globalImplicit) (h1:EvOK C G H n sp a e₁) (h2:EvOK C G H n sp b e₂) :
    ItOK C G H n sp (.Tuple es kk tp) (.Call (.Name "zip" p) [a,b] [] pos) (.zip e₁ e₂):=fun A X lc ρ ow ol σ s Q E hs ha t K=>by
  refine wpAny_Call_NameR (wpAny_Name (load_built ok hs hk t ok.zip.1 ok.zip.2 ?_) (by decide))
  refine PySem.callWith_type (noStar_any (by simp [hn1,hn2])) (evalArgs_ok (by simp [hn1,hn2]) ?_)
  rw [starEach_cons hn1,starEach_cons hn2]
  refine Calls.spliced_cons ((h1 A X lc ρ ow ol σ s hs ha t).toD _ _ ⟨fun q=>K.nb (by simp only [xIc,q]; rfl),fun x σ₁ lc₁ s₁ v1 q1 xt1 r1=>?_,fun k t σ' lc' s' e q=>K.ex k t σ' lc' s' e (by simp only [xIc,q]; rfl)⟩)
  refine Calls.spliced_cons ((h2 A X lc₁ ρ ow ol σ₁ s₁ hs ha xt1.st).toD _ _ ⟨fun q=>K.nb (by simp only [xIc,q1]; show (toD (evE G H e₂ ρ σ₁)).bind _=_; rw [q]; rfl),fun y σ₂ lc₂ s₂ v2 q2 xt2 r2=>?_,fun k t σ' lc' s' e q xt xa=>K.ex k t σ' lc' s' e (by simp only [xIc,q1]; show (toD (evE G H e₂ ρ σ₁)).bind _=_; rw [q]; rfl) (xt1.trans xt) (xa.back xt1.keep xt1.grow xt1.st.g)⟩)
  show wpAny _ _ (pure []) _ _ _
  refine wpAny_pure ?_
  have e0:evIt G H (.zip e₁ e₂) ρ σ=ofOpt σ₂ (zipItems x y):=by
    simp only [xIc,q1]
    show (toD (evE G H e₂ ρ σ₁)).bind _=_
    rw [q2]; rfl
  cases q3:zipItems x y with
  | none=>exact absurd (by rw [e0,q3]; rfl) K.nb
  | some us =>
    rw [q3] at e0
    refine Xeaa (Option.bind_eq_some_iff.mp q3) fun l h e2=>?_
    clear q3
    cases D.asTup_inv h
    refine Xeaa (Option.bind_eq_some_iff.mp e2) fun m h e3=>?_
    clear e2
    cases D.asTup_inv h
    · refine Xaa (iteS e3) fun hlim zz=>?_; clear e3; subst zz
      · refine Xeeaaa (RelD.tup_inv (xt2.relD r1)) fun T1 xs zz1 f1 f2=>?_; subst zz1
        refine Xeeaaa (RelD.tup_inv r2) fun T2 ys zz1 f3 f4=>?_; subst zz1
        have lt1:T1 < s₂.heap.objs.size:=by obtain ⟨o,e,_⟩:=isTuple_of f1; exact Heap.lt_size e
        have lt2:T2 < s₂.heap.objs.size:=by obtain ⟨o,e,_⟩:=isTuple_of f3; exact Heap.lt_size e
        refine call_zip (isTuple_of f1) (isTuple_of f3) fun h' S kp=>?_
        have hw:∀ b ∈ [s₂.heap.objs.size + 4,s₂.heap.objs.size + 2,s₂.heap.objs.size + 3,s₂.heap.objs.size,s₂.heap.objs.size + 1],s₂.heap.get? b=none:=fun b hb=>by
          simp only [List.mem_cons,List.not_mem_nil,or_false] at hb
          rcases hb with rfl | rfl | rfl | rfl | rfl <;> exact Heap.get?_none_of_le (by lia)
        have D':ZipApart (s₂.heap.objs.size + 4) (s₂.heap.objs.size + 2) (s₂.heap.objs.size + 3) s₂.heap.objs.size (s₂.heap.objs.size + 1) T1 T2:=by
          exact zip_nums _ lt1 lt2
        have hsub:=hide_sub (C:=C) (X:=X) (lc:=lc₂) (ol:=ol) kp hw
        have xt:=xt1.trans xt2
        refine wpAny_pyIter_zip (s:={ s₂ with heap:=h' }) S.z ?_
        refine K.ok _ σ₂ lc₂ { s₂ with heap:=h' } _ _ _ e0 (xt.trans (Ext.all (s':={ s₂ with heap:=h' }) xt2.st kp)) (itr_zip ha.handled D') ⟨0,S,⟨tuple_sub hsub f1,RelDs.mono hsub f2,tuple_sub hsub f3,RelDs.mono hsub f4⟩,rfl,Nat.zero_le _⟩ (xt2.st.hide (tk:=s₂.toks) kp fun b hb=>⟨hw b hb,?_⟩) (fun b hb=>?_) fun b hb q=>?_
        · obtain ⟨z1,z2,⟨a,b',z3⟩,⟨o4,z4,_⟩,⟨o5,z5,_⟩,_⟩:=S
          simp only [List.mem_cons,List.not_mem_nil,or_false] at hb
          rcases hb with rfl | rfl | rfl | rfl | rfl
          · exact ⟨_,z1⟩
          · exact ⟨_,z2⟩
          · exact ⟨_,z3⟩
          · exact ⟨_,z4⟩
          · exact ⟨_,z5⟩
        · exact xt.keep.none (fun q=>Loc.mu_old xt2.st.g (hw b hb) (xt.grow.sub b q)) (hw b hb)
        · exact Loc.mu_old xt2.st.g (hw b hb) q
end
end Mine
end
section
open PySem PySem.W PyProof.Rows
namespace Mine
inductive KeysCst:List (Option Expr)→List D→Prop
  | nil:KeysCst [] []
  | cons {c:Const} {d:D} {k:Nat} {p:Pos} {ks:List (Option Expr)} {ds:List D}:cstD c=some d→KeysCst ks ds→KeysCst (some (.Constant c k p) :: ks) (d :: ds)
theorem KeysCst.all {ks:List (Option Expr)} {ds:List D} (h:KeysCst ks ds):ks.all (·.isSome)=true∧ks.length=ds.length:=by
  induction h with
  | nil=>exact ⟨rfl,rfl⟩
  | cons _ _ ih=>exact ⟨by simp [ih.1],by simp [ih.2]⟩

section
variable {C:Cst} {G:Nat→D} {NM:Names} {H:Hd} {n:Nat} {sp:Sp} {A:Around} {X:Act} {lc₀ lc lc₁ lc' lc'':Loc} {ρ ρ':Ro} {ow ow':Nat→Option Addr} {ol ol' ol'':List Addr} {σ σ₁ σ':Store} {s₀ s₁ s s' s'':Shared}

inductive EvL (C:Cst) (G:Nat→D) (H:Hd) (n:Nat) (sp:Sp):List Expr→Es→Prop
  | nil:EvL C G H n sp [] .nil
  | cons {a:Expr} {e:Mine.E} {as:List Expr} {es:Es}:EvOK C G H n sp a e→EvL C G H n sp as es→EvL C G H n sp (a :: as) (.cons e es)

theorem key_free {F F':Heap} {c:Const} {d:D} {v:Value} (hc:cstD c=some d) (r:RelD C.prog C.w F d v):RelD C.prog C.w F' d v:=by
  cases c <;> cases hc
  · obtain rfl:=r.null_inv; exact .null
  · obtain rfl:=r.bool_inv; exact .bool _
  · obtain ⟨u,rfl⟩:=r.int_inv; exact .int _ _
  · obtain ⟨u,rfl⟩:=r.str_inv; exact .str _ _

theorem pairs_ok {pos:Pos} {keys:List (Option Expr)} {ds:List D} {values:List Expr} {es:Es} (hk:KeysCst keys ds):EvL C G H n sp values es→ds.length=values.length→∀ (A:Around) (X:Act) (lc:Loc) (ρ:Ro) (ow:Nat→Option Addr) (ol:List Addr) (σ:Store) (s:Shared),SpX X sp→AOK C A X n→St C X lc ρ ow ol σ s →
    Den C A X (fun lc h vs ps=>relVs C X ol lc h vs (ps.map (·.2))∧RelDs C.prog C.w C.h₀ ds (ps.map (·.1))) lc ρ ow ol s (evVs G H es ρ σ) (evalPairs (pairTrees keys values X.env pos)):=by
  induction hk generalizing values es with
  | nil =>
    intro hv hl A X lc ρ ow ol σ s hs ha t Q E K
    cases hv with
    | nil=>exact pairTrees_nil_walk (K.ok [] σ lc s [] rfl (Ext.refl t) ⟨.nil,.nil⟩)
    | cons _ _=>simp at hl
  | cons hc hk ih =>
    intro hv hl A X lc ρ ow ol σ s hs ha t Q E K
    rename_i c d kk p ks ds
    cases hv with
    | nil=>simp at hl
    | cons h1 h2 =>
      rename_i a e as es
      have K':Cont C X (fun lc h vs (ps:List (Value × Value))=>relVs C X ol lc h vs (ps.map (·.2))∧RelDs C.prog C.w C.h₀ (d :: ds) (ps.map (·.1))) lc ρ ow ol s ((evE G H (.cst d) ρ σ).bind fun _ σ₁=>evVs G H (.cons e es) ρ σ₁) Q E:=K
      refine pairTrees_cons_walk ((ev_cst (n:=n) (sp:=sp) hc A X lc ρ ow ol σ s hs ha t).here K' fun kv s₁ v σ₁ lc₁ e1 xt1 p1 K1=>?_)
      cases e1
      refine (h1 A X lc₁ ρ ow ol _ s₁ hs ha xt1.st).here K1 fun vv s₂ v2 σ₂ lc₂ _ xt2 p2 K2=>?_
      refine (ih h2 (by simpa using hl) A X lc₂ ρ ow ol σ₂ s₂ hs ha xt2.st).here K2 fun ps s₃ vs σ₃ lc₃ _ xt3 p3 K3=>?_
      exact K3.ok _ _ _ _ _ rfl (Ext.refl xt3.st) ⟨.cons (xt3.relV p2) p3.1,.cons (key_free hc p1) p3.2⟩

theorem ext_unhid {wr:List Addr} (kp:∀ b o,s.heap.get? b=some o→s₁.heap.get? b=some o) (x:Ext C (X.hid wr) lc lc' ρ ow ol σ' s₁ s'):Ext C X lc lc' ρ ow ol σ' s s' :=
  ⟨x.st.unhide,(Keep.all kp).trans x.keep,⟨x.grow.box,x.grow.rd,fun a ha=>(x.grow.mu a ha).imp id fun q=>old_none (fun b o e=>⟨o,kp b o e⟩) q,x.grow.sub⟩⟩

theorem size_not_sys (ok:COK C G NM) (g:GRel C lc σ s):(s.heap.objs.size == sysModules)=false:=by
  refine Xeeeaa (ok.gl) fun o _ _ e _=>?_
  have:=Heap.lt_size (g.base _ _ e)
  have e1:mainGlobals=3:=rfl
  have e2:sysModules=1:=rfl
  rw [beq_eq_false_iff_ne]
  intro q
  rw [q,e1,e2] at this
  exact absurd this (by decide)

theorem dct_go {K:Type} [DecidableEq K] {knd:KeyKind C.prog C.w K} {keys:List (Option Expr)} {ds:List D} {values:List Expr} {es:Es} {pos:Pos} {Q:Value→Shared→Prop} {E:Value→Shared→Prop} (mk:List D→List D→Option D) (hk:KeysCst keys ds) (hv:EvL C G H n sp values es) (hl:ds.length=values.length) (h0:keys ≠ []) (hlen:keys.length ≤ 15)
    (hs:SpX X sp) (ha:AOK C A X n) (t:St C X lc ρ ow ol σ s) (Kc:Cont C X (relV C X ol) lc ρ ow ol s ((toDs (evVs G H es ρ σ)).bind fun l σ₁=>ofOpt σ₁ ((mk ds l).map V.d)) Q E)
    (fin:∀ l vs ps F d,mk ds l=some d→RelDs C.prog C.w F l vs→ps.map (·.2)=vs→RelDs C.prog C.w C.h₀ ds (ps.map (·.1))→∃ kvs,Carries knd ps kvs∧∀ F' a,(a == sysModules)=false→F'.DictOf knd a (merged [] kvs)→RelDs C.prog C.w F' l vs→RelD C.prog C.w F' d (.ref a)) (hns:(s.heap.objs.size == sysModules)=false) :
    wpAny C.M A (eval (.Dict keys values pos) X.env) Q E s:=by
  refine Xaa (hk.all) fun k1 k2=>?_
  refine wpAny_Dict_walk (knd:=knd) k1 (by rw [k2,hl]) h0 hlen ?_
  have hDn:=none_at_end s.heap
  have hD:=Heap.get?_push_size s.heap (o:={ cls:=.type "dict",data:=.dict #[] }) rfl
  have kp:∀ b o,s.heap.get? b=some o→(s.heap.push { cls:=.type "dict",data:=.dict #[] }).get? b=some o:=fun _ _ e=>Heap.get?_push_of_some _ e
  have t1:St C (X.hid [s.heap.objs.size]) lc ρ ow ol σ { s with heap:=s.heap.push { cls:=.type "dict",data:=.dict #[] },toks:=s.toks }:=t.hide (wr:=[s.heap.objs.size]) kp fun b hb=>by
    rw [List.mem_singleton.mp hb]; exact ⟨hDn,_,hD⟩
  refine Xaa (M_fresh t hDn) fun d1 d2=>?_
  have dmu:s.heap.objs.size ∉ lc.mu C:=Loc.mu_old t.g hDn
  have hdict:(s.heap.push { cls:=.type "dict",data:=.dict #[] }).DictOf knd s.heap.objs.size []:=Heap.DictOf.new s.heap
  generalize hDa:s.heap.objs.size=Da at *
  generalize hH:s.heap.push { cls:=.type "dict",data:=.dict #[] }=H1 at *
  refine pairs_ok (pos:=pos) hk hv hl A (X.hid [Da]) lc ρ ow ol σ _ ⟨hs.scope,hs.sl,hs.cn,hs.code,hs.qual⟩ ⟨ha.handled,ha.frames,ha.depth,ha.units⟩ t1 _ _ ⟨fun q=>Kc.nb (by rw [q]; rfl),fun vs σ₁ lc₁ s₁ ps e xt p=>?_,fun k tt σ' lc' s' x e xt xa=>Kc.ex k tt σ' lc' s' x (by rw [e]; rfl) (ext_unhid (s₁:={ s with heap:=H1,toks:=s.toks }) kp xt) (xa.back' fun b o e=>⟨o,kp b o e⟩)⟩
  refine Xaa (p) fun p1 p2=>?_
  cases q:unV vs with
  | none=>exact absurd (by rw [e]; simp [toDs,q,ofOpt,R.bind]) Kc.nb
  | some l =>
    have r1:=RelVs.unV p1 q
    cases q2:mk ds l with
    | none=>exact absurd (by rw [e]; simp [toDs,q,ofOpt,R.bind,q2]) Kc.nb
    | some d =>
      have hDs:s₁.heap.get? Da=some { cls:=.type "dict",data:=.dict #[] }:=xt.keep.get dmu hD (by simp [isFrameObj])
      have dmu1:Da ∉ lc₁.mu C:=fun z=>by
        rcases xt.grow.mu Da z with z | z
        · exact dmu z
        · exact nsm z hD
      refine Xeaa (fin l (ps.map (·.2)) ps (fz s₁.heap ((X.hid [Da]).Z C lc₁ ol)) d q2 r1 rfl p2) fun kvs c1 c2=>?_
      refine ⟨kvs,c1,hdict.at fun o e=>?_,fun h' hd' hsb=>?_⟩
      · cases ssm hD e; exact hDs
      · have k':∀ b o,b ∉ [Da]→s₁.heap.get? b=some o→h'.get? b=some o:=fun b o hb e=>hsb.extBut b o (fun z=>hb (by simp [z])) e
        have hX':Da ∈ (X.hid [Da]).Z C lc₁ ol:=List.mem_append_right _ (List.mem_append_right _ (.head _))
        have nZ:Da ∉ X.Z C lc₁ ol:=fun z=>by
          rcases List.mem_append.mp z with z | z
          · exact d1 z
          · rcases List.mem_append.mp z with z | z
            · exact dmu1 z
            · exact d2 z
        have hsub:Sub (fz s₁.heap ((X.hid [Da]).Z C lc₁ ol)) (fz h' (X.Z C lc₁ ol)):=Sub.step (M:=[Da]) (.of k') (fun a ha=>.inl (by rw [List.mem_singleton.mp ha]; exact hX')) fun a ha=>.inl (by
          unfold Act.Z at ha ⊢
          rcases List.mem_append.mp ha with ha | ha
          · exact List.mem_append_left _ ha
          · rcases List.mem_append.mp ha with ha | ha
            · exact List.mem_append_right _ (List.mem_append_left _ ha)
            · exact List.mem_append_right _ (List.mem_append_right _ (List.mem_append_right _ ha)))
        have st':=xt.st.turnOut (h':=h') (tk:=s₁.toks + ps.length) k' fun b hb=>by
          rw [List.mem_singleton.mp hb]
          refine ⟨dmu1,fun z=>?_,fun z=>?_,d2,fun o e=>?_⟩
          · exact d1 (.tail _ (List.mem_append_right _ z))
          · exact d1 (by rw [z]; exact .head _)
          · cases ssm hDs e
            exact ⟨fun c d q=>by (cases q),fun v q=>by (cases q),by simp [isFrameObj],fun q=>by have:=q.1; simp at this⟩
        have x1:=ext_unhid (s₁:={ s with heap:=H1,toks:=s.toks }) kp xt
        refine Kc.ok (.d d) σ₁ lc₁ _ _ (by rw [e]; simp [toDs,q,ofOpt,R.bind,q2]) ⟨st',fun b o hb e=>?_,x1.grow⟩ ?_
        · have hbd:b ≠ Da:=fun z=>by rw [z] at e; exact nsm hDn e
          refine Xeaa (x1.keep b o hb e) fun o₁ e₁ z₁=>?_
          exact ⟨o₁,hsb.extBut _ _ hbd e₁,z₁⟩
        · have fr:(fz h' (X.Z C lc₁ ol)).DictOf knd Da (merged [] kvs):=by
            refine Xeeeaa (hd') fun o es' ep ho r=>?_
            exact ⟨o,es',ep,fz_get.mpr ⟨ho,nZ⟩,r⟩
          exact c2 _ _ hns fr (RelDs.mono hsub r1)
end
end Mine
end
section
set_option tactic.hygienic false
open PySem PySem.W PyProof.Rows
namespace Mine
section
variable {C:Cst} {G:Nat→D} {NM:Names} {H:Hd} {n:Nat} {sp:Sp} {A:Around} {X:Act} {lc₀ lc lc₁ lc' lc'':Loc} {ρ ρ':Ro} {ow ow':Nat→Option Addr} {ol ol' ol'':List Addr} {σ σ₁ σ':Store} {s₀ s₁ s s' s'':Shared}

theorem carryI {F:Heap}:∀ {ds:List D} {is:List Int} {ps:List (Value × Value)},ds.mapM D.asInt=some is→RelDs C.prog C.w F ds (ps.map (·.1))→Carries (intKind C.prog C.w) ps (is.zip (ps.map (·.2)))∧is.length=ps.length
  | [],is,ps,e,r=>by
    cases e
    cases ps with
    | nil=>exact ⟨trivial,rfl⟩
    | cons p ps=>cases r
  | d :: ds,is,ps,e,r=>by
    rw [List.mapM_cons] at e
    cases ps with
    | nil=>cases r
    | cons p ps =>
      cases r with
      | cons r1 r2 =>
        cases d with
        | int i =>
          obtain ⟨u,hu⟩:=r1.int_inv
          cases q:ds.mapM D.asInt with
          | none=>rw [q] at e; cases e
          | some is' =>
            rw [q] at e
            cases e
            obtain ⟨c1,c2⟩:=carryI q r2
            obtain ⟨pk,pv⟩:=p
            simp only at hu
            subst hu
            exact ⟨⟨intKind_is _ _ _ _,rfl,c1⟩,by simp [c2]⟩
        | _=>cases e
theorem carryS {F:Heap}:∀ {ds:List D} {ss:List (List Nat)} {ps:List (Value × Value)},ds.mapM D.asStr=some ss→RelDs C.prog C.w F ds (ps.map (·.1))→Carries (PySem.strKind C.prog C.w) ps ((ss.map mkS).zip (ps.map (·.2)))∧ss.length=ps.length
  | [],is,ps,e,r=>by
    cases e
    cases ps with
    | nil=>exact ⟨trivial,rfl⟩
    | cons p ps=>cases r
  | d :: ds,is,ps,e,r=>by
    rw [List.mapM_cons] at e
    cases ps with
    | nil=>cases r
    | cons p ps =>
      cases r with
      | cons r1 r2 =>
        cases d with
        | str i =>
          obtain ⟨u,hu⟩:=r1.str_inv
          cases q:ds.mapM D.asStr with
          | none=>rw [q] at e; cases e
          | some is' =>
            rw [q] at e
            cases e
            obtain ⟨c1,c2⟩:=carryS q r2
            obtain ⟨pk,pv⟩:=p
            simp only at hu
            subst hu
            exact ⟨⟨strKind_is _ _ _ _,rfl,c1⟩,by simp [c2]⟩
        | _=>cases e

theorem zip_fst {α β:Type} {l:List α} {m:List β} (h:l.length=m.length):(l.zip m).map (·.1)=l:=by
  rw [← List.unzip_fst,List.unzip_zip h]
theorem zip_snd {α β:Type} {l:List α} {m:List β} (h:l.length=m.length):(l.zip m).map (·.2)=m:=by
  rw [← List.unzip_snd,List.unzip_zip h]
theorem mkS_inj {a b:List Nat} (h:mkS a=mkS b):a=b:=by
  have:=congrArg (fun s:Str=>s.cps.toList) h
  simpa using this
theorem nodup_mkS {l:List (List Nat)} (h:l.Nodup):(l.map mkS).Nodup:=by
  unfold List.Nodup at h ⊢
  rw [List.pairwise_map]
  exact h.imp fun {a b} hab q=>hab (mkS_inj q)

theorem ev_dct {keys:List (Option Expr)} {ds:List D} {values:List Expr} {es:Es} {pos:Pos} (ok:COK C G NM) (hk:KeysCst keys ds) (hv:EvL C G H n sp values es) (hl:ds.length=values.length) (h0:keys ≠ []) (hlen:keys.length ≤ 15) (hkk:((ds.mapM D.asInt).isSome || (ds.mapM D.asStr).isSome)=true) :
    EvOK C G H n sp (.Dict keys values pos) (.dct ds es):=fun A X lc ρ ow ol σ s hs ha t Q E K=>by
  have K:Cont C X (relV C X ol) lc ρ ow ol s ((toDs (evVs G H es ρ σ)).bind fun l σ₁=>ofOpt σ₁ ((mkDct ds l).map V.d)) Q E:=K
  cases q:ds.mapM D.asInt with
  | some is =>
    refine dct_go (knd:=intKind C.prog C.w) mkDct hk hv hl h0 hlen hs ha t K (fun l vs ps F d e r e2 r2=>?_) (size_not_sys ok t.g)
    subst e2
    obtain ⟨c1,c2⟩:=carryI q r2
    have hlv:=r.length
    rw [List.length_map] at hlv
    unfold mkDct at e
    rw [q] at e
    simp only at e
    split at e
    · split at e
      · rename_i hnd
        cases e
        have hz:is.length=(ps.map (·.2)).length:=by rw [List.length_map,c2]
        have hz2:is.length=l.length:=by rw [hlv,c2]
        refine ⟨_,c1,fun F' a ha hd rr=>?_⟩
        have hm:merged [] (is.zip (ps.map (·.2)))=is.zip (ps.map (·.2)):=merged_nil_of_nodup _ (by rw [zip_fst hz]; exact hnd)
        rw [hm] at hd
        exact RelD.dcI ha hd (by rw [zip_fst hz,zip_fst hz2]) (by rw [zip_snd hz,zip_snd hz2]; exact rr)
      · cases e
    · cases e
  | none =>
    cases q2:ds.mapM D.asStr with
    | none =>
      rw [q,q2] at hkk
      cases hkk
    | some ss =>
      refine dct_go (knd:=PySem.strKind C.prog C.w) mkDct hk hv hl h0 hlen hs ha t K (fun l vs ps F d e r e2 r2=>?_) (size_not_sys ok t.g)
      subst e2
      obtain ⟨c1,c2⟩:=carryS q2 r2
      have hlv:=r.length
      rw [List.length_map] at hlv
      unfold mkDct at e
      rw [q,q2] at e
      simp only at e
      split at e
      · split at e
        · rename_i hnd
          cases e
          have hz:(ss.map mkS).length=(ps.map (·.2)).length:=by rw [List.length_map,List.length_map,c2]
          have hz2:ss.length=l.length:=by rw [hlv,c2]
          refine ⟨_,c1,fun F' a ha hd rr=>?_⟩
          have hm:merged [] ((ss.map mkS).zip (ps.map (·.2)))=(ss.map mkS).zip (ps.map (·.2)):=merged_nil_of_nodup _ (by rw [zip_fst hz]; exact nodup_mkS hnd)
          rw [hm] at hd
          refine RelD.dcS ha hd ?_ ?_
          · have e1:List.map (fun p:List Nat × D=>mkS p.1) (ss.zip l)=(List.map (·.1) (ss.zip l)).map mkS:=by rw [List.map_map]; rfl
            rw [zip_fst hz,e1,zip_fst hz2]
          · rw [zip_snd hz,zip_snd hz2]; exact rr
        · cases e
      · cases e
end
end Mine
end
section
open PySem PySem.W PyProof.Rows
namespace Mine
noncomputable abbrev PS:=Sem Value × Sem Value
noncomputable abbrev DS:=Option Addr × List PS
section
variable {f:Option (Sem Value) × Sem Value→DS→Sem (ForInStep DS)} {fl:List PS→Option Addr→Sem (Option Addr)} {nd:Sem Value}
theorem dd_loop (hf:∀ (p:PS) m run,run.length < 16→f (some p.1,p.2) (m,run)=pure (.yield (m,run++[p]))) :
    ∀ (l:List PS) (r:List (Option (Sem Value) × Sem Value)) (m:Option Addr) (run:List PS),run.length + l.length ≤ 16→forIn (l.map (fun p=>(some p.1,p.2))++r) ((m,run):DS) f=forIn r (m,run++l) f
  | [],r,m,run,_=>by rw [List.append_nil]; rfl
  | p :: l,r,m,run,h=>by
    rw [List.length_cons] at h
    rw [List.map_cons,List.cons_append,List.forIn_cons,hf p m run (by lia),pure_bind]
    exact (dd_loop hf l r m (run++[p]) (by rw [List.length_append]; show run.length + 1 + _ ≤ _; lia)).trans (by rw [List.append_assoc]; rfl)
theorem dd_two (hf:∀ (p:PS) m run,run.length < 16→f (some p.1,p.2) (m,run)=pure (.yield (m,run++[p]))) (hg:∀ (p:PS) m run,run.length=16→f (some p.1,p.2) (m,run)=fl (run++[p]) m >>= fun m=>pure (.yield (m,[])))
    {a b:List PS} {x:PS} (ha:a.length=16) (hb:b.length=15) {k:DS→Sem Value}:(forIn (a.map (fun p=>(some p.1,p.2))++(some x.1,x.2) :: b.map (fun p=>(some p.1,p.2))) ((none,[]):DS) f >>= k)=fl (a++[x]) none >>= fun m=>k (m,b):=by
  have e:=fun m=>dd_loop hf b [] m [] (by rw [hb]; decide)
  rw [dd_loop hf a _ _ _ (by rw [ha]; decide),List.nil_append,List.forIn_cons,hg _ _ _ ha,bind_assoc,bind_assoc]
  refine congrArg (fl _ none >>= ·) (funext fun m=>?_)
  rw [pure_bind]
  show (forIn _ ((m,[]):DS) f >>= k)=_
  have:=e m
  rw [List.append_nil] at this
  rw [this]
  exact pure_bind _ _
end
noncomputable def ddFl (run:List PS) (main:Option Addr):Sem (Option Addr):=do
  if run.isEmpty then return main
  match main with
  | none=>return some (← subDict run)
  | some d =>
    let sub ← holding [.ref d] (subDict run)
    (holding [.ref d,.ref sub] (mergeMapping d (.ref sub) false)).onRaise fun x=>do let _ ← holding [.ref d,x] (runValue (.builtin "proto.let_go" {}))
    return some d
theorem long_L (L:List (Sem Value × Sem Value)) (h:L.length=32):dictDisplay (L.map fun p=>(some p.1,p.2))=(do
    let d ← subDict (L.take 17)
    let sub ← holding [.ref d] (subDict (L.drop 17))
    (holding [.ref d,.ref sub] (mergeMapping d (.ref sub) false)).onRaise fun x=>do let _ ← holding [.ref d,x] (runValue (.builtin "proto.let_go" {}))
    pure (.ref d)):=by
  obtain ⟨a,x,b,rfl,ha,hb⟩:∃ a x b,L=a++x :: b∧a.length=16∧b.length=15:=⟨L.take 16,L[16],L.drop 17,(List.take_append_drop 16 L).symm.trans (congrArg _ (List.drop_eq_getElem_cons (by lia))),by rw [List.length_take]; lia,by rw [List.length_drop]; lia⟩
  have e1:(a++x :: b).take 17=a++[x]:=by rw [show 17=a.length + 1 by lia,List.take_length_add_append]; rfl
  have e2:(a++x :: b).drop 17=b:=by rw [show 17=a.length + 1 by lia,List.drop_length_add_append]; rfl
  have h1:∀ (run:List PS) (p:PS),run.length < 16→¬ ((run++[p]).length == 17)=true:=fun run p h e=>by
    have e:(run++[p]).length=17:=eq_of_beq e
    rw [List.length_append] at e
    exact absurd e (show run.length + 1 ≠ 17 by lia)
  have h2:∀ (run:List PS) (p:PS),run.length=16→((run++[p]).length == 17)=true:=fun run p h=>by rw [List.length_append,h]; rfl
  have n1:¬ (a++[x]).isEmpty=true:=fun e=>by cases a <;> cases e
  have n2:¬ b.isEmpty=true:=fun e=>by rw [List.isEmpty_iff.mp e] at hb; cases hb
  rw [e1,e2,List.map_append]
  refine (dd_two (fl:=ddFl) (fun p m run h=>if_neg (h1 run p h)) (fun p m run h=>if_pos (h2 run p h)) ha hb).trans ?_
  refine (congrArg (· >>= _) (if_neg n1)).trans ?_
  refine (bind_assoc _ _ _).trans (congrArg (subDict _ >>= ·) (funext fun d=>?_))
  refine (pure_bind _ _).trans ((congrArg (· >>= _) (if_neg n2)).trans ?_)
  refine (bind_assoc _ _ _).trans (congrArg (holding [.ref d] _ >>= ·) (funext fun sub=>?_))
  refine (bind_assoc _ _ _).trans (congrArg (_ >>= ·) (funext fun _=>?_))
  exact pure_bind _ _

section
variable {prog:Program} {w:World} {A:Around} {E:Value→Shared→Prop} {s:Shared}

noncomputable def IP (p:Sem Value × Sem Value) (kv:Int × Int):Prop :=
  (∀ (M:Model) (A:Around) (E:Value→Shared→Prop) (s:Shared) (Q:Value→Shared→Prop),(∀ u tk,Q (.int kv.1 u) { s with toks:=tk })→wpAny M A p.1 Q E s) ∧
  (∀ (M:Model) (A:Around) (E:Value→Shared→Prop) (s:Shared) (Q:Value→Shared→Prop),(∀ u tk,Q (.int kv.2 u) { s with toks:=tk })→wpAny M A p.2 Q E s)
inductive IPs:List (Sem Value × Sem Value)→List (Int × Int)→Prop
  | nil:IPs [] []
  | cons {p:Sem Value × Sem Value} {kv:Int × Int} {ps:List (Sem Value × Sem Value)} {l:List (Int × Int)}:IP p kv→IPs ps l→IPs (p :: ps) (kv :: l)

noncomputable def KVInts (kvs:List (Int × Value)) (l:List (Int × Int)):Prop:=kvs.map (·.1)=l.map (·.1)∧IntsAre (kvs.map (·.2)) (l.map (·.2))
theorem KVInts.append {a b:List (Int × Value)} {l m:List (Int × Int)} (x:KVInts a l) (y:KVInts b m):KVInts (a++b) (l++m):=by
  refine ⟨by rw [List.map_append,List.map_append,x.1,y.1],?_⟩
  rw [List.map_append,List.map_append]
  exact x.2.append y.2

theorem stored_new {kvs:List (Int × Value)} {k:Int} {v:Value} (h:k ∉ kvs.map (·.1)):stored kvs k v=kvs++[(k,v)]:=by
  unfold stored
  rw [if_neg]
  intro q
  rw [List.any_eq_true] at q
  refine Xeaa (q) fun x hx e=>?_
  exact h (List.mem_map.mpr ⟨x,hx,of_decide_eq_true e⟩)

theorem sub_loop {d:Addr}:∀ (ps:List (Sem Value × Sem Value)) (l acc:List (Int × Int)) (kvs:List (Int × Value)) (s:Shared) (Q:PUnit→Shared→Prop),IPs ps l→((acc++l).map (·.1)).Nodup→(acc++l).length ≤ 1000→s.heap.DictOf (intKind prog w) d kvs→KVInts kvs acc →
    (∀ h' kvs' tk,h'.DictOf (intKind prog w) d kvs'→KVInts kvs' (acc++l)→Heap.SameBut d s.heap h'→Q PUnit.unit { s with heap:=h',toks:=tk }) →
    wpAny (model prog w) A (forIn ps PUnit.unit fun x _=>do
        let kv ← x.1
        let vv ← holding [kv] x.2
        holding [kv,vv] (dictSet d kv vv)
        pure (ForInStep.yield PUnit.unit)) Q E s
  | [],l,acc,kvs,s,Q,hp,hn,hz,hd,hk,hQ=>by
    cases hp
    rw [List.forIn_nil]
    exact wpAny_pure (hQ s.heap kvs s.toks hd (by simpa using hk) (Heap.SameBut.refl _ _))
  | p :: ps,l,acc,kvs,s,Q,hp,hn,hz,hd,hk,hQ=>by
    cases hp with
    | cons h1 h2 =>
      rename_i kv l
      rw [List.forIn_cons]
      refine wpAny_bind (wpAny_bind (h1.1 _ _ _ _ _ fun u tk=>wpAny_bind (wpAny_holding (h1.2 _ _ _ _ _ fun u2 tk2=>wpAny_bind (wpAny_holding ?_)))))
      have hz':kvs.length ≤ sizeLine:=by
        have e1:=congrArg List.length hk.1
        simp only [List.length_map] at e1
        simp only [List.length_append,List.length_cons] at hz
        rw [sizeLine_eq]; lia
      have hnew:kv.1 ∉ kvs.map (·.1):=by
        rw [hk.1]
        intro q
        rw [List.map_append,List.nodup_append] at hn
        exact hn.2.2 kv.1 q kv.1 (by simp) rfl
      refine wpAny_dictSet_pairs (hsz:=hz') (intKind_is _ _ _ _) hd fun h₁ hd₁ hs₁=>wpAny_pure ?_
      rw [stored_new hnew] at hd₁
      refine sub_loop ps l (acc++[kv]) _ _ Q h2 (by simpa using hn) (by simpa using hz) hd₁ (hk.append (m:=[kv]) ⟨rfl,IntsAre.cons _ _ .nil⟩) fun h' kvs' tk' d' k' s'=>?_
      exact hQ h' kvs' tk' d' (by simpa using k') (hs₁.trans s')

theorem subDict_long {ps:List (Sem Value × Sem Value)} {l:List (Int × Int)} {Q:Addr→Shared→Prop} (hp:IPs ps l) (hn:(l.map (·.1)).Nodup) (h1:15 < ps.length) (hz:l.length ≤ 1000)
    (hQ:∀ h' kvs tk,h'.DictOf (intKind prog w) s.heap.objs.size kvs→KVInts kvs l→(∀ b o,s.heap.get? b=some o→h'.get? b=some o)→Q s.heap.objs.size { s with heap:=h',toks:=tk }) :
    wpAny (model prog w) A (subDict ps) Q E s:=by
  refine wpAny_bind (wpAny_alloc (wpAny_bind (wpAny_holding ?_)))
  rw [if_neg (by lia)]
  refine wpAny_bind (wpAny_rule (wpAny_bind ?_))
  refine sub_loop ps l [] [] { s with heap:=s.heap.push { cls:=.type "dict",data:=.dict #[] } } _ hp (by simpa using hn) (by simpa using hz) (Heap.DictOf.new s.heap) ⟨rfl,.nil⟩ fun h' kvs tk hd hk hs=>wpAny_pure (wpAny_pure (hQ h' kvs tk hd (by simpa using hk) fun b o e=>?_))
  exact hs.extBut _ _ (Nat.ne_of_lt (Heap.lt_size e)) (Heap.get?_push_of_some _ e)

theorem evalPairs_IP {ps:List (Sem Value × Sem Value)} {l:List (Int × Int)} (hp:IPs ps l):∀ {s:Shared} {Q:List (Value × Value)→Shared→Prop},
    (∀ vs kvs tk,Carries (intKind prog w) vs kvs→KVInts kvs l→Q vs { s with toks:=tk })→wpAny (model prog w) A (evalPairs ps) Q E s:=by
  induction hp with
  | nil=>exact fun h=>evalPairs_nil (h [] [] _ trivial ⟨rfl,.nil⟩)
  | @cons p kv ps l h1 h2 ih=>exact fun h=>evalPairs_cons (h1.1 _ _ _ _ _ fun u tk=>h1.2 _ _ _ _ _ fun u2 tk2=>ih fun vs kvs tk3 c k=>h _ ((kv.1,.int kv.2 u2) :: kvs) tk3 ⟨intKind_is _ _ _ _,rfl,c⟩ ⟨by simp [k.1],IntsAre.cons _ _ k.2⟩)

theorem subDict_short {ps:List (Sem Value × Sem Value)} {l:List (Int × Int)} {Q:Addr→Shared→Prop} (hp:IPs ps l) (hn:(l.map (·.1)).Nodup) (h1:ps.length ≤ 15)
    (hQ:∀ h' kvs tk,h'.DictOf (intKind prog w) s.heap.objs.size kvs→KVInts kvs l→(∀ b o,s.heap.get? b=some o→h'.get? b=some o)→Q s.heap.objs.size { s with heap:=h',toks:=tk }) :
    wpAny (model prog w) A (subDict ps) Q E s:=by
  refine wpAny_subDict (knd:=intKind prog w) h1 (evalPairs_IP hp fun vs kvs tk c k=>⟨kvs,c,Heap.DictOf.new s.heap,fun h' hd hs=>?_⟩)
  rw [merged_nil_of_nodup _ (by rw [k.1]; exact hn)] at hd
  exact hQ h' kvs _ hd k fun b o e=>hs.extBut _ _ (Nat.ne_of_lt (Heap.lt_size e)) (Heap.get?_push_of_some _ e)

theorem dictPut_new {d:Addr} {kvs:List (Int × Value)} {k:Int} {key v:Value} {Q:Unit→Shared→Prop} (hkey:(intKind prog w).is k key=true) (hm:s.heap.DictOf (intKind prog w) d kvs) (hnew:k ∉ kvs.map (·.1)) (hz:kvs.length ≤ 1000)
    (hQ:∀ h',h'.DictOf (intKind prog w) d (kvs++[(k,v)])→Heap.SameBut d s.heap h'→Q () { s with heap:=h' }) :
    wpAny (model prog w) A (dictPut d ((intKind prog w).hash k) key v) Q E s:=by
  refine Xeeeaaaaaa (hm) fun o es ep ho hc hd hk hp hn=>?_
  have hlen:es.size ≤ sizeLine:=by
    have e1:=hp.length
    have e2:es.toList.length=es.size:=by simp
    rw [sizeLine_eq]; lia
  refine wpAny_bind (wpAny_dictFind_of hkey ho hd hk ?_)
  have hidx:(es.findIdx? fun e=>(intKind prog w).is k e.key)=kvs.findIdx? fun kv=>decide (kv.1=k):=by
    rw [← hp.findIdx k]; obtain ⟨l⟩:=es; simp
  have hnone:(es.findIdx? fun e=>(intKind prog w).is k e.key)=none:=by
    rw [hidx,List.findIdx?_eq_none_iff]
    intro x hx
    simp only [decide_eq_false_iff_not]
    exact fun q=>hnew (List.mem_map.mpr ⟨x,hx,q⟩)
  rw [hnone]
  refine wpAny_updateDictKeys (hz:=hlen) ho hd (hQ _ ⟨_,_,ep + 1,Heap.get?_update_self _ ho (Obj.isFreed_of_dict (Obj.data_mapDictKeys hd _)),hc.mapDictKeys _,Obj.data_mapDictKeys hd _,hk.push hkey _,?_,?_⟩ (Heap.SameBut.update ..))
  · have:=hp.append hkey ((intKind prog w).hash k) v
    obtain ⟨l⟩:=es
    simpa using this
  · rw [List.map_append,List.nodup_append]
    refine ⟨hn,by simp,?_⟩
    intro a ha b hb
    simp only [List.map_cons,List.map_nil,List.mem_singleton] at hb
    subst hb
    exact fun e=>hnew (e ▸ ha)

theorem merge_ok {d o:Addr} {kvs more:List (Int × Value)} {Q:Unit→Shared→Prop} (hdo:d ≠ o) (hoS:(o == sysModules)=false) (hd:s.heap.DictOf (intKind prog w) d kvs) (ho:s.heap.DictOf (intKind prog w) o more) (hne:kvs ≠ []) (hn:((kvs++more).map (·.1)).Nodup) (hz:(kvs++more).length ≤ 1000)
    (hQ:∀ h',h'.DictOf (intKind prog w) d (kvs++more)→Heap.SameBut d s.heap h'→Q () { s with heap:=h' }):wpAny (model prog w) A (mergeMapping d (.ref o) false) Q E s:=by
  have hT:=ho.typeIs
  refine Xeeeaaaaaa (id ho) fun oo eso epo hoo hco hdo' hko hpo hno=>?_
  refine Xeeeaaaaaa (id hd) fun od esd epd hod hcd hdd hkd hpd hnd=>?_
  have hemp:¬ esd.isEmpty=true:=by
    intro q
    have h0:esd=#[]:=Array.isEmpty_iff.mp q
    have:=hpd.length
    rw [h0] at this
    exact hne (List.length_eq_zero_iff.mp (by simpa using this.symm))
  have hlen:more.length=eso.size:=by rw [← hpo.length]; simp
  refine wpAny_bind (wpAny_isInstance hT isSubtype_dict_dict ?_)
  rw [if_pos rfl]
  refine wpAny_bind (wpAny_specialOf hT PySem.F.slot_dict_iter.lookup (wpAny_bind (wpAny_pure ?_)))
  have e1:((some (Value.builtin "dict.__iter__") == some (Value.builtin "dict.__iter__")):Bool)=true:=by simp
  simp only [e1]
  rw [if_neg (by rw [hoS]; exact Bool.false_ne_true)]
  refine wpAny_bind (wpAny_dictEntries hod hdd ?_)
  rw [if_neg hemp]
  refine wpAny_bind (wpAny_dictEntries hoo hdo' (wpAny_bind (wpAny_dictEpoch hoo hdo' (wpAny_bind ?_))))
  refine wpAny_forIn_list _
    (fun rest _ s'=>∃ h' i,s'={ s with heap:=h' }∧rest=List.range' i (eso.size - i)∧i ≤ eso.size∧h'.DictOf (intKind prog w) d (kvs++more.take i)∧h'.get? o=some oo∧Heap.SameBut d s.heap h')
    _ ?_ ?_ _ _ ⟨s.heap,0,rfl,by rw [List.range_eq_range']; simp,Nat.zero_le _,by simpa using hd,hoo,Heap.SameBut.refl _ _⟩
  · rintro x rest b s' ⟨h',i,rfl,hr,hi,hd',hoo',hs'⟩
    have hlt:i < eso.size:=by
      rcases Nat.lt_or_ge i eso.size with h | h
      · exact h
      · rw [Nat.sub_eq_zero_of_le h] at hr; simp at hr
    obtain ⟨rfl,hrest⟩:x=i∧rest=List.range' (i + 1) (eso.size - (i + 1)):=by
      have e:eso.size - i=(eso.size - (i + 1)) + 1:=by lia
      rw [e,List.range'_succ] at hr
      injection hr with h1 h2
      exact ⟨h1,h2⟩
    refine wpAny_bind (wpAny_dictEntries hoo' hdo' ?_)
    rw [Array.getElem?_eq_getElem hlt]
    obtain ⟨kv,hkv⟩:∃ kv,more[x]?=some kv:=⟨more[x]'(by rw [hlen]; exact hlt),List.getElem?_eq_getElem _⟩
    obtain ⟨k,v⟩:=kv
    refine Xaa (hpo.get? (e:=eso[x]) (by simp [hlt]) hkv) fun hkey hval=>?_
    refine Xeaa (hko eso[x] (Array.getElem_mem hlt)) fun k' hkey' hhash=>?_
    obtain rfl:k'=k:=(intKind prog w).inj _ _ _ hkey' hkey
    show wpAny _ _ (holding [eso[x].key,eso[x].val] (dictPut d eso[x].hash eso[x].key eso[x].val) >>= _) _ _ _
    rw [hhash,hval]
    have hnew:k' ∉ (kvs++more.take x).map (·.1):=by
      intro q
      have e:=List.take_append_drop x more
      have hx:more.drop x=(k',v) :: more.drop (x + 1):=by
        rw [List.drop_eq_getElem_cons (by rw [hlen]; exact hlt)]
        have:=(List.getElem?_eq_some_iff.mp hkv).2
        rw [this]
      rw [← e,← List.append_assoc,List.map_append,List.nodup_append] at hn
      exact hn.2.2 k' q k' (by rw [hx]; simp) rfl
    have hzz:(kvs++more.take x).length ≤ 1000:=by
      rw [List.length_append] at hz ⊢
      have:(more.take x).length ≤ more.length:=by rw [List.length_take]; lia
      lia
    refine wpAny_bind (wpAny_holding (dictPut_new hkey hd' hnew hzz fun h'' hd'' hs''=>?_))
    have hoo'':h''.get? o=some oo:=(hs''.2 o (Ne.symm hdo)).trans hoo'
    refine wpAny_bind (wpAny_dictEpoch hoo'' hdo' ?_)
    rw [if_neg (by simp)]
    refine wpAny_pure ⟨h'',x + 1,rfl,hrest,hlt,?_,hoo'',hs'.trans hs''⟩
    rw [List.take_add_one,hkv]
    simpa using hd''
  · rintro b s' ⟨h',i,rfl,hr,hi,hd',hoo',hs'⟩
    have hin:i=eso.size:=by
      rcases Nat.lt_or_ge i eso.size with h | h
      · have e:eso.size - i=(eso.size - (i + 1)) + 1:=by lia
        rw [e,List.range'_succ] at hr; exact nomatch hr
      · exact Nat.le_antisymm hi h
    refine wpAny_pure (hQ h' ?_ hs')
    rw [hin,← hlen,List.take_length] at hd'; exact hd'
end
theorem IPs.take {ps:List (Sem Value × Sem Value)} {l:List (Int × Int)} (h:IPs ps l):∀ n,IPs (ps.take n) (l.take n)∧IPs (ps.drop n) (l.drop n):=by
  induction h with
  | nil=>intro n; simp; exact .nil
  | cons h1 h2 ih =>
    intro n
    cases n with
    | zero=>exact ⟨.nil,.cons h1 h2⟩
    | succ n=>exact ⟨.cons h1 (ih n).1,(ih n).2⟩

inductive ECs:List Expr→Es→List Int→Prop
  | nil:ECs [] .nil []
  | cons {v:Int} {k:Nat} {p:Pos} {as:List Expr} {es:Es} {l:List Int}:ECs as es l→ECs (.Constant (.int v) k p :: as) (.cons (.cst (.int v)) es) (v :: l)
theorem ECs.val {G:Nat→D} {H:Hd} {as:List Expr} {es:Es} {l:List Int} (h:ECs as es l) (ρ:Ro) (σ:Store):evVs G H es ρ σ=.ok (l.map fun v=>V.d (.int v)) σ:=by
  induction h with
  | nil=>rfl
  | cons _ ih =>
    simp only [xVb,xEb]
    show (evVs G H _ ρ σ).bind _=_
    rw [ih]
    rfl
theorem unV_ints (l:List Int):unV (l.map fun v=>V.d (.int v))=some (l.map D.int):=by
  induction l with
  | nil=>rfl
  | cons v l ih=>simp [unV,ih]
theorem mapM_ints (l:List Int):(l.map D.int).mapM D.asInt=some l:=by
  induction l with
  | nil=>rfl
  | cons v l ih=>rw [List.map_cons,List.mapM_cons,ih]; rfl

theorem pairs_IP {env:Env} {pos:Pos} {keys:List (Option Expr)} {values:List Expr} {is vs:List Int} {es:Es} (hk:KeysCst keys (is.map D.int)) (hv:ECs values es vs) (hl:is.length=vs.length):IPs (pairTrees keys values env pos) (is.zip vs):=by
  induction hv generalizing keys is with
  | nil =>
    obtain rfl:is=[]:=List.eq_nil_of_length_eq_zero hl
    cases hk
    exact .nil
  | cons hv ih =>
    rename_i v k p as es l
    cases is with
    | nil=>simp at hl
    | cons i is =>
      cases hk with
      | cons hc hk =>
        rename_i c kk pp ks
        refine .cons ⟨fun M A E s Q h=>?_,fun M A E s Q h=>?_⟩ (ih hk (by simpa using hl))
        · cases c <;> cases hc
          exact wpAny_Constant_int (env:=env) (k:=kk) (pos:=pp) (h _ _)
        · exact wpAny_bind (wpAny_Constant_int (env:=env) (k:=k) (pos:=p) (wpAny_bind (wpAny_standAt (wpAny_pure (h _ _)))))

section
variable {C:Cst} {G:Nat→D} {NM:Names} {H:Hd} {n:Nat} {sp:Sp} {A:Around} {X:Act} {lc₀ lc lc₁ lc' lc'':Loc} {ρ ρ':Ro} {ow ow':Nat→Option Addr} {ol ol' ol'':List Addr} {σ σ₁ σ':Store} {s₀ s₁ s s' s'':Shared}

theorem IntsAre.relDs {F:Heap} {l:List Int} {vs:List Value} (h:IntsAre vs l):RelDs C.prog C.w F (l.map D.int) vs:=by
  induction h with
  | nil=>exact .nil
  | cons n t _ ih=>exact .cons (.int _ _) ih

theorem ev_dct32 {keys:List (Option Expr)} {values:List Expr} {es:Es} {is vs:List Int} {pos:Pos} (ok:COK C G NM) (hk:KeysCst keys (is.map D.int)) (hv:ECs values es vs) (hl:is.length=vs.length) (h32:is.length=32) (hnd:is.Nodup) (hvl:keys.length=values.length) :
    EvOK C G H n sp (.Dict keys values pos) (.dct (is.map D.int) es):=fun A X lc ρ ow ol σ s hs ha t Q E K=>by
  have e0:evE G H (.dct (is.map D.int) es) ρ σ=.ok (.d (.dcI (is.zip (vs.map D.int)))) σ:=by
    simp only [xEr,hv.val]
    show (toDs (.ok (vs.map fun v=>V.d (.int v)) σ)).bind _=_
    simp only [toDs,unV_ints,ofOpt,R.bind]
    unfold mkDct
    rw [mapM_ints,if_pos (by simp [hl])]
    simp only
    rw [if_pos hnd]
    rfl
  rw [e0] at K
  refine Xaa (hk.all) fun k1 k2=>?_
  rw [List.length_map] at k2
  have hIP:=pairs_IP (env:=X.env) (pos:=pos) hk hv hl
  have hlen:(pairTrees keys values X.env pos).length=32:=by rw [pairTrees_length keys values X.env pos k1 hvl,k2,h32]
  rw [arm_eval_Dict,zip_pairTrees keys values X.env pos k1 hvl,long_L _ hlen]
  have hnd':((is.zip vs).map (·.1)).Nodup:=by rw [zip_fst hl]; exact hnd
  have hz:(is.zip vs).length=32:=by rw [List.length_zip,← hl,h32]; rfl
  have hsplit:(is.zip vs).take 17++(is.zip vs).drop 17=is.zip vs:=List.take_append_drop _ _
  obtain ⟨n1,n2,n3⟩:((is.zip vs).take 17 |>.map (·.1)).Nodup∧((is.zip vs).drop 17 |>.map (·.1)).Nodup∧True:=by
    rw [← hsplit,List.map_append,List.nodup_append] at hnd'
    exact ⟨hnd'.1,hnd'.2.1,trivial⟩
  refine wpAny_bind (wpAny_standAt (wpAny_bind (subDict_long (hIP.take 17).1 n1 (by rw [List.length_take,hlen]; decide) (by rw [List.length_take,hz]; decide) fun h₁ kvs tk1 d1 i1 k1'=>?_)))
  refine wpAny_bind (wpAny_holding (subDict_short (hIP.take 17).2 n2 (by rw [List.length_drop,hlen]; decide) fun h₂ more tk2 d2 i2 k2'=>?_))
  dsimp only at d2 k2' ⊢
  have hDn:=none_at_end s.heap
  have hD1:s.heap.objs.size < h₁.objs.size:=by obtain ⟨o,_,_,e,_⟩:=d1; exact Heap.lt_size e
  have hne:s.heap.objs.size ≠ h₁.objs.size:=Nat.ne_of_lt hD1
  have hsys:=size_not_sys ok t.g
  have hsys2:(h₁.objs.size == sysModules)=false:=by
    refine Xeeeaa (ok.gl) fun o _ _ e _=>?_
    have:=Heap.lt_size (k1' _ _ (t.g.base _ _ e))
    have e1:mainGlobals=3:=rfl
    have e2:sysModules=1:=rfl
    rw [beq_eq_false_iff_ne]
    intro q
    rw [q,e1,e2] at this
    exact absurd this (by decide)
  have hkk:KVInts (kvs++more) (is.zip vs):=by
    have:=i1.append i2
    rwa [hsplit] at this
  refine wpAny_bind (wpAny_onRaise (wpAny_holding (merge_ok hne hsys2 (d1.at fun o e=>k2' _ _ e) d2 ?_ ?_ ?_ fun h₃ d3 hs3=>wpAny_pure ?_)))
  · intro q
    have:=congrArg List.length i1.1
    rw [q] at this
    simp [hz] at this
  · rw [hkk.1]; exact hnd'
  · have:=congrArg List.length hkk.1
    simp only [List.length_map] at this
    rw [this,hz]; decide
  · have kp:∀ b o,s.heap.get? b=some o→h₃.get? b=some o:=fun b o e=>hs3.extBut _ _ (Nat.ne_of_lt (Heap.lt_size e)) (k2' _ _ (k1' _ _ e))
    refine K.ok (.d _) σ lc { s with heap:=h₃,toks:=tk2 } _ rfl (Ext.all t kp) ?_
    have fr:(fz h₃ (X.Z C lc ol)).DictOf (intKind C.prog C.w) s.heap.objs.size (kvs++more):=by
      refine Xeeeaa (d3) fun o es' ep ho r=>?_
      exact ⟨o,es',ep,fz_get.mpr ⟨ho,t.fresh hDn⟩,r⟩
    refine RelD.dcI hsys fr ?_ ?_
    · rw [hkk.1,zip_fst hl,zip_fst (by simp [hl])]
    · rw [zip_snd (by simp [hl])]
      have:=hkk.2
      rw [zip_snd hl] at this
      exact IntsAre.relDs this
end
end Mine
end
section
set_option tactic.hygienic false
open PySem PySem.W PySem.Calls PyProof.Rows Builtin Builtin.ObjectAttr
namespace Mine
section
variable {prog:Program} {w:World} {A:Around} {E:Value→Shared→Prop} {s:Shared} {K:Frag} {x cl:Addr} {ox:Obj} {od:Option Obj} {name:Str} {expr:Bool} {Q:Value→Shared→Prop}

theorem bga_kind:builtinKind "BaseException.__getattribute__"=some .slot:=by decide +kernel
theorem bga_split:splitId "BaseException.__getattribute__"=some ("BaseException","__getattribute__"):=by decide +kernel
theorem bga_check {M:Model} {self:Value} {nm:Value} {Q:Unit→Shared→Prop} (hi:Looks M s.heap (isInstance self (.type "BaseException")) true) (q:Q () s):wpAny M A (checkBuiltinCall "BaseException.__getattribute__" ⟨self :: [nm],[]⟩) Q E s :=
  @check_slot M A E s "BaseException.__getattribute__" "BaseException" "__getattribute__" self [nm] [] Q bga_kind bga_split hi (PySem.F.args_bexc_ga self nm) q

theorem get_exc {v:Value} (X:K.In s.heap) (I:InstAt s.heap x ox cl od) (hga:findIn K (.ref cl) "__getattribute__"=some (some (.builtin "BaseException.__getattribute__"))) (hgt:findIn K (.ref cl) "__getattr__"=some none) (hsub:mroIn K cl (.type "BaseException")=some true)
    (hf:findObj K cl od name=some (.value v)) (hh:handedIn v=true) (h:Q v { s with toks:=s.toks + 1 }):wpAny (model prog w) A (getAttr (.ref x) name expr) Q E s:=by
  obtain ⟨hp,g,d,t,os⟩:=s
  have L0:=I.type (M:=model prog w)
  have L1:=looks_findIn (M:=model prog w) X hga
  have L2:=looks_findIn (M:=model prog w) X hgt
  have L3:=looks_find (M:=model prog w) X I hf
  have f3:=PySem.F.attrBase_Exception.ga.bind (.ref x)
  have hx1:(onTheHeap (Value.ref cl) && Value.builtin "BaseException.__getattribute__" == Value.builtin "object.__getattribute__")=false:=by
    rw [show (Value.builtin "BaseException.__getattribute__" == Value.builtin "object.__getattribute__")=false by decide +kernel]; rfl
  have hx0:(expr && onTheHeap (Value.builtin "BaseException.__getattribute__"))=false:=by cases expr <;> rfl
  refine wpAny_bind (wpAny_mkText (wpAny_holding (wpAny_bind (L0.at (wpAny_bind (L1.at ?_))))))
  dsimp only
  rw [hx1]
  show wpAny _ _ (getAttrByItsOwn _ _ _ _ _ _) _ _ _
  unfold getAttrByItsOwn hookBefore
  rw [if_pos (show onTheHeap (Value.ref cl)=true from rfl)]
  refine wpAny_bind (L2.at (wpAny_bind (wpAny_attempt (wpAny_holding ?_))))
  unfold callGetattribute boundAndCalled
  rw [hx0,if_neg (by decide),f3]
  refine wpAny_bind (wpAny_pure (wpAny_call (codeAny_call_builtin PySem.F.attrBase_Exception.ga.plain PySem.F.entry_bexc_ga (Mine.bga_check (L0.andThen (looks_mroIn X hsub)) ?_))))
  have e1:slotArgs "__getattribute__" 1 ⟨[.ref x]++[.str name t],[]⟩=pure (.ref x,[.str name t]):=rfl
  unfold Builtin.«object.__getattribute__»
  rw [e1]
  refine wpAny_bind (wpAny_pure (wpAny_bind (m:=attrName _) (wpAny_of_eq (a:=name) rfl (wpAny_bind (L0.at (wpAny_bind (L3.at ?_)))))))
  refine wpAny_pure ?_
  show wpAny _ _ (handedOut v) _ _ _
  rw [handedOut_of hh]
  exact wpAny_pure h
end
end Mine
end
section
set_option tactic.hygienic false
open PySem PySem.W PyProof.Rows
namespace Mine
noncomputable def CodeQ (h:Heap) (cv:Value) (q:Str):Prop:=∃ b ob vs t,cv=.ref b∧h.get? b=some ob∧ob.cls=.type "code"∧ob.data=.fields vs∧vs[1]?=some (.str q t)
theorem CodeQ.rec' {h:Heap} {cv:Value} {q:Str} (x:CodeQ h cv q):h.CodeRec cv q:=let ⟨b,ob,vs,t,e1,e2,_,e4,e5⟩:=x; ⟨b,ob,vs,t,e1,e2,e4,e5⟩
theorem CodeQ.at {h h':Heap} {cv:Value} {q:Str} (x:CodeQ h cv q) (k:∀ b o,CodeObj o→h.get? b=some o→h'.get? b=some o):CodeQ h' cv q:=let ⟨b,ob,vs,t,e1,e2,e3,e4,e5⟩:=x; ⟨b,ob,vs,t,e1,k b ob ⟨e3,_,e4⟩ e2,e3,e4,e5⟩

structure TabOK (C:Cst):Prop where
  nd:∀ q ∈ C.tabs,∀ r ∈ C.tabs,q.2=r.2→q=r
  hd:∀ q ∈ C.tabs,CodeHd C.h₀ q.1 q.2
  bl:∃ bm o,C.mg "__builtins__"=some (.ref bm)∧bm ≠ builtinsNs∧bm ≠ mainGlobals∧C.h₀.get? bm=some o∧o.cls=.type "module"∧o.dict=some builtinsNs∧o.data=.plain

theorem among_snoc {pos p:Pos} {c v:Value} (l:List Value) (hl:TriplesOk l) (h:codeAmong p (l++[rawInt pos.line,rawInt pos.col,c])=some v):codeAmong p l=some v∨v=c:=by
  fun_induction TriplesOk l with
  | case1 =>
    simp only [codeAmong,rawInt,List.nil_append] at h
    split at h
    · cases h; exact .inr rfl
    · cases h
  | case2 a t b u x rest ih =>
    simp only [List.cons_append,codeAmong] at h ⊢
    split at h
    · rename_i q; rw [if_pos q]; exact .inl h
    · rename_i q; rw [if_neg q]; exact ih hl h
  | case3 l h1 h2=>exact hl.elim

section
variable {C:Cst} {G:Nat→D} {NM:Names} {H:Hd} {n:Nat} {sp:Sp} {A:Around} {X:Act} {lc₀ lc lc₁ lc' lc'':Loc} {ρ ρ':Ro} {ow ow':Nat→Option Addr} {ol ol' ol'':List Addr} {σ σ₁ σ':Store} {s₀ s₁ s s' s'':Shared}

theorem grel_tab {c P:Addr} {ps':Array Value} {h':Heap} {tk:Nat} (tb:TabOK C) (t:St C X lc ρ ow ol σ s) (hq:(c,P) ∈ C.tabs) (hx:Heap.ExtBut P s.heap h') (h1:h'.get? P=some (tabObj ps')) (h2:TriplesOk ps'.toList) (h3:CodesOk C h' c ps') :
    Ext C X lc lc ρ ow ol σ s { s with heap:=h',toks:=tk }:=by
  have hP:P ∈ lc.mu C:=mu_tab hq
  refine Xeaaa (t.g.tab _ hq) fun ps0 hP0 _ _=>?_
  have hP0:s.heap.get? P=some (tabObj ps0):=hP0
  have code:∀ b o,CodeObj o→s.heap.get? b=some o→h'.get? b=some o:=fun b o ho e=>hx _ _ (fun q=>by rw [q] at e; cases ssm hP0 e; have:=ho.1; simp at this) e
  refine Ext.of t ⟨fun b o e=>hx _ _ (fun q=>by rw [q] at e; exact nsm (t.g.new P hP) e) (t.g.base b o e),fun q hq2=>?_,?_,?_,t.g.new,t.g.gens,t.g.drawn,t.g.os⟩ (.of fun b o hb e=>hx _ _ (fun q=>hb (q ▸ hP)) e) (.refl ..)
  · by_cases z:q.2=P
    · obtain rfl:=tb.nd q hq2 (c,P) hq z
      exact ⟨ps',h1,h2,h3⟩
    · refine Xeaaa (t.g.tab q hq2) fun qs e t' cc=>?_
      exact ⟨qs,hx _ _ z e,t',cc.keep code⟩
  · have hb:=t.g.box
    cases q:lc.box <;> cases q2:σ.box <;> rw [q,q2] at hb <;> first | exact hb.elim | trivial | skip
    obtain ⟨ne,tt,xs,⟨n1,e1⟩,⟨n2,e2⟩,hi⟩:=hb
    refine ⟨ne,tt,xs,⟨n1,hx _ _ (fun z=>?_) e1⟩,⟨n2,hx _ _ (fun z=>?_) e2⟩,hi⟩
    · rw [z] at e1; cases ssm hP0 e1
    · rw [z] at e2; cases ssm hP0 e2
  · have hb:=t.g.rd
    cases q:lc.rd <;> cases q2:σ.rd <;> rw [q,q2] at hb <;> first | exact hb.elim | trivial | skip
    refine Xaeeaa (hb) fun e1 es n e2 r=>?_
    refine ⟨hx _ _ (fun z=>?_) e1,es,n,hx _ _ (fun z=>?_) e2,r⟩
    · rw [z] at e1; cases ssm hP0 e1
    · rw [z] at e2; cases ssm hP0 e2

theorem lam_make {c P:Addr} {params:Arguments} {body:Expr} {scope:Scope} {pos:Pos} {cl:List (Str × Addr)} {Q:Value→Shared→Prop} {E:Value→Shared→Prop} (ok:COK C G NM) (tb:TabOK C) (t:St C X lc ρ ow ol σ s) (hq:(c,P) ∈ C.tabs) (hcode:X.env.code=.ref c) (hlq:C.lq c=X.env.qual++"<lambda>")
    (hcl:closureFor scope X.env=pure cl) (hdef:defaultsOf params X.env=([],[]))
    (K:∀ f cv ctv pm s',Ext C X lc lc ρ ow ol σ s s'→s.heap.get? f=none→s'.heap.get? f=some { cls:=.type "function",data:=.func (kla_fn "<lambda>" (X.env.qual++"<lambda>") params body scope cl pm cv ctv) }→CodeQ s'.heap cv (X.env.qual++"<lambda>")→Q (.ref f) s') :
    wpAny C.M A (eval (.Lambda params body scope pos) X.env) Q E s:=by
  refine Xeaaa (t.g.tab _ hq) fun ps hP ht hc=>?_
  have hP:s.heap.get? P=some (tabObj ps):=hP
  have hC:=(tb.hd _ hq).keeps t.g.base
  have hC:CodeHd s.heap c P:=hC
  have hg:s.heap.Ns mainGlobals C.mg:=ok.gl.at' fun o e=>t.g.base _ _ e
  have hgP:mainGlobals ≠ P:=fun q=>by
    refine Xeeeaaa (hg) fun o es ep e hd _=>?_
    rw [q] at e; cases ssm hP e; cases hd
  refine Xeeaaaaaaa (tb.bl) fun bm ob b1 b2 b3 b4 b5 b6 b7=>?_
  have b4':=t.g.base _ _ b4
  have hbP:bm ≠ P:=fun q=>by rw [q] at b4'; cases ssm hP b4'; cases b5
  refine kla_eval hdef ?_
  rw [makeFunction_eq]
  simp only [List.zip_nil_right,List.filterMap_nil,List.isEmpty_nil,if_true,pure_bind]
  unfold makeTail
  rw [hcl,t.f.globals]
  refine wpAny_bind (wpAny_pure ?_)
  -- the closure's own tuple
  have go:∀ (ctv:Value) (h0:Heap) (tk0:Nat),(∀ b o,s.heap.get? b=some o→h0.get? b=some o)→wpAny C.M A (do
      let cd ← functionCode X.env pos pos.line "<lambda>" (X.env.qual++"<lambda>") params scope (.expr body)
      let bl ← builtinsFor mainGlobals X.env.builtins
      let nm ← nsGet mainGlobals "__name__"
      newObj (.type "function") (.func { name:="<lambda>",qualname:=X.env.qual++"<lambda>",params,body:=.expr body,scope,globals:=mainGlobals,closure:=cl,closureTuple:=ctv,code:=cd,builtins:=bl,defaults:=.none,kwdefaults:=.none,annotations:=none,pyModule:=nm.getD .none,doc:=.none })) Q E { s with heap:=h0,toks:=tk0 }:=by
    intro ctv h0 tk0 k0
    have hP0:=k0 _ _ hP
    have hC0:=hC.keeps k0
    have hg0:h0.Ns mainGlobals C.mg:=hg.at' fun o e=>k0 _ _ e
    cases ha:codeAmong pos ps.toList with
    | some cv =>
      refine wpAny_bind (wpAny_functionCode_hit hcode (hC0.code hP0 ht) ha ?_)
      refine wpAny_bind (wpAny_builtinsFor hg0 b1 b2 (k0 _ _ b4') b5 b6 b7 ?_)
      refine wpAny_bind (wpAny_nsGet hg0 ?_)
      refine wpAny_newObj_type ?_ (by size_fits)
      have kp:∀ (o:Obj) b o',s.heap.get? b=some o'→(h0.push o).get? b=some o':=fun o b o' e=>Heap.get?_push_of_some _ (k0 _ _ e)
      refine K h0.objs.size cv ctv _ { s with heap:=h0.push _,toks:=tk0 } (Ext.all t fun b o e=>kp _ b o e) ?_ (Heap.get?_push_size _ rfl) ?_
      · exact old_none (fun b o e=>⟨o,k0 b o e⟩) (none_at_end h0)
      · refine Xeeeeaaaaa (hc pos cv ha) fun b ob' vs tt e1 e2 e3 e4 e5=>?_
        exact ⟨b,ob',vs,tt,e1,kp _ _ _ e2,e3,e4,by rw [e5]; simp only [hlq]⟩
    | none =>
      refine wpAny_bind (wpAny_functionCodeX hcode (hC0.code hP0 ht) (hC0.tab hP0) ha fun c' h₁ tk₁ hx hge hlt _ hrec htb hnew=>?_)
      have hgx:=hg0.extBut hx hgP
      refine wpAny_bind (wpAny_builtinsFor hgx b1 b2 (hx _ _ hbP (k0 _ _ b4')) b5 b6 b7 ?_)
      refine wpAny_bind (wpAny_nsGet hgx ?_)
      refine wpAny_newObj_type ?_ (by size_fits)
      have hxx:∀ (o:Obj),Heap.ExtBut P s.heap (h₁.push o):=fun o b o' hb e=>Heap.get?_push_of_some _ (hx b o' hb (k0 _ _ e))
      have hcq:∀ (o:Obj),CodeQ (h₁.push o) (.ref c') (X.env.qual++"<lambda>"):=fun o=>by
        refine Xeeeeaaaa (hrec) fun b ob' vs tt e1 e2 e3 e4=>?_
        cases e1
        obtain ⟨P',_,_,⟨⟨oc,vc,g1,g2,g3,_⟩,_⟩⟩:=hnew
        cases ssm e2 g1
        exact ⟨c',ob',vs,tt,rfl,Heap.get?_push_of_some _ e2,g2,e3,e4⟩
      have hl:(ps++#[rawInt pos.line,rawInt pos.col,Value.ref c']).toList=ps.toList++[rawInt pos.line,rawInt pos.col,.ref c']:=by simp
      refine K h₁.objs.size (.ref c') ctv _ { s with heap:=h₁.push _,toks:=tk₁ } (grel_tab (ps':=ps++#[rawInt pos.line,rawInt pos.col,.ref c']) tb t hq (hxx _) (Heap.get?_push_of_some _ htb.2) (by rw [hl]; exact TriplesOk_snoc _ _ _ _ ht) ?_) ?_ (Heap.get?_push_size _ rfl) (hcq _)
      · intro p cv e
        rw [hl] at e
        rcases among_snoc _ ht e with e | rfl
        · refine Xeeeeaaaaa (hc p cv e) fun b ob' vs tt e1 e2 e3 e4 e5=>?_
          refine ⟨b,ob',vs,tt,e1,hxx _ _ _ (fun q=>?_) e2,e3,e4,e5⟩
          rw [q] at e2; cases ssm hP e2; simp at e3
        · refine Xeeeeaaaaa (hcq { cls:=.type "function",data:=.func { name:="<lambda>",qualname:=X.env.qual++"<lambda>",params,body:=.expr body,scope,globals:=mainGlobals,closure:=cl,closureTuple:=ctv,code:=.ref c',builtins:=builtinsNs,defaults:=.none,kwdefaults:=.none,annotations:=none,pyModule:=(C.mg "__name__").getD .none,doc:=.none } }) fun b ob' vs tt e1 e2 e3 e4 e5=>?_
          exact ⟨b,ob',vs,tt,e1,e2,e3,e4,by rw [e5]; simp only [hlq]⟩
      · have hn:=none_at_end h₁
        cases q:s.heap.get? h₁.objs.size with
        | none=>rfl
        | some o =>
          by_cases z:h₁.objs.size=P
          · have:=htb.2; rw [← z] at this; exact nsm hn this
          · have:=hx _ _ z (k0 _ _ q); exact nsm hn this
  cases cl with
  | nil =>
    simp only [List.isEmpty_nil,if_true]
    exact wpAny_bind (wpAny_pure (go .none s.heap s.toks fun _ _ e=>e))
  | cons q r =>
    simp only [List.isEmpty_cons,Bool.false_eq_true,if_false]
    exact wpAny_bind (wpAny_newTextTuple (go _ _ _ fun b o e=>Heap.get?_push_of_some _ e))
end
structure LamSp (sp:Sp) (scope:Scope) (sl':List (Option (Str × NameKind))):Prop where
  kind:scope.kind=.function
  co:scope.isCoroutine=false
  gen:scope.isGenerator=false
  nocell:∀ x ∈ scope.names,x.2 ≠ .cell
  free:∀ x ∈ scope.names,x.2=.free→x.1 ∈ sp.cn
  sl:∀ (k:Nat) x kd,sl'[k]?=some (some (x,kd))→kd=.free∧scope.names.lookup x=some .free∧sp.sl[k]?=some (some (x,.cell))∧(x,NameKind.free) ∈ scope.names
  inj:∀ (k j:Nat) x kd kd',sl'[k]?=some (some (x,kd))→sl'[j]?=some (some (x,kd'))→k=j

noncomputable abbrev spL (sp:Sp) (scope:Scope) (sl':List (Option (Str × NameKind))) (cd:Value):Sp:=⟨scope,sl',[],cd,sp.qual++"<lambda>"++".<locals>."⟩

section
variable {C:Cst} {G:Nat→D} {NM:Names} {H:Hd} {n:Nat} {sp sp₁:Sp} {A:Around} {X X₁:Act} {lc₀ lc lc₁ lc' lc'':Loc} {ρ ρ' ρ₁:Ro} {ow ow' ow₁:Nat→Option Addr} {ol ol' ol'' ol₁:List Addr} {σ σ₁ σ':Store} {s₀ s₁ s s' s'':Shared} {F:FnSp} {env:Env}

theorem AOK.mono {m:Nat} (a:AOK C A X m) (h:n ≤ m):AOK C A X n:=⟨a.handled,a.frames,by have:=a.depth; lia,by have:=a.units; lia⟩
theorem HOK.mono {m:Nat} (h:HOK C H n) (k:n ≤ m):HOK C H m:=⟨fun f vs vals A X lc ρ ow ol σ s a t r=>h.call f vs vals A X lc ρ ow ol σ s (a.mono k) t r⟩

theorem lam_clos {scope:Scope} {sl':List (Option (Str × NameKind))} (hs:SpX X sp) (hl:LamSp sp scope sl') (t:St C X lc ρ ow ol σ s):∃ cl,closureFor scope X.env=pure cl∧∀ x,(x,NameKind.free) ∈ scope.names→cl.lookup x=X.env.cells.lookup x:=by
  have:∀ x ∈ scope.names,x.2=.free→∃ a,X.env.cells.lookup x.1=some a:=fun x hx q=>by
    have:=hl.free x hx q
    rw [← hs.cn] at this
    refine Xeaa (List.mem_map.mp this) fun q hq e=>?_
    exact ⟨q.2,by rw [← e]; exact (t.f.cellAt q hq).1⟩
  obtain ⟨cl,hcl⟩:=closL_some (lk:=fun x=>X.env.cells.lookup x) scope.names [] this
  refine ⟨cl,closureFor_eq hcl,fun x hx=>?_⟩
  obtain ⟨h1,h2⟩:=closL_lookup _ _ _ hcl fun n a q=>by cases q
  have:=h2 x (.inl hx)
  obtain ⟨a,e⟩:=Option.isSome_iff_exists.mp this
  rw [e,h1 _ _ e]

noncomputable def lAct (X₁:Act) (env:Env) (sl':List (Option (Str × NameKind))) (ol₁:List Addr):Act:={ env:=env,sl:=sl',hx:=X₁.M ol₁++X₁.hx,frs:=env :: X₁.frs,cells:=[] }

theorem lam_st {scope:Scope} {sl':List (Option (Str × NameKind))} {env:Env} {L₁:Addr} {h':Heap} {tk:Nat} (hs:SpX X sp) (hl:LamSp sp scope sl') (t:St C X lc ρ ow ol σ s) (t₁:St C X₁ lc ρ₁ ow₁ ol₁ σ s) (hM:X₁.M ol₁=[L₁]) (hL₁:∃ o,s.heap.get? L₁=some o∧isFrameObj o) (hhx:X₁.hx=X.M ol++X.hx)
    (hsc:env.scope=scope) (hg:env.globals=mainGlobals) (hb:env.builtins=builtinsNs) (hfr:env.frame=some env.locals) (hcl:∀ x,(x,NameKind.free) ∈ scope.names→env.cells.lookup x=X.env.cells.lookup x)
    (hL:s.heap.get? env.locals=none) (hLo:h'.get? env.locals=some { cls:=.type "frame",data:=.dict #[] }) (kp:∀ b o,s.heap.get? b=some o→h'.get? b=some o) :
    St C (lAct X₁ env sl' ol₁) lc ρ (fun _=>none) [] σ { s with heap:=h',toks:=tk }:=by
  have base:∀ a,s.heap.get? a=none→C.h₀.get? a=none:=fun a ha=>by
    cases q:C.h₀.get? a with
    | none=>rfl
    | some o=>have:=t.g.base _ o q; exact nsm ha this
  have hns:h'.Ns env.locals fun _=>none:=⟨_,#[],0,hLo,rfl,by intro e he; simp at he,fun x=>by simp [nsFind,findBy]⟩
  have hsub:Sub (fz s.heap (X.Z C lc ol)) (fz h' ((lAct X₁ env sl' ol₁).Z C lc [])):=fun b o e hd=>by
    obtain ⟨e1,hz⟩:=fz_get.mp e
    refine fz_get.mpr ⟨kp _ _ e1,fun q=>?_⟩
    have q:b ∈ (env.locals :: ([]++[]))++(lc.mu C++(X₁.M ol₁++X₁.hx)):=q
    rw [hM,hhx] at q
    simp only [List.append_nil,List.mem_append,List.mem_cons,List.not_mem_nil,or_false] at q
    unfold Act.Z at hz
    simp only [List.mem_append] at hz
    rcases q with q | q | q | q | q
    · rw [q] at e1; exact nsm hL e1
    · exact hz (.inr (.inl q))
    · refine Xeaa (hL₁) fun o' e' hf=>?_
      rw [q] at e1; cases ssm e' e1
      exact hd.nf hf
    · exact hz (.inl q)
    · exact hz (.inr (.inr q))
  have f:=t.f
  have own:∀ (k:Nat) x kd l,ρ.get k=some (.own l)→sl'[k]?=some (some (x,kd))→False:=fun k x kd l e1 e2=>by
    refine Xaaaa (hl.sl k x kd e2) fun zz1 h1 h2 h3=>?_; subst zz1
    have hX:X.sl[k]?=some (some (x,.cell)):=by rw [hs.sl]; exact h2
    have:=f.ownLoc k l x .cell e1 hX
    cases this
  refine ⟨t.g.keepAll kp,{ kind:=by show env.scope.kind=_; rw [hsc]; exact hl.kind,globals:=hg,builtins:=hb,frame:=⟨env,X₁.frs,rfl,rfl⟩,slots:=fun k x kd e=>?_,ns:=⟨_,hns,fun k v x kd e1 e2=>?_⟩,cells:=.inl rfl,cellAt:=fun q hq=>(by cases hq),cellInj:=fun q hq=>(by cases hq),slInj:=hl.inj,ownLoc:=fun k l x kd e1 e2=>(own k x kd l e1 e2).elim,ownIn:=fun k a e=>(by cases e),ownInj:=fun k j a e=>(by cases e),ownNew:=fun a ha=>(by cases ha),locNew:=base _ hL,locMut:=Loc.mu_old t.g hL,hxOld:=fun a ha=>?_,hxNew:=fun a ha=>?_ },?_⟩
  · refine Xaaa (hl.sl k x kd e) fun zz1 h1 _=>?_; subst zz1
    show env.scope.names.lookup x=_
    rw [hsc]; exact h1
  · refine Xaaaa (hl.sl k x kd e2) fun zz1 h1 h2 h3=>?_; subst zz1
    refine Xeaa (f.ns) fun m hn' hr=>?_
    have hX:X.sl[k]?=some (some (x,.cell)):=by rw [hs.sl]; exact h2
    refine Xeaa (hr k v x .cell e1 hX) fun val g1 g2=>?_
    refine Xeeaaa (g1) fun c o c1 c2 c3=>?_
    refine ⟨val,⟨c,o,(hcl x h3).trans c1,kp _ _ c2,c3⟩,?_⟩
    have hno:locV (some v)=some v:=by
      cases v <;> first | rfl | exact (own k x .free _ e1 e2).elim
    exact (g2.noOwn hno).keep hsub (.refl ..) fun _ _ e=>by cases e
  · have:a ∈ X₁.Z C lc ol₁:=by
      rcases List.mem_append.mp ha with h | h
      · exact List.mem_append_left _ h
      · exact List.mem_append_right _ (List.mem_append_right _ h)
    obtain ⟨o,e⟩:=t₁.Z_old a this
    exact ⟨o,kp _ _ e⟩
  · refine t₁.Z_new a ?_
    rcases List.mem_append.mp ha with h | h
    · exact List.mem_append_left _ h
    · exact List.mem_append_right _ (List.mem_append_right _ h)
  · intro e he
    rcases List.mem_cons.mp he with rfl | he
    · exact ⟨by rw [hsc,hl.kind]; decide,_,_,hfr,hLo,rfl,base _ hL,_,_,rfl⟩
    · exact (t₁.fr.apart (M:=[]) (fun b o _=>kp b o) fun _ q=>by cases q) e he

theorem relD.outL {env:Env} {sl:List (Option (Str × NameKind))} {h:Heap} {d:D} {v:Value} (r:relD C (lAct X₁ env sl ol₁) ol' lc h d v):relD C X₁ ol₁ lc h d v:=RelD.mono (Sub.of_fz fun _ ha=>by
    unfold Act.Z at ha ⊢
    rcases List.mem_append.mp ha with h | h
    · exact List.mem_append_right _ (List.mem_append_right _ (List.mem_append_left _ h))
    · rcases List.mem_append.mp h with h | h
      · exact List.mem_append_right _ (List.mem_append_left _ h)
      · exact List.mem_append_right _ (List.mem_append_right _ (List.mem_append_right _ h))) r

theorem leave_lam {A':Around} {sl:List (Option (Str × NameKind))} {Q:Unit→Shared→Prop} {E:Value→Shared→Prop} {e:Addr} {k:List Nat} (t:St C X₁ lc ρ₁ ow₁ ol₁ σ s) (hA:A'.frames=some (env :: X₁.frs)) (hf:∀ a ∈ (lAct X₁ env sl ol₁).M [],s.heap.get? a=none) (g:GX C (lAct X₁ env sl ol₁) lc' σ' s') (x:IExt C lc lc' s s') (xa:ExcAt C s.heap s'.heap e k)
    (K:∀ s'',Ext C X₁ lc lc' ρ₁ ow₁ ol₁ σ' s s''→ExcAt C s.heap s''.heap e k→Q () s''):wpAny C.M A' (leaving env (.ref e)) Q E s':=by
  have fx:XFr C A' (lAct X₁ env sl ol₁) s.heap s':=⟨g.fr,hA,⟨env,X₁.frs,rfl,rfl⟩,x.old⟩
  refine wpAny_bind (note_ok fx xa fun h₁ x₁ c₁=>?_)
  refine flight_ok (fx.turn x₁) c₁ fun h₂ x₂ c₂=>?_
  have hx:HExt C (lAct X₁ env sl ol₁) lc lc' [] s s':=⟨x.keep.mono fun a ha=>List.mem_append_right _ ha,x.grow,x.old⟩
  obtain ⟨g₂,y₂⟩:=GX.xturn g hx (fun b o e=>⟨o,t.g.base b o e⟩) (fun q hq=>let ⟨_,e,_⟩:=t.g.tab q hq; ⟨_,e⟩) (x₁.trans x₂)
  have y:=IExt.of (X':=lAct X₁ env sl ol₁) (s₁:=s) (fun _ _ e=>e) hf y₂
  exact K _ (y.ext t g₂.g) c₂.at

theorem call_lam {scope:Scope} {sl':List (Option (Str × NameKind))} {f L₁:Addr} {params:Arguments} {body:Expr} {cl:List (Str × Addr)} {pm cv ctv:Value} {e:Mine.E} (hs:SpX X sp) (hl:LamSp sp scope sl') (lim:C.h₀.NoLimit) (hcl:∀ x,(x,NameKind.free) ∈ scope.names→cl.lookup x=X.env.cells.lookup x)
    (hbd:bindArgs (kla_fn "<lambda>" (sp.qual++"<lambda>") params body scope cl pm cv ctv) ⟨[],[]⟩=pure []) (hb:EvOK C G H n (spL sp scope sl' cv) body e) (t:St C X lc ρ ow ol σ s) (t₁:St C X₁ lc ρ₁ ow₁ ol₁ σ s) (hM:X₁.M ol₁=[L₁]) (hL₁:∃ o,s.heap.get? L₁=some o∧isFrameObj o) (hhx:X₁.hx=X.M ol++X.hx)
    (ha:AOK C A X₁ (n + 1)) (ho:s.heap.get? f=some { cls:=.type "function",data:=.func (kla_fn "<lambda>" (sp.qual++"<lambda>") params body scope cl pm cv ctv) }) (hcd:CodeQ s.heap cv (sp.qual++"<lambda>")) :
    Den C A X₁ (relD C X₁ ol₁) lc ρ₁ ow₁ ol₁ s (toD (evE G H e ρ σ)) (call (.ref f) []):=fun Q E K=>by
  refine wpAny_call (kla_callFunE (body:=body) (by have:=ha.depth; lia) ho rfl hl.co hl.gen rfl hcd.rec' ?_)
  rw [hbd]
  refine wpAny_pure ?_
  show wpAny _ _ (newFunctionEnv scope mainGlobals cl [] (sp.qual++"<lambda>"++".<locals>.") (some f) cv none builtinsNs) _ _ s
  simp only [newFunctionEnv,Option.isSome_none,Bool.false_eq_true,if_false]
  refine wpAny_bind (wpAny_alloc ?_)
  rw [forIn_yield_id cl (fun x hx c=>by
    obtain ⟨name,kind⟩:=x
    have:(kind == NameKind.cell)=false:=by simpa using hl.nocell _ hx
    simp only [this,Bool.false_eq_true,if_false])]
  refine wpAny_bind (wpAny_pure (wpAny_bind ?_))
  rw [List.forIn_nil]
  refine wpAny_pure (wpAny_pure ?_)
  dsimp only
  have hLn:=none_at_end s.heap
  have hLo:=Heap.get?_push_size s.heap (o:={ cls:=.type "frame",data:=.dict #[] }) rfl
  have kp:∀ b o,s.heap.get? b=some o→(s.heap.push { cls:=.type "frame",data:=.dict #[] }).get? b=some o:=fun _ _ e=>Heap.get?_push_of_some _ e
  have t₂:=lam_st (tk:=s.toks) (env:={ scope:=scope,locals:=s.heap.objs.size,globals:=mainGlobals,cells:=cl,qual:=sp.qual++"<lambda>"++".<locals>.",func:=some f,code:=cv,frame:=some s.heap.objs.size,builtins:=builtinsNs }) hs hl t t₁ hM hL₁ hhx rfl rfl rfl rfl hcl hLn hLo kp
  have fr:∀ a ∈ (lAct X₁ { scope:=scope,locals:=s.heap.objs.size,globals:=mainGlobals,cells:=cl,qual:=sp.qual++"<lambda>"++".<locals>.",func:=some f,code:=cv,frame:=some s.heap.objs.size,builtins:=builtinsNs } sl' ol₁).M [],s.heap.get? a=none:=fun a ha=>by
    have ha:a ∈ s.heap.objs.size :: ([]++[]):=ha
    rw [List.append_nil,List.mem_singleton] at ha
    rw [ha]; exact hLn
  refine ⟨lim.keeps t₂.g.base,kla_codeExpr ?_⟩
  generalize hE:({ scope:=scope,locals:=s.heap.objs.size,globals:=mainGlobals,cells:=cl,qual:=sp.qual++"<lambda>"++".<locals>.",func:=some f,code:=cv,frame:=some s.heap.objs.size,builtins:=builtinsNs }:Env)=env2 at *
  have hE1:env2.scope=scope:=by rw [← hE]
  have hE2:env2.code=cv:=by rw [← hE]
  have hE3:env2.qual=sp.qual++"<lambda>"++".<locals>.":=by rw [← hE]
  have hA:AOK C (A.deeper env2) (lAct X₁ env2 sl' ol₁) n:=⟨ha.handled,Around.frames_deeper ha.frames,by have:=ha.depth; show A.depth + 1 + _ + _ ≤ _; lia,by have:=ha.units; show A.units + 3 + _ + _ ≤ _; lia⟩
  have x0:IExt C lc lc s { s with heap:=s.heap.push { cls:=.type "frame",data:=.dict #[] },toks:=s.toks }:=⟨.all kp,.refl ..,fun b o e=>⟨o,kp b o e⟩⟩
  refine (hb (A.deeper env2) (lAct X₁ env2 sl' ol₁) lc ρ _ [] σ _ ⟨hE1,rfl,rfl,hE2,hE3⟩ hA t₂).toD _ _ ⟨K.nb,fun d σ' lc' s' v q xt r=>?_,fun k tt σ' lc' s' e' q xt xa=>?_⟩
  · exact K.ok d σ' lc' s' v q ((x0.body fr (xt.sext t₂).toHExt).ext t₁ xt.st.g) r.outL
  · refine leave_lam t₁ hA.frames fr ⟨xt.st.g,xt.st.fr⟩ (x0.body fr (xt.sext t₂).toHExt) (xa.back' x0.old) fun s'' y xa'=>?_
    exact K.ex k tt σ' lc' s'' e' q y xa'
end
structure JFGet (C:Cst):Prop where
  ga:findIn C.K (.ref C.JF) "__getattribute__"=some (some (.builtin "BaseException.__getattribute__"))
  gt:findIn C.K (.ref C.JF) "__getattr__"=some none
  sub:mroIn C.K C.JF (.type "BaseException")=some true
  hd:(clsIn C.K C.JF).any (·.hasDict)=true

section
variable {C:Cst} {G:Nat→D} {NM:Names} {H:Hd} {n:Nat} {sp sp₁:Sp} {A:Around} {X X₁:Act} {lc₀ lc lc₁ lc' lc'':Loc} {ρ ρ' ρ₁:Ro} {ow ow' ow₁:Nat→Option Addr} {ol ol' ol'' ol₁:List Addr} {σ σ₁ σ':Store} {s₀ s₁ s s' s'':Shared} {F:FnSp} {env:Env}

theorem XTurn.ns {frs:List Env} {h0 h h':Heap} {L:Addr} {m:Str→Option Value} (x:XTurn frs h0 h h') (n:h.Ns L m):h'.Ns L m:=by
  refine Xeeeaaa (n) fun o es ep e d r=>?_
  obtain ⟨sl,e'⟩:=x.keep L o e fun vs q=>by rw [d] at q; cases q
  exact ⟨_,es,ep,e',d,r⟩

theorem heard_handler {e:Addr} {k:List Nat} {p1 p2 p3 p4 p5 p6:Pos} {Q:Flow→Shared→Prop} {E:Value→Shared→Prop} (ok:COK C G NM) (jf:JFOK C NM) (jg:JFGet C) (hA:A.frames=some X₁.frs) (hJ:X₁.env.kindOf "JSFail"=some .globalImplicit) (hW:X₁.env.kindOf "wrong"=some .local) (hFo:X₁.env.kindOf "found"=some .local)
    (hM:X₁.M []=[X₁.env.locals]) (t:St C X₁ lc ρ₁ ow₁ [] σ s) (xt:Ext C X₁ lc lc' ρ₁ ow₁ [] σ' s s') (xa:ExcAt C s.heap s'.heap e k)
    (K:∀ s'' m tk,HExt C X₁ lc lc' [] s s''→GRel C lc' σ' s''→s''.heap.Ns X₁.env.locals m→m "found"=some (.str (mkS k) tk)→Q .next s'') :
    wpAny C.M A (noteFrame (.ref e) X₁.env) (fun _ s₂=>wpAny C.M A (setFlight (.ref e) none) (fun _ s₃=>wpAny C.M A (handleBy (.ref e) X₁.env [.ExceptHandler (some (.Name "JSFail" p1)) (some "wrong") [.Assign [.Name "found" p2] (.Attribute (.Name "wrong" p3) "kind" p4) p5] p6]) Q E s₃) E s₂) E s':=by
  have f:=t.f
  have hp:(X₁.env.scope.kind == .class || (X₁.env.scope.kind == .module && X₁.env.locals != X₁.env.globals))=false:=by rw [f.kind]; rfl
  have fx:XFr C A X₁ s.heap s':=⟨xt.st.fr,hA,f.frame,xt.old t⟩
  refine note_ok fx xa fun h₁ x₁ c₁=>flight_ok (fx.turn x₁) c₁ fun h₂ x₂ c₂=>?_
  have hx:=(xt.sext t).toHExt
  have gx:=GX.xturn (σ':=σ') ⟨xt.st.g,xt.st.fr⟩ hx (fun b o e=>⟨o,t.g.base b o e⟩) (fun q hq=>let ⟨_,e,_⟩:=t.g.tab q hq; ⟨_,e⟩) (x₁.trans x₂)
  have hb₂:=gx.1.g.base
  obtain ⟨nm,q,N,bs,sn,sub,ab,col,dd,k0,k1,k2,k3,k5,hC,-⟩:=jf.cls
  refine wpAny_handleBy_cons (codeAny_handlers_test (wpAny_Name ?_ (by decide))) (by intro q; cases q)
  rw [loadName_read f.kind hJ]
  refine Calls.loadGlobal_global (by rw [f.globals]; exact ok.gl.at' fun o e=>hb₂ _ _ e) jf.mg ?_
  refine Xaeeeeeeeaaaaaaaaa (id c₂) fun _ oe2 vs2 d2 od2 es2 n2 tk2 g1 g2 g3 g4 g5 g6 g7 g8 _=>?_
  refine wpAny_excMatches_sub_self (hb₂ _ _ hC) g1 g2 (by decide) ?_
  simp only [if_true]
  refine codeAny_handlers_suite_as ?_
  have fx3:XFr C (A.mark (some (.ref e))) X₁ s.heap { s' with heap:=h₂ }:=by
    have:=(fx.turn x₁).turn x₂
    exact ⟨this.fr,hA,this.hd,this.old⟩
  refine flight_ok fx3 c₂ fun h₃ x₃ c₃=>?_
  have gx3:=GX.xturn (σ':=σ') ⟨xt.st.g,xt.st.fr⟩ hx (fun b o e=>⟨o,t.g.base b o e⟩) (fun q hq=>let ⟨_,e,_⟩:=t.g.tab q hq; ⟨_,e⟩) ((x₁.trans x₂).trans x₃)
  refine Xeaa (xt.st.f.ns) fun m hn _=>?_
  have hn3:=((x₁.trans x₂).trans x₃).ns hn
  refine Xeeeaa (locals_obj t) fun oL esL epL hoL hdL=>?_
  refine Xaeeeeeeeaaaaaaaaa (id c₃) fun he0 oe vs d od es n tk a1 a2 a3 a4 a5 a6 a7 a8 _=>?_
  have hne:e ≠ X₁.env.locals:=fun z=>by rw [z] at he0; exact nsm he0 hoL
  have hnd:d ≠ X₁.env.locals:=fun z=>by rw [z] at a5; exact nsm a5 hoL
  refine Xeeeaaa (id hn3) fun oL3 _ _ hoL3 hdL3 _=>?_
  have nsx:∀ {sa sb:Shared} {oa ob:Obj},GRel C lc' σ' sa→HExt C X₁ lc lc' [] s sa→Heap.SameBut X₁.env.locals sa.heap sb.heap→sa.heap.get? X₁.env.locals=some oa→(∃ es ep,oa.data=.dict es ep)→sb.heap.get? X₁.env.locals=some ob→sb.gens=sa.gens→sb.drawn=sa.drawn→sb.os=sa.os→GRel C lc' σ' sb∧HExt C X₁ lc lc' [] s sb:=by
    intro sa sb oa ob ga xa' hsb ea da eb q1 q2 q3
    refine ⟨ga.apart (M:=[X₁.env.locals]) (fun b o hb e=>hsb.extBut b o (fun q=>hb (by simp [q])) e) (fun a ha=>?_) q1 q2 q3,⟨fun b o hb e=>?_,xa'.grow,fun b o e=>?_⟩⟩
    · rw [List.mem_singleton.mp ha]
      refine Xeea (da) fun es' ep' da=>?_
      exact ⟨xt.st.f.locMut,f.locNew,fun o e=>by cases ssm ea e; exact ⟨fun c d q=>by (rw [q] at da; cases da),fun q=>by obtain ⟨_,_,q⟩:=q; rw [da] at q; cases q⟩⟩
    · refine Xeaa (xa'.keep b o hb e) fun o' e' z=>?_
      exact ⟨o',hsb.extBut _ _ (fun q=>hb (by rw [hM,q]; simp)) e',z⟩
    · refine Xea (xa'.old b o e) fun o' e'=>?_
      by_cases q:b=X₁.env.locals
      · subst q; exact ⟨_,eb⟩
      · exact ⟨o',hsb.extBut _ _ q e'⟩
  refine wpAny_storeName_local hW hn3 (fun h₄ hn4 hs4=>?_) hp
  have e4:=hs4.extBut _ _ hne a1
  have d4:=hs4.extBut _ _ hnd a6
  subst a7
  refine Xeeeaaa (id hn4) fun oL4 es4 ep4 hoL4 hdL4 _=>?_
  refine Xaa (nsx (sb:={ s' with heap:=h₄,toks:=s'.toks + 1 }) gx3.1.g gx3.2 hs4 hoL3 ⟨_,_,hdL3⟩ hoL4 rfl rfl rfl) fun gr4 hx4=>?_
  rw [arm_execs_cons]
  refine wpAny_bind (wpAny_Assign_Name ?_ (swaps_plain (by rfl) _ _ _))
  rw [arm_eval_Attribute,base_eq (by rfl)]
  refine wpAny_bind (wpAny_Name (wpAny_loadName_local f.kind hW hn4 (v:=.ref e) (by simp) ?_) (by decide))
  refine wpAny_bind (wpAny_standAt ?_)
  refine wpAny_bind (wpAny_holding (get_exc (v:=.str (mkS k) tk) (ok.kin.keeps gr4.base) (ox:=oe) (cl:=C.JF) (od:=some (PySem.W.dictOf es n)) ?_ jg.ga jg.gt jg.sub ?_ (by rfl) ?_))
  · exact ⟨e4,a2,(by unfold notCls; rw [a4]),by rw [a3]; exact d4⟩
  · refine Xeaa (any_some jg.hd) fun cd hcd hdict=>?_
    unfold findObj
    rw [hcd,Option.bind_some,jf.kind,Option.bind_some]
    simp only [Option.bind_some,PySem.W.ownOf,hdict,if_true]
    rw [lookIn_dict,a8]
    rfl
  · refine wpAny_bind (wpAny_letTemporaryGo (wpAny_pure ?_))
    refine wpAny_storeName_local hFo hn4 (fun h₅ hn5 hs5=>?_) hp
    refine Xeeeaaa (id hn5) fun oL5 es5 ep5 hoL5 hdL5 _=>?_
    refine Xaa (nsx (sb:={ s' with heap:=h₅,toks:=s'.toks + 3 }) gr4 hx4 hs5 hoL4 ⟨_,_,hdL4⟩ hoL5 rfl rfl rfl) fun gr5 hx5=>?_
    rw [arm_execs_nil]
    refine wpAny_pure ?_
    refine wpAny_nameGoes_keeps hW hn5 hp fun h₆ v hn6 hs6=>?_
    refine Xeeeaaa (id hn6) fun oL6 es6 ep6 hoL6 hdL6 _=>?_
    refine Xaa (nsx (sb:={ s' with heap:=h₆,toks:=s'.toks + 4 }) gr5 hx5 hs6 hoL5 ⟨_,_,hdL5⟩ hoL6 rfl rfl rfl) fun gr6 hx6=>?_
    refine K _ _ tk hx6 gr6 hn6 ?_
    rw [if_neg (by decide +kernel),if_pos rfl]
end
structure HeardSp (F:FnSp):Prop where
  ok:F.OK
  ps:F.ps=[("work":Str)]
  sl:F.sl=[some (("work":Str),.local),some (("found":Str),.local),some (("wrong":Str),.local)]
  nocell:cellNs F.scope.names=[]
  jf:F.scope.names.lookup ("JSFail":Str)=some .globalImplicit
  body:∃ a1 a2 a3 b1 b2 b3 b4 p1 p2 p3 p4 p5 p6 c1 d1 d2 kk,F.body=[.Assign [.Name "found" a1] (.Constant .none kk a2) a3,
    .Try [.Assign [.Name "found" b1] (.Call (.Name "work" b2) [] [] b3) b4] [.ExceptHandler (some (.Name "JSFail" p1)) (some "wrong") [.Assign [.Name "found" p2] (.Attribute (.Name "wrong" p3) "kind" p4) p5] p6] [] [] c1,
    .Return (some (.Name "found" d1)) d2]

section
variable {C:Cst} {G:Nat→D} {NM:Names} {H:Hd} {n:Nat} {sp sp₁:Sp} {A:Around} {X X₁:Act} {lc₀ lc lc₁ lc' lc'':Loc} {ρ ρ' ρ₁:Ro} {ow ow' ow₁:Nat→Option Addr} {ol ol' ol'' ol₁:List Addr} {σ σ₁ σ':Store} {s₀ s₁ s s' s'':Shared} {F:FnSp} {env:Env}

theorem IExt.keepObj {lc lc':Loc} {s s':Shared} (x:IExt C lc lc' s s') {b:Addr} {o:Obj} (hb:b ∉ lc.mu C) (e:s.heap.get? b=some o) (hf:¬ isFrameObj o):s'.heap.get? b=some o:=x.keep.get hb e hf
theorem IExt.codeQ {lc lc':Loc} {s s':Shared} (g:GRel C lc σ s) (x:IExt C lc lc' s s') {cv:Value} {q:Str} (c:CodeQ s.heap cv q):CodeQ s'.heap cv q:=c.at fun b o ho e=>x.keepObj (fun z=>by
  refine Xeaa (Loc.mu_code g b z) fun o' e' n=>?_
  cases ssm e e'; exact n ho.1) e (by unfold isFrameObj; rw [ho.1]; simp)

theorem heard_body {scope:Scope} {sl':List (Option (Str × NameKind))} {f:Addr} {params:Arguments} {body:Expr} {cl:List (Str × Addr)} {pm cv ctv:Value} {e:Mine.E} {Q:Flow→Shared→Prop} {E:Value→Shared→Prop} (ok:COK C G NM) (jf:JFOK C NM) (jg:JFGet C) (hF:HeardSp F)
    (hs:SpX X sp) (hl:LamSp sp scope sl') (hcl:∀ x,(x,NameKind.free) ∈ scope.names→cl.lookup x=X.env.cells.lookup x)
    (hbd:bindArgs (kla_fn "<lambda>" (sp.qual++"<lambda>") params body scope cl pm cv ctv) ⟨[],[]⟩=pure []) (hb:EvOK C G H n (spL sp scope sl' cv) body e) (t:St C X lc ρ ow ol σ s)
    (ho:s.heap.get? f=some { cls:=.type "function",data:=.func (kla_fn "<lambda>" (sp.qual++"<lambda>") params body scope cl pm cv ctv) }) (hfm:f ∉ lc.mu C) (hcd:CodeQ s.heap cv (sp.qual++"<lambda>"))
    (hs₁:SpX (fAct X env F.sl ol) F.sp) (ha:AOK C A (fAct X env F.sl ol) (n + 1)) (hfr:env.frame=some env.locals) (hM0:∀ a ∈ (fAct X env F.sl ol).M [],s.heap.get? a=none) (hcells:env.cells=[]) (t₁:St C (fAct X env F.sl ol) lc [some (.raw (.ref f)),none,none] ow₁ [] σ s₁) (x₁:IExt C lc lc s s₁)
    (nb:toD (evE G H e ρ σ) ≠ .bad)
    (K:∀ d σ' lc' s' v,heardR (toD (evE G H e ρ σ))=.ok (.d d) σ'→IExt C lc lc' s s'→GRel C lc' σ' s'→relD C (fAct X env F.sl ol) [] lc' s'.heap d v→Q (.ret v) s'):wpAny C.M A (execs F.body env) Q E s₁:=by
  obtain ⟨a1,a2,a3,b1,b2,b3,b4,p1,p2,p3,p4,p5,p6,c1,d1,d2,kk,hbody⟩:=hF.body
  have s0:F.sp.sl[0]?=some (some (("work":Str),.local)):=by show F.sl[0]?=_; rw [hF.sl]; rfl
  have s1:F.sp.sl[1]?=some (some (("found":Str),.local)):=by show F.sl[1]?=_; rw [hF.sl]; rfl
  have s2:F.sp.sl[2]?=some (some (("wrong":Str),.local)):=by show F.sl[2]?=_; rw [hF.sl]; rfl
  have hM:(fAct X env F.sl ol).M []=[env.locals]:=by show env.locals :: (env.cells.map (·.2)++[])=_; rw [hcells]; rfl
  have kof:∀ (k:Nat) x kd,F.sp.sl[k]?=some (some (x,kd))→env.kindOf x=some kd:=fun k x kd e=>t₁.f.slots k x kd e
  rw [hbody,arm_execs_cons]
  refine wpAny_bind (wpAny_Assign_Name (wpAny_Constant_none ?_) (swaps_plain (by rfl) _ _ _))
  refine store_ok hs₁ s1 (.inl rfl) t₁ (v:=.d .null) (o:=none) .null (fun _ e=>by cases e) fun s₂ t₂ x₂=>?_
  have y₂:IExt C lc lc s s₂:=x₁.body hM0 x₂.toHExt
  have tX:=(y₂.ext t t₂.g).st
  dsimp only
  rw [arm_execs_cons]
  have ret:∀ d σ' lc' s' m v,heardR (toD (evE G H e ρ σ))=.ok (.d d) σ'→IExt C lc lc' s s'→GRel C lc' σ' s'→s'.heap.Ns env.locals m→m ("found":Str)=some v→relD C (fAct X env F.sl ol) [] lc' s'.heap d v→wpAny C.M A (execs [.Return (some (.Name "found" d1)) d2] env) Q E s':=fun d σ' lc' s' m v q x g hn hm r=>by
    rw [arm_execs_cons]
    refine wpAny_bind (wpAny_Return_some (wpAny_Name (wpAny_loadName_local t₁.f.kind (kof 1 _ _ s1) hn hm ?_) (by decide)))
    exact wpAny_pure (K d σ' lc' s' v q x g r)
  refine wpAny_bind (wpAny_Try_except ?_)
  rw [arm_execs_cons]
  refine wpAny_bind (wpAny_Assign_Name ?_ (swaps_plain (by rfl) _ _ _))
  refine wpAny_Call_NameR (wpAny_Name (load_slot (by decide) hs₁ s0 t₂ (v:=.raw (.ref f)) (by rfl) fun val _ r=>?_) (by decide))
  have r:val=.ref f:=r
  subst r
  have ho₂:=y₂.keepObj hfm ho (by unfold isFrameObj; simp)
  refine Calls.callWith_function (o:={ cls:=.type "function",data:=.func (kla_fn "<lambda>" (sp.qual++"<lambda>") params body scope cl pm cv ctv) }) (fd:=kla_fn "<lambda>" (sp.qual++"<lambda>") params body scope cl pm cv ctv) (evalArgs_ok (by rfl) ?_)
  show wpAny _ _ (pure []) _ _ _
  refine wpAny_pure ⟨⟨ho₂,rfl⟩,?_⟩
  refine call_lam hs hl jf.lim hcl hbd hb tX t₂ hM ?_ rfl ha ho₂ (y₂.codeQ t.g hcd) _ _ ⟨nb,fun d σ' lc' s₃ v q xt r=>?_,fun k tt σ' lc' s₃ e' q xt xa=>?_⟩
  · refine Xeeaa (t₂.f.frame) fun e rest h1 h2=>?_
    obtain ⟨_,L,o,q1,q2,q3,_⟩:=t₂.fr e (by rw [h1]; exact .head _)
    rw [h2] at q1
    have:(fAct X env F.sl ol).env.frame=some env.locals:=hfr
    rw [this] at q1
    cases q1
    exact ⟨o,q2,q3⟩
  · refine store_ok hs₁ s1 (.inl rfl) xt.st (v:=.d d) (o:=none) r (fun _ e=>by cases e) fun s₄ t₄ x₄=>?_
    dsimp only
    rw [arm_execs_nil]
    refine wpAny_pure ?_
    dsimp only
    refine wpAny_pure ?_
    dsimp only
    refine Xeaa (t₄.f.ns) fun m hn hr=>?_
    refine Xeaa (hr 1 (.d d) "found" .local (by rfl) s1) fun val g1 g2=>?_
    exact ret d σ' lc' s₄ m val (by rw [q]; rfl) (y₂.body hM0 ((xt.sext t₂).trans x₄).toHExt) t₄.g hn g1 g2
  · refine heard_handler ok jf jg ha.frames ?_ (kof 2 _ _ s2) (kof 1 _ _ s1) hM t₂ xt xa fun s₄ m tk x₄ g₄ hn hm=>?_
    · show env.kindOf _=_
      unfold Env.kindOf
      have:env.scope=F.scope:=hs₁.scope
      rw [this]; exact hF.jf
    · exact ret (.str k) σ' lc' s₄ m _ (by rw [q]; rfl) (y₂.body hM0 x₄) g₄ hn hm (.str _ _)
end
section
variable {C:Cst} {G:Nat→D} {NM:Names} {H:Hd} {n:Nat} {sp sp₁:Sp} {A:Around} {X X₁:Act} {lc₀ lc lc₁ lc' lc'':Loc} {ρ ρ' ρ₁:Ro} {ow ow' ow₁:Nat→Option Addr} {ol ol' ol'' ol₁:List Addr} {σ σ₁ σ':Store} {s₀ s₁ s s' s'':Shared} {F:FnSp} {env:Env}

structure HeardAt (C:Cst) (fh:Addr) (F:FnSp):Prop where
  sp:HeardSp F
  at_:FnAt C fh F
  mg:C.mg "_law_heard"=some (.ref fh)
  kp:keepIn C.K (.ref fh)=true

theorem heard_ok (r:R D) (nb:heardR r ≠ .bad):r ≠ .bad∧∃ d σ',heardR r=.ok (.d d) σ':=by
  cases r with
  | ok d σ=>exact ⟨by simp,d,σ,rfl⟩
  | exc k t σ=>exact ⟨by simp,.str k,σ,rfl⟩
  | bad=>exact absurd rfl nb

theorem ev_heard {c P fh:Addr} {scope:Scope} {sl':List (Option (Str × NameKind))} {params:Arguments} {body:Expr} {lp p pos:Pos} {e:Mine.E} (ok:COK C G NM) (jf:JFOK C NM) (jg:JFGet C) (tb:TabOK C) (hh:HeardAt C fh F)
    (hk:sp.scope.names.lookup ("_law_heard":Str)=some .globalImplicit) (hq:(c,P) ∈ C.tabs) (hcode:sp.code=.ref c) (hlq:C.lq c=sp.qual++"<lambda>") (hl:LamSp sp scope sl') (hdef:∀ env,defaultsOf params env=([],[]))
    (hbd:∀ cl pm cv ctv,bindArgs (kla_fn "<lambda>" (sp.qual++"<lambda>") params body scope cl pm cv ctv) ⟨[],[]⟩=pure []) (hb:∀ cd,EvOK C G H n (spL sp scope sl' cd) body e) :
    EvOK C G H (n + 2) sp (.Call (.Name "_law_heard" p) [.Lambda params body scope lp] [] pos) (.heard e):=fun A X lc ρ ow ol σ s hs ha t Q E K=>by
  obtain ⟨hF,hf,hn,hkp⟩:=hh
  have K:Cont C X (relV C X ol) lc ρ ow ol s (heardR (toD (evE G H e ρ σ))) Q E:=K
  refine Xaa (heard_ok _ K.nb) fun nb _=>?_
  refine wpAny_Call_NameR (wpAny_Name (load_glob ok hs hk t hn ?_) (by decide))
  refine callWith_of (P:=C.K.In) (by rw [noStar_any (by rfl)]; rfl) (keeps_K hkp) (evalArgs_ok (by rfl) ?_)
  rw [starEach_cons (by rfl)]
  refine Xeaa (lam_clos hs hl t) fun cl hclo hcl=>?_
  refine Calls.spliced_cons (lam_make ok tb t hq (hs.code.trans hcode) (by rw [hs.qual]; exact hlq) hclo (hdef _) fun f cv ctv pm s₁ xt hfn ho hcd=>?_)
  show wpAny _ _ (pure []) _ _ _
  refine wpAny_pure ⟨ok.at xt.st.g,?_⟩
  rw [hs.qual] at ho hcd
  have t₁:=xt.st
  have hfm:f ∉ lc.mu C:=Loc.mu_old t.g hfn
  refine Xeeaaaaaaaaaaa (hf.obj) fun o fd ho' hd h1 h2 h3 h4 h5 h6 h8 h9 h7=>?_
  have ho'':=t₁.g.base _ _ ho'
  have hcd':s₁.heap.CodeRec fd.code fd.qualname:=by
    refine Xeeeeaaaa (h6) fun c oc vs tq e1 e2 e3 e4=>?_
    exact ⟨c,oc,vs,tq,e1,t₁.g.base _ _ e2,e3,e4⟩
  refine wpAny_call (codeAny_call_function (body:=F.body) (by have:=ha.depth; lia) ho'' hd (by rw [h1]; exact hF.ok.co) (by rw [h1]; exact hF.ok.gen) h2 hcd' ?_)
  show wpAny _ _ (bindArgs fd ⟨[.ref f],[]⟩) _ _ _
  rw [h7 [.ref f] (by rw [hF.ps]; rfl),h1,h3,h4,h5,h8,h9]
  refine wpAny_pure (enter_env hF.ok t₁ (vs:=[.raw (.ref f)]) (.cons rfl .nil) (by rw [hF.ps]; rfl) 2 fun env s₂ ow' e1 c1 c2 e2 e3 e4 t₂ x₂=>⟨hf.lim.keeps t₂.g.base,codeAny_func ?_⟩)
  have hcells:env.cells=[]:=by
    rw [hF.nocell] at e3
    exact List.map_eq_nil_iff.mp e3
  have hA:=AOK.deeper (env:=env) (sl:=F.sl) (ol:=ol) ha
  refine heard_body ok jf jg hF hs hl hcl (hbd cl pm cv ctv) (hb cv) t₁ ho hfm hcd ⟨e1,rfl,e3,c1,c2⟩ hA e2 e4 hcells t₂ x₂ nb fun d σ' lc' s₃ v q x g r=>?_
  exact K.ok (.d d) σ' lc' s₃ v q (xt.trans (x.ext t₁ g)) r.outF
end
structure Ck where
  NM:Names
  mN:Nat→Option Str
  cods:List (Addr × Str)
structure Sq where
  scope:Scope
  sl:List (Option (Str × NameKind))
  cn:List Str

noncomputable abbrev Sq.sp (q:Sq) (cd:Value) (ql:Str):Sp:=⟨q.scope,q.sl,q.cn,cd,ql⟩
noncomputable abbrev CQ:=Option (Addr × Str)

noncomputable def isGlob (q:Sq) (x:Str):Bool:=decide (q.scope.names.lookup x=some .globalImplicit)
noncomputable def slIs (q:Sq) (k:Nat) (x:Str) (kd:NameKind):Bool:=decide (q.sl[k]?=some (some (x,kd)))
noncomputable def slAny (q:Sq) (k:Nat) (x:Str):Bool:=slIs q k x .local || slIs q k x .cell || slIs q k x .free
noncomputable def ckSt (q:Sq) (k:Nat) (x:Str):Bool:=slIs q k x .local || (slIs q k x .cell && decide (x ∈ q.cn))

noncomputable def xD:Expr:=.Name ⟨#[]⟩ default
noncomputable def xV:Expr→Str × Nat × Scope × List (Option Expr) × List Expr
  | .Name x _=>(x,0,default,[],[])
  | .Constant _ k _=>(⟨#[]⟩,k,default,[],[])
  | .BoolOp _ as _ | .List as _=>(⟨#[]⟩,0,default,[],as)
  | .BinOp a _ b _ | .Subscript a b _=>(⟨#[]⟩,0,default,[],[a,b])
  | .UnaryOp _ a _=>(⟨#[]⟩,0,default,[],[a])
  | .Lambda _ b s _=>(⟨#[]⟩,0,s,[],[b])
  | .IfExp c a b _=>(⟨#[]⟩,0,default,[],[c,a,b])
  | .Dict ks vs _=>(⟨#[]⟩,0,default,ks,vs)
  | .ListComp e gs s _=>(⟨#[]⟩,0,s,[],e :: gs.flatMap fun g=>g.target :: g.iter :: g.ifs)
  | .Compare a _ bs _=>(⟨#[]⟩,0,default,[],a :: bs)
  | .Call f as _ _=>(⟨#[]⟩,0,default,[],f :: as)
  | .Attribute o x _=>(x,0,default,[],[o])
  | .Tuple as k _=>(⟨#[]⟩,k,default,[],as)
  | .Slice a b _ _=>(⟨#[]⟩,0,default,[],a.toList++b.toList)
  | _=>(⟨#[]⟩,0,default,[],[])
noncomputable def xNm (a:Expr):Str:=(xV a).1
noncomputable def xK (a:Expr):Nat:=(xV a).2.1
noncomputable def xScp (a:Expr):Scope:=(xV a).2.2.1
noncomputable def xKys (a:Expr):List (Option Expr):=(xV a).2.2.2.1
noncomputable def xKids (a:Expr):List Expr:=(xV a).2.2.2.2
noncomputable def xKid (a:Expr) (i:Nat):Expr:=(xKids a).getD i xD
noncomputable def isK:D→Bool
  | .null=>true
  | .bool _=>true
  | .int _=>true
  | .str _=>true
  | _=>false
noncomputable def cB:D→Const
  | .bool b=>.bool b
  | .int i=>.int i
  | .str s=>.str (mkS s)
  | _=>.none
noncomputable def bKs:List D→List (Option Expr)→List (Option Expr)
  | [],_=>[]
  | d :: ds,ks=>some (.Constant (cB d) (xK ((ks.headD none).getD xD)) ((ks.headD none).getD xD).pos) :: bKs ds ks.tail
noncomputable def tNs:List Nat→List Expr→List Expr
  | [],_=>[]
  | _ :: ks,l=>.Name (xNm (l.headD xD)) (l.headD xD).pos :: tNs ks l.tail
noncomputable def tB (ks:List Nat) (t:Expr):Expr:=match ks with
  | a :: b :: ks=>.Tuple (tNs (a :: b :: ks) (xKids t)) (xK t) t.pos
  | _=>.Name (xNm t) t.pos
noncomputable def cTgNs (q:Sq):List Nat→List Expr→Bool
  | [],_=>true
  | k :: ks,l=>ckSt q k (xNm (l.headD xD)) && cTgNs q ks l.tail
noncomputable def cTg (q:Sq) (ks:List Nat) (t:Expr):Bool:=match ks with
  | []=>false
  | [k]=>ckSt q k (xNm t)
  | a :: b :: ks=>cTgNs q (a :: b :: ks) (xKids t)
noncomputable def lenEs:Es→Nat
  | .nil=>0
  | .cons _ es=>lenEs es + 1
noncomputable def isI:E→Bool
  | .cst (.int _)=>true
  | _=>false
noncomputable def isCs:Es→Bool
  | .nil=>true
  | .cons e es=>isI e && isCs es
noncomputable def notSet (a:Expr):Bool:=a.ctorIdx != 7
noncomputable def tgN:List Nat→List Expr→List Str
  | [],_=>[]
  | _ :: ks,l=>xNm (l.headD xD) :: tgN ks l.tail
noncomputable def tgNames (ks:List Nat) (t:Expr):List Str:=match ks with
  | a :: b :: ks=>tgN (a :: b :: ks) (xKids t)
  | _=>[xNm t]
noncomputable def slC (q:Sq) (scope:Scope) (t:Expr) (ks:List Nat):List (Option (Str × NameKind)) :=
  (List.range (max q.sl.length (ks.foldl max 0 + 1))).map fun i=>match (ks.zip (tgNames ks t)).lookup i with
    | some x=>some (x,.local)
    | none=>(q.sl[i]?).join.bind fun p=>if p.2=.cell∧(p.1,NameKind.free) ∈ scope.names then some (p.1,.cell) else none
noncomputable def slL (q:Sq) (scope:Scope):List (Option (Str × NameKind)):=q.sl.map fun o=>o.bind fun p=>if p.2=.cell∧(p.1,NameKind.free) ∈ scope.names then some (p.1,.free) else none
noncomputable def allSl (sl:List (Option (Str × NameKind))) (f:Nat→Str→NameKind→Bool):Bool:=(List.range sl.length).all fun k=>(sl[k]?).join.all fun p=>f k p.1 p.2
noncomputable def ckInj (sl:List (Option (Str × NameKind))):Bool:=allSl sl fun k x _=>allSl sl fun j y _=>decide (x=y→k=j)
noncomputable abbrev sqC (q:Sq) (scope:Scope) (t:Expr) (ks:List Nat):Sq:=⟨relabS scope q.scope,slC q scope t ks,[]⟩
noncomputable abbrev sqL (q:Sq) (scope:Scope):Sq:=⟨scope,slL q scope,[]⟩
noncomputable def ckComp (q:Sq) (scope:Scope) (t:Expr) (ks:List Nat):Bool :=
  decide (scope.kind=.function) && (scope.names.all fun x=>decide (x.2 ≠ .cell)) && (scope.names.all fun x=>decide (x.2=.local→scope.names.lookup x.1=some .local)) &&
  (scope.names.all fun x=>decide (x.2=.free→x.1 ∈ q.cn)) &&
  (allSl (slC q scope t ks) fun k x kd=>decide ((relabS scope q.scope).names.lookup x=some kd) && (decide (k ∈ ks) || (decide (k ∉ ks) && decide (kd=.cell) && slIs q k x .cell && decide ((x,NameKind.free) ∈ scope.names)))) &&
  ckInj (slC q scope t ks) && cTg (sqC q scope t ks) ks t
noncomputable def ckLam (q:Sq) (scope:Scope):Bool :=
  decide (scope.kind=.function) && !scope.isCoroutine && !scope.isGenerator && (scope.names.all fun x=>decide (x.2 ≠ .cell)) && (scope.names.all fun x=>decide (x.2=.free→x.1 ∈ q.cn)) &&
  (allSl (slL q scope) fun k x kd=>decide (kd=.free) && decide (scope.names.lookup x=some .free) && slIs q k x .cell && decide ((x,NameKind.free) ∈ scope.names)) && ckInj (slL q scope)
noncomputable def ckCode (K:Ck) (h:CQ):Bool:=h.any fun p=>decide ((p.1,p.2++("<lambda>":Str)) ∈ K.cods)

mutual
noncomputable def bE:E→Expr→Expr
  | .loc _,a=>.Name (xNm a) a.pos
  | .cst d,a=>.Constant (cB d) (xK a) a.pos
  | .glob _,a=>.Name (xNm a) a.pos
  | .bin o e₁ e₂,a=>.BinOp (bE e₁ (xKid a 0)) (opP o) (bE e₂ (xKid a 1)) a.pos
  | .neg e,a=>.UnaryOp .USub (bE e (xKid a 0)) a.pos
  | .not e,a=>.UnaryOp .Not (bE e (xKid a 0)) a.pos
  | .bop isAnd es,a=>.BoolOp (if isAnd then .And else .Or) (bEs es (xKids a)) a.pos
  | .ite e₀ e₁ e₂,a=>.IfExp (bE e₀ (xKid a 0)) (bE e₁ (xKid a 1)) (bE e₂ (xKid a 2)) a.pos
  | .cmp o e₁ e₂,a=>.Compare (bE e₁ (xKid a 0)) [cmP o] [bE e₂ (xKid a 1)] a.pos
  | .chain o p e₁ e₂ e₃,a=>.Compare (bE e₁ (xKid a 0)) [cmP o,cmP p] [bE e₂ (xKid a 1),bE e₃ (xKid a 2)] a.pos
  | .attr e _,a=>.Attribute (bE e (xKid a 0)) (xNm a) a.pos
  | .sub e i,a=>.Subscript (bE e (xKid a 0)) (bE i (xKid a 1)) a.pos
  | .slc e lo hi,a=>.Subscript (bE e (xKid a 0)) (.Slice (some (bE lo (xKid (xKid a 1) 0))) (some (bE hi (xKid (xKid a 1) 1))) none (xKid a 1).pos) a.pos
  | .slcFrom e lo,a=>.Subscript (bE e (xKid a 0)) (.Slice (some (bE lo (xKid (xKid a 1) 0))) none none (xKid a 1).pos) a.pos
  | .slcTo e hi,a=>.Subscript (bE e (xKid a 0)) (.Slice none (some (bE hi (xKid (xKid a 1) 0))) none (xKid a 1).pos) a.pos
  | .tup es,a=>.Tuple (bEs es (xKids a)) (xK a) a.pos
  | .lst es,a=>.List (bEs es (xKids a)) a.pos
  | .dct ks es,a=>.Dict (bKs ks (xKys a)) (bEs es (xKids a)) a.pos
  | .call _ es,a=>.Call (.Name (xNm (xKid a 0)) (xKid a 0).pos) (bEs es (xKids a).tail) [] a.pos
  | .bi b es,a=>.Call (.Name (biN b) (xKid a 0).pos) (bEs es (xKids a).tail) [] a.pos
  | .meth _ e es,a=>.Call (.Attribute (bE e (xKid (xKid a 0) 0)) (xNm (xKid a 0)) (xKid a 0).pos) (bEs es (xKids a).tail) [] a.pos
  | .cnt e₁ e₂,a=>.Call (.Attribute (bE e₁ (xKid (xKid a 0) 0)) "count" (xKid a 0).pos) [bE e₂ (xKid a 1)] [] a.pos
  | .get e₁ e₂,a=>.Call (.Attribute (bE e₁ (xKid (xKid a 0) 0)) "get" (xKid a 0).pos) [bE e₂ (xKid a 1)] [] a.pos
  | .popBox e,a=>.Call (.Attribute (bE e (xKid (xKid a 0) 0)) "pop" (xKid a 0).pos) [.Constant (.int 0) (xK (xKid a 1)) (xKid a 1).pos] [] a.pos
  | .boxLen e,a=>.Call (.Name "len" (xKid a 0).pos) [bE e (xKid a 1)] [] a.pos
  | .comp e ks i es,a=>.ListComp (bE e (xKid a 0)) [⟨tB ks (xKid a 1),bIt i (xKid a 2),bEs es ((xKids a).drop 3),0⟩] (xScp a) a.pos
  | .oLen _,a=>.Call (.Name "len" (xKid a 0).pos) [.Name (xNm (xKid a 1)) (xKid a 1).pos] [] a.pos
  | .oIdx _ e,a=>.Subscript (.Name (xNm (xKid a 0)) (xKid a 0).pos) (bE e (xKid a 1)) a.pos
  | .oNe _,a=>.Compare (.Name (xNm (xKid a 0)) (xKid a 0).pos) [.NotEq] [.List [] (xKid a 1).pos] a.pos
  | .heard e,a=>.Call (.Name "_law_heard" (xKid a 0).pos) [.Lambda ⟨[],[],none,[],[],none,[]⟩ (bE e (xKid (xKid a 1) 0)) (xScp (xKid a 1)) (xKid a 1).pos] [] a.pos
  | .mkRd e,a=>.Call (.Name "PatternReader" (xKid a 0).pos) [bE e (xKid a 1)] [] a.pos
noncomputable def bEs:Es→List Expr→List Expr
  | .nil,_=>[]
  | .cons e es,l=>bE e (l.headD xD) :: bEs es l.tail
noncomputable def bIt:It→Expr→Expr
  | .val e,a=>bE e a
  | .range e,a=>.Call (.Name "range" (xKid a 0).pos) [bE e (xKid a 1)] [] a.pos
  | .zip e₁ e₂,a=>.Call (.Name "zip" (xKid a 0).pos) [bE e₁ (xKid a 1),bE e₂ (xKid a 2)] [] a.pos
end

mutual
noncomputable def cE (K:Ck):E→CQ→Sq→Expr→Bool
  | .loc k,_,q,a=>okName (xNm a) && slAny q k (xNm a)
  | .cst d,_,_,_=>isK d
  | .glob g,_,q,a=>okName (xNm a) && isGlob q (xNm a) && decide (K.NM.g g=some (xNm a))
  | .bin _ e₁ e₂,h,q,a=>cE K e₁ h q (xKid a 0) && cE K e₂ h q (xKid a 1)
  | .neg e,h,q,a=>cE K e h q (xKid a 0)
  | .not e,h,q,a=>cE K e h q (xKid a 0)
  | .bop _ es,h,q,a=>!(bEs es (xKids a)).isEmpty && cEs K es h q (xKids a)
  | .ite e₀ e₁ e₂,h,q,a=>cE K e₀ h q (xKid a 0) && cE K e₁ h q (xKid a 1) && cE K e₂ h q (xKid a 2)
  | .cmp o e₁ e₂,h,q,a=>unmarked (cmP o) (bE e₂ (xKid a 1)) && cE K e₁ h q (xKid a 0) && cE K e₂ h q (xKid a 1)
  | .chain _ p e₁ e₂ e₃,h,q,a=>unmarked (cmP p) (bE e₃ (xKid a 2)) && cE K e₁ h q (xKid a 0) && cE K e₂ h q (xKid a 1) && cE K e₃ h q (xKid a 2)
  | .attr e j,h,q,a=>baseOK (bE e (xKid a 0)) && decide (attrN[j]?=some (xNm a)) && cE K e h q (xKid a 0)
  | .sub e i,h,q,a=>notSlice (bE i (xKid a 1)) && cE K e h q (xKid a 0) && cE K i h q (xKid a 1)
  | .slc e lo hi,h,q,a=>cE K e h q (xKid a 0) && cE K lo h q (xKid (xKid a 1) 0) && cE K hi h q (xKid (xKid a 1) 1)
  | .slcFrom e lo,h,q,a=>cE K e h q (xKid a 0) && cE K lo h q (xKid (xKid a 1) 0)
  | .slcTo e hi,h,q,a=>cE K e h q (xKid a 0) && cE K hi h q (xKid (xKid a 1) 0)
  | .tup es,h,q,a=>cEs K es h q (xKids a)
  | .lst es,h,q,a=>cEs K es h q (xKids a)
  | .dct ks es,h,q,a=>decide (ks.length=lenEs es) && ks.all isK && ((decide (ks.length=32) && isCs es && (ks.mapM D.asInt).any fun is=>decide is.Nodup) || (!ks.isEmpty && decide (ks.length ≤ 15) && ((ks.mapM D.asInt).isSome || (ks.mapM D.asStr).isSome) && cEs K es h q (xKids a)))
  | .call f es,h,q,a=>okName (xNm (xKid a 0)) && isGlob q (xNm (xKid a 0)) && decide (K.NM.f f=some (xNm (xKid a 0))) && cEs K es h q (xKids a).tail
  | .bi b es,h,q,a=>isGlob q (biN b) && cEs K es h q (xKids a).tail
  | .meth f e es,h,q,a=>baseOK (bE e (xKid (xKid a 0) 0)) && decide ((xKid a 0).pos.endLine=a.pos.line) && decide ((bEs es (xKids a).tail).length < 20) && decide (K.mN f=some (xNm (xKid a 0))) && cE K e h q (xKid (xKid a 0) 0) && cEs K es h q (xKids a).tail
  | .cnt e₁ e₂,h,q,a=>baseOK (bE e₁ (xKid (xKid a 0) 0)) && decide ((xKid a 0).pos.endLine=a.pos.line) && notStar (bE e₂ (xKid a 1)) && cE K e₁ h q (xKid (xKid a 0) 0) && cE K e₂ h q (xKid a 1)
  | .get e₁ e₂,h,q,a=>baseOK (bE e₁ (xKid (xKid a 0) 0)) && decide ((xKid a 0).pos.endLine=a.pos.line) && notStar (bE e₂ (xKid a 1)) && cE K e₁ h q (xKid (xKid a 0) 0) && cE K e₂ h q (xKid a 1)
  | .popBox e,h,q,a=>baseOK (bE e (xKid (xKid a 0) 0)) && decide ((xKid a 0).pos.endLine=a.pos.line) && cE K e h q (xKid (xKid a 0) 0)
  | .boxLen e,h,q,a=>notStar (bE e (xKid a 1)) && isGlob q "len" && cE K e h q (xKid a 1)
  | .comp e ks i es,h,q,a=>notSet (bIt i (xKid a 2)) && ckComp q (xScp a) (xKid a 1) ks && decide (lenEs es ≤ 1) && cE K e h (sqC q (xScp a) (xKid a 1) ks) (xKid a 0) && cEs K es h (sqC q (xScp a) (xKid a 1) ks) ((xKids a).drop 3) && cIt K i h q ks (xKid a 2)
  | .oLen k,_,q,a=>okName (xNm (xKid a 1)) && slIs q k (xNm (xKid a 1)) .local && isGlob q "len"
  | .oIdx k e,h,q,a=>notSlice (bE e (xKid a 1)) && okName (xNm (xKid a 0)) && slIs q k (xNm (xKid a 0)) .local && cE K e h q (xKid a 1)
  | .oNe k,_,q,a=>okName (xNm (xKid a 0)) && slIs q k (xNm (xKid a 0)) .local
  | .heard e,h,q,a=>isGlob q "_law_heard" && ckCode K h && ckLam q (xScp (xKid a 1)) && cE K e none (sqL q (xScp (xKid a 1))) (xKid (xKid a 1) 0)
  | .mkRd e,h,q,a=>notStar (bE e (xKid a 1)) && isGlob q "PatternReader" && cE K e h q (xKid a 1)
noncomputable def cEs (K:Ck):Es→CQ→Sq→List Expr→Bool
  | .nil,_,_,_=>true
  | .cons e es,h,q,l=>notStar (bE e (l.headD xD)) && cE K e h q (l.headD xD) && cEs K es h q l.tail
noncomputable def cIt (K:Ck):It→CQ→Sq→List Nat→Expr→Bool
  | .val e,h,q,_,a=>cE K e h q a
  | .range e,h,q,_,a=>notStar (bE e (xKid a 1)) && isGlob q "range" && cE K e h q (xKid a 1)
  | .zip e₁ e₂,h,q,ks,a=>decide (2 ≤ ks.length) && notStar (bE e₁ (xKid a 1)) && notStar (bE e₂ (xKid a 2)) && isGlob q "zip" && cE K e₁ h q (xKid a 1) && cE K e₂ h q (xKid a 2)
end
end Mine
end
section
open PySem PySem.W PyProof.Rows
namespace Mine
theorem l_ {a b:Bool} (h:(a && b)=true):a=true:=(Bool.and_eq_true_iff.mp h).1
theorem r_ {a b:Bool} (h:(a && b)=true):b=true:=(Bool.and_eq_true_iff.mp h).2
theorem d_ {p:Prop} {x:Decidable p} (h:decide p=true):p:=of_decide_eq_true h
theorem n_ {b:Bool} (h:(!b)=true):b=false:=by cases b; rfl; cases h

theorem any_ok {α:Type} {o:Option α} {p:α→Bool} (h:o.any p=true):∃ a,o=some a∧p a=true:=by
  cases o with
  | none=>cases h
  | some a=>exact ⟨a,rfl,h⟩

theorem cB_ok {d:D} (h:isK d=true):cstD (cB d)=some d:=by
  cases d <;> first | rfl | cases h | exact congrArg some (congrArg D.str (by simp))
theorem slIs_ok {q:Sq} {k:Nat} {x:Str} {kd:NameKind} (h:slIs q k x kd=true):q.sl[k]?=some (some (x,kd)):=d_ h
theorem slAny_ok {q:Sq} {k:Nat} {x:Str} (h:slAny q k x=true):∃ kd,q.sl[k]?=some (some (x,kd)) :=
  (Bool.or_eq_true_iff.mp h).elim (fun h=>(Bool.or_eq_true_iff.mp h).elim (fun h=>⟨_,slIs_ok h⟩) fun h=>⟨_,slIs_ok h⟩) fun h=>⟨_,slIs_ok h⟩
theorem isGlob_ok {q:Sq} {x:Str} (h:isGlob q x=true):q.scope.names.lookup x=some .globalImplicit:=d_ h
theorem ckSt_ok {q:Sq} {k:Nat} {x:Str} {cd:Value} {ql:Str} (h:ckSt q k x=true):StS (q.sp cd ql) k x :=
  (Bool.or_eq_true_iff.mp h).elim (fun h=>⟨.local,slIs_ok h,.inl rfl⟩) fun h=>⟨.cell,slIs_ok (l_ h),.inr ⟨rfl,d_ (r_ h)⟩⟩
theorem cTgNs_ok {q:Sq} {cd:Value} {ql:Str}:∀ {ks:List Nat} {l:List Expr},cTgNs q ks l=true→TgNs (q.sp cd ql) (tNs ks l) ks
  | [],_,_=>.nil
  | _ :: _,_,h=>.cons (ckSt_ok (l_ h)) (cTgNs_ok (r_ h))
theorem cTg_ok {q:Sq} {cd:Value} {ql:Str} {ks:List Nat} {t:Expr} (h:cTg q ks t=true):TgOK (q.sp cd ql) (tB ks t) ks:=by
  match ks,h with
  | [_],h=>exact .name (ckSt_ok h)
  | _ :: _ :: _,h=>exact .tuple (cTgNs_ok h)
theorem bKs_ok:∀ {ds:List D} (ks:List (Option Expr)),ds.all isK=true→KeysCst (bKs ds ks) ds
  | [],_,_=>.nil
  | _ :: _,_,h=>.cons (cB_ok (l_ h)) (bKs_ok _ (r_ h))
theorem isI_ok {e:E} (h:isI e=true):∃ v,e=.cst (.int v):=by
  cases e <;> try cases h
  rename_i d
  cases d <;> first | exact ⟨_,rfl⟩ | cases h
theorem isCs_ok:∀ {es:Es} (l:List Expr),isCs es=true→∃ vs,ECs (bEs es l) es vs∧vs.length=lenEs es
  | .nil,_,_=>⟨[],.nil,rfl⟩
  | .cons e es,l,h=>by
    refine Xea (isI_ok (l_ h)) fun v zz1=>?_; subst zz1
    exact (isCs_ok l.tail (r_ h)).elim fun vs x=>⟨v :: vs,.cons x.1,congrArg (· + 1) x.2⟩
theorem bEs_len:∀ {es:Es} {l:List Expr},(bEs es l).length=lenEs es
  | .nil,_=>rfl
  | .cons _ _,_=>congrArg (· + 1) bEs_len
theorem asInt_ok:∀ {ks:List D} {is:List Int},ks.mapM D.asInt=some is→ks=is.map D.int
  | [],is,h=>by simp at h; subst h; rfl
  | d :: ks,is,h=>by
    rw [List.mapM_cons] at h
    cases d with
    | int i =>
      cases q:ks.mapM D.asInt with
      | none=>rw [q] at h; cases h
      | some l=>rw [q] at h; cases h; rw [asInt_ok q]; rfl
    | _=>cases h
theorem notSet_ok {a:Expr} (h:notSet a=true):∀ env x,foldedSetIterable a env x=pure x:=by
  intro env x
  cases a <;> first | rfl | cases h
theorem allSl_ok {sl:List (Option (Str × NameKind))} {f:Nat→Str→NameKind→Bool} (h:allSl sl f=true) {k:Nat} {x:Str} {kd:NameKind} (e:sl[k]?=some (some (x,kd))):f k x kd=true:=by
  have:=List.all_eq_true.mp h k (List.mem_range.mpr (List.getElem?_eq_some_iff.mp e).1)
  rw [e] at this
  exact this
theorem ckInj_ok {sl:List (Option (Str × NameKind))} (h:ckInj sl=true):∀ (k j:Nat) x kd kd',sl[k]?=some (some (x,kd))→sl[j]?=some (some (x,kd'))→k=j :=
  fun _ _ _ _ _ e1 e2=>d_ (allSl_ok (allSl_ok h e1) e2) rfl
theorem all_d {α:Type} {l:List α} {p:α→Prop} {i:DecidablePred p} (h:(l.all fun x=>decide (p x))=true):∀ x ∈ l,p x:=fun x hx=>d_ (List.all_eq_true.mp h x hx)
theorem ckComp_ok {q:Sq} {cd:Value} {ql:Str} {scope:Scope} {t:Expr} {ks:List Nat} (h:ckComp q scope t ks=true):CompSp (q.sp cd ql) scope (slC q scope t ks) (tB ks t) ks :=
  ⟨d_ (l_ (l_ (l_ (l_ (l_ (l_ h)))))),all_d (r_ (l_ (l_ (l_ (l_ (l_ h)))))),all_d (r_ (l_ (l_ (l_ (l_ h))))),all_d (r_ (l_ (l_ (l_ h)))),
   fun _ _ _ e=>have x:=allSl_ok (r_ (l_ (l_ h))) e
    ⟨d_ (l_ x),(Bool.or_eq_true_iff.mp (r_ x)).imp d_ fun y=>⟨d_ (l_ (l_ (l_ y))),d_ (r_ (l_ (l_ y))),slIs_ok (r_ (l_ y)),d_ (r_ y)⟩⟩,ckInj_ok (r_ (l_ h)),cTg_ok (q:=sqC q scope t ks) (r_ h)⟩
theorem ckLam_ok {q:Sq} {cd:Value} {ql:Str} {scope:Scope} (h:ckLam q scope=true):LamSp (q.sp cd ql) scope (slL q scope) :=
  ⟨d_ (l_ (l_ (l_ (l_ (l_ (l_ h)))))),n_ (r_ (l_ (l_ (l_ (l_ (l_ h)))))),n_ (r_ (l_ (l_ (l_ (l_ h))))),all_d (r_ (l_ (l_ (l_ h)))),all_d (r_ (l_ (l_ h))),
   fun _ _ _ e=>have x:=allSl_ok (r_ (l_ h)) e
    ⟨d_ (l_ (l_ (l_ x))),d_ (r_ (l_ (l_ x))),slIs_ok (r_ (l_ x)),d_ (r_ x)⟩,ckInj_ok (r_ h)⟩

structure CkOK (K:Ck) (C:Cst) (G:Nat→D) (H:Hd) (m:Nat):Prop where
  ok:COK C G K.NM
  rk:ROK C K.NM K.mN
  hok:HOK C H m
  mkr:MkOK C K.NM
  jf:JFOK C K.NM
  jg:JFGet C
  tb:TabOK C
  hh:∃ fh F,HeardAt C fh F
  cods:∀ p ∈ K.cods,∃ P,(p.1,P) ∈ C.tabs∧C.lq p.1=p.2

noncomputable def lv (m:Nat):CQ→Nat
  | some _=>m + 2
  | none=>m
noncomputable def AtC (h:CQ) (cd:Value) (ql:Str):Prop:=∀ c q,h=some (c,q)→cd=.ref c∧ql=q

section
variable {C:Cst} {G:Nat→D} {NM:Names} {H:Hd} {m:Nat} {K:Ck}

inductive LOK (C:Cst) (G:Nat→D) (H:Hd) (n:Nat) (sp:Sp):List Expr→Es→Prop
  | nil:LOK C G H n sp [] .nil
  | cons {a:Expr} {as:List Expr} {e:Mine.E} {es:Es}:notStar a=true→EvOK C G H n sp a e→TrOK C G H n sp a e→LOK C G H n sp as es→LOK C G H n sp (a :: as) (.cons e es)
variable {n:Nat} {sp:Sp}
theorem LOK.evs {as:List Expr} {es:Es} (h:LOK C G H n sp as es):EvsOK C G H n sp as es∧as.all notStar=true:=by
  induction h with
  | nil=>exact ⟨evs_nil,rfl⟩
  | cons h1 h2 _ _ ih=>exact ⟨evs_cons h1 h2 ih.1,Bool.and_eq_true_iff.mpr ⟨h1,ih.2⟩⟩
theorem LOK.evL {as:List Expr} {es:Es} (h:LOK C G H n sp as es):EvL C G H n sp as es:=by
  induction h with
  | nil=>exact .nil
  | cons _ h2 _ _ ih=>exact .cons h2 ih
theorem LOK.bs {as:List Expr} {es:Es} {isAnd:Bool} (h:LOK C G H n sp as es):BsOK C G H n sp isAnd as es:=by
  induction h with
  | nil=>exact bs_nil
  | cons h1 h2 h3 h4 ih=>exact bs_cons h2 h3 ih fun q=>by subst q; cases h4; rfl
theorem LOK.cs {as:List Expr} {es:Es} (h:LOK C G H n sp as es) (hl:lenEs es ≤ 1):CsOK C G H n sp as es:=by
  cases h with
  | nil=>exact .inl ⟨rfl,rfl⟩
  | cons h1 h2 h3 h4 =>
    cases h4 with
    | nil=>exact .inr ⟨_,_,rfl,rfl,h3⟩
    | cons=>exact absurd hl (by simp [lenEs])

noncomputable def GoodE (C:Cst) (G:Nat→D) (H:Hd) (m:Nat) (h:CQ) (q:Sq) (a:Expr) (e:E):Prop:=∀ cd ql,AtC h cd ql→EvOK C G H (lv m h) (q.sp cd ql) a e∧TrOK C G H (lv m h) (q.sp cd ql) a e
noncomputable def GoodEs (C:Cst) (G:Nat→D) (H:Hd) (m:Nat) (h:CQ) (q:Sq) (as:List Expr) (es:Es):Prop:=∀ cd ql,AtC h cd ql→LOK C G H (lv m h) (q.sp cd ql) as es
noncomputable def GoodIt (C:Cst) (G:Nat→D) (H:Hd) (m:Nat) (h:CQ) (q:Sq) (tg a:Expr) (i:It):Prop:=∀ cd ql,AtC h cd ql→ItOK C G H (lv m h) (q.sp cd ql) tg a i

theorem CkOK.hokL (k:CkOK K C G H m) (h:CQ):HOK C H (lv m h):=by
  cases h with
  | none=>exact k.hok
  | some _=>exact k.hok.mono (Nat.le_add_right _ _)
theorem GoodE.plain {h:CQ} {q:Sq} {a:Expr} {e:E} (hp:plainE a=true) (x:∀ cd ql,AtC h cd ql→EvOK C G H (lv m h) (q.sp cd ql) a e):GoodE C G H m h q a e:=fun cd ql hc=>⟨x cd ql hc,tr_plain hp (x cd ql hc)⟩
theorem dct_ok (k:CkOK K C G H m) {ks:List D} {es:Es} {keys:List (Option Expr)} {l:List Expr} {pos:Pos} {h:CQ} {q:Sq} (ih:cEs K es h q l=true→GoodEs C G H m h q (bEs es l) es)
    (hc:(decide (ks.length=lenEs es) && ks.all isK && ((decide (ks.length=32) && isCs es && (ks.mapM D.asInt).any fun is=>decide is.Nodup) || (!ks.isEmpty && decide (ks.length ≤ 15) && ((ks.mapM D.asInt).isSome || (ks.mapM D.asStr).isSome) && cEs K es h q l)))=true) :
    GoodE C G H m h q (.Dict (bKs ks keys) (bEs es l) pos) (.dct ks es):=by
  have hk:=bKs_ok keys (r_ (l_ hc))
  have hl:ks.length=(bEs es l).length:=(d_ (l_ (l_ hc)):ks.length=lenEs es).trans bEs_len.symm
  refine .plain rfl fun cd ql z=>?_
  rcases Bool.or_eq_true_iff.mp (r_ hc) with y | y
  · refine Xeaa (any_ok (r_ y)) fun is e hn=>?_
    have e:=asInt_ok e
    subst e
    refine Xeaa (isCs_ok l (r_ (l_ y))) fun vs hv hvl=>?_
    have h32:is.length=32:=(List.length_map ..).symm.trans (d_ (l_ (l_ y)))
    exact ev_dct32 k.ok hk hv (((List.length_map ..).symm.trans (d_ (l_ (l_ hc)))).trans hvl.symm) h32 (d_ hn) (hk.all.2.trans hl)
  · refine ev_dct k.ok hk (ih (r_ y) cd ql z).evL hl (fun e=>?_) (hk.all.2 ▸ d_ (r_ (l_ (l_ y)))) (r_ (l_ y))
    have:ks=[]:=List.length_eq_zero_iff.mp (hk.all.2.symm.trans (congrArg List.length e))
    rw [this] at y
    exact nomatch l_ (l_ (l_ y))
theorem heard_lam (k:CkOK K C G H m) {h:CQ} {q:Sq} {scope:Scope} {body:Expr} {lp p pos:Pos} {e:E} (h1:isGlob q "_law_heard"=true) (h2:ckCode K h=true) (h3:ckLam q scope=true) (ih:GoodE C G H m none (sqL q scope) body e) :
    GoodE C G H m h q (.Call (.Name "_law_heard" p) [.Lambda ⟨[],[],none,[],[],none,[]⟩ body scope lp] [] pos) (.heard e):=by
  obtain ⟨⟨c,qq⟩,rfl,h4⟩:=any_ok h2
  refine Xeaa (k.cods _ (d_ h4)) fun P hP hl=>?_
  refine Xeea (k.hh) fun fh F hh=>?_
  refine .plain rfl fun cd ql z=>?_
  refine Xaa (z c qq rfl) fun zz1 zz2=>?_; subst zz1; subst zz2
  exact ev_heard k.ok k.jf k.jg k.tb hh (isGlob_ok h1) hP rfl hl (ckLam_ok h3) (fun _=>rfl) (fun _ _ _ _=>rfl) fun cd=>(ih cd _ fun _ _ z=>by cases z).1
theorem zip_it (k:CkOK K C G H m) {h:CQ} {q:Sq} {ks:List Nat} {t a b:Expr} {p pos:Pos} {e₁ e₂:E} (h1:2 ≤ ks.length) (h2:notStar a=true) (h3:notStar b=true) (h4:isGlob q "zip"=true) (i1:GoodE C G H m h q a e₁) (i2:GoodE C G H m h q b e₂) :
    GoodIt C G H m h q (tB ks t) (.Call (.Name "zip" p) [a,b] [] pos) (.zip e₁ e₂):=by
  match ks,h1 with
  | _ :: _ :: _,_=>exact fun cd ql z=>it_zip k.ok h2 h3 (isGlob_ok h4) (i1 cd ql z).1 (i2 cd ql z).1
theorem bop_ne {l:List Expr} (h:(!l.isEmpty)=true):l ≠ []:=fun e=>by subst e; cases h

mutual
theorem cE_ok (k:CkOK K C G H m):∀ (e:E) (h:CQ) (q:Sq) (a:Expr),cE K e h q a=true→GoodE C G H m h q (bE e a) e
  | .loc _,_,_,_,hc=>.plain rfl fun _ _ _=>(slAny_ok (r_ hc)).elim fun _ e=>ev_loc (l_ hc) e
  | .cst _,_,_,_,hc=>.plain rfl fun _ _ _=>ev_cst (cB_ok hc)
  | .glob _,_,_,_,hc=>.plain rfl fun _ _ _=>ev_glob k.ok (l_ (l_ hc)) (isGlob_ok (r_ (l_ hc))) (d_ (r_ hc))
  | .bin _ e₁ e₂,h,q,_,hc=>.plain rfl fun cd ql z=>ev_bin (cE_ok k e₁ h q _ (l_ hc) cd ql z).1 (cE_ok k e₂ h q _ (r_ hc) cd ql z).1
  | .neg e,h,q,_,hc=>.plain rfl fun cd ql z=>ev_neg (cE_ok k e h q _ hc cd ql z).1
  | .not e,h,q,_,hc=>fun cd ql z=>have x:=cE_ok k e h q _ hc cd ql z; ⟨ev_not x.1,tr_not x.2⟩
  | .bop _ es,h,q,_,hc=>fun cd ql z=>have x:=(cEs_ok k es h q _ (r_ hc) cd ql z).bs; ⟨ev_bop (bop_ne (l_ hc)) x,tr_bop x⟩
  | .ite e₀ e₁ e₂,h,q,_,hc=>fun cd ql z=>have x:=cE_ok k e₀ h q _ (l_ (l_ hc)) cd ql z; have y:=cE_ok k e₁ h q _ (r_ (l_ hc)) cd ql z; have w:=cE_ok k e₂ h q _ (r_ hc) cd ql z; ⟨ev_ite x.2 y.1 w.1,tr_ite x.2 y.2 w.2⟩
  | .cmp _ e₁ e₂,h,q,_,hc=>fun cd ql z=>have x:=(cE_ok k e₁ h q _ (r_ (l_ hc)) cd ql z).1; have y:=(cE_ok k e₂ h q _ (r_ hc) cd ql z).1; ⟨ev_cmp (l_ (l_ hc)) x y,tr_cmp (l_ (l_ hc)) x y⟩
  | .chain _ _ e₁ e₂ e₃,h,q,_,hc=>fun cd ql z=>have x:=(cE_ok k e₁ h q _ (r_ (l_ (l_ hc))) cd ql z).1; have y:=(cE_ok k e₂ h q _ (r_ (l_ hc)) cd ql z).1; have w:=(cE_ok k e₃ h q _ (r_ hc) cd ql z).1
    ⟨ev_chain (l_ (l_ (l_ hc))) x y w,tr_chain (l_ (l_ (l_ hc))) x y w⟩
  | .attr e _,h,q,_,hc=>.plain rfl fun cd ql z=>ev_attr k.ok k.rk (l_ (l_ hc)) (d_ (r_ (l_ hc))) (cE_ok k e h q _ (r_ hc) cd ql z).1
  | .sub e i,h,q,_,hc=>.plain rfl fun cd ql z=>ev_sub (l_ (l_ hc)) (cE_ok k e h q _ (r_ (l_ hc)) cd ql z).1 (cE_ok k i h q _ (r_ hc) cd ql z).1
  | .slc e lo hi,h,q,_,hc=>.plain rfl fun cd ql z=>ev_slc (cE_ok k e h q _ (l_ (l_ hc)) cd ql z).1 (cE_ok k lo h q _ (r_ (l_ hc)) cd ql z).1 (cE_ok k hi h q _ (r_ hc) cd ql z).1
  | .slcFrom e lo,h,q,_,hc=>.plain rfl fun cd ql z=>ev_slcFrom (cE_ok k e h q _ (l_ hc) cd ql z).1 (cE_ok k lo h q _ (r_ hc) cd ql z).1
  | .slcTo e hi,h,q,_,hc=>.plain rfl fun cd ql z=>ev_slcTo (cE_ok k e h q _ (l_ hc) cd ql z).1 (cE_ok k hi h q _ (r_ hc) cd ql z).1
  | .tup es,h,q,_,hc=>.plain rfl fun cd ql z=>ev_tup (cEs_ok k es h q _ hc cd ql z).evs.1
  | .lst es,h,q,_,hc=>.plain rfl fun cd ql z=>ev_lst (cEs_ok k es h q _ hc cd ql z).evs.1
  | .dct _ es,h,q,_,hc=>dct_ok k (cEs_ok k es h q _) hc
  | .call _ es,h,q,_,hc=>.plain rfl fun cd ql z=>have x:=(cEs_ok k es h q _ (r_ hc) cd ql z).evs; ev_call k.ok (k.hokL h) (l_ (l_ (l_ hc))) x.2 (isGlob_ok (r_ (l_ (l_ hc)))) (d_ (r_ (l_ hc))) x.1
  | .bi _ es,h,q,_,hc=>.plain rfl fun cd ql z=>have x:=(cEs_ok k es h q _ (r_ hc) cd ql z).evs; ev_bi k.ok x.2 (isGlob_ok (l_ hc)) x.1
  | .meth _ e es,h,q,_,hc=>.plain rfl fun cd ql z=>have x:=(cEs_ok k es h q _ (r_ hc) cd ql z).evs
    ev_meth k.ok k.rk (k.hokL h) (l_ (l_ (l_ (l_ (l_ hc))))) (d_ (r_ (l_ (l_ (l_ (l_ hc)))))) (d_ (r_ (l_ (l_ (l_ hc))))) x.2 (d_ (r_ (l_ (l_ hc)))) (cE_ok k e h q _ (r_ (l_ hc)) cd ql z).1 x.1
  | .cnt e₁ e₂,h,q,_,hc=>.plain rfl fun cd ql z=>ev_cnt (l_ (l_ (l_ (l_ hc)))) (d_ (r_ (l_ (l_ (l_ hc))))) (r_ (l_ (l_ hc))) (cE_ok k e₁ h q _ (r_ (l_ hc)) cd ql z).1 (cE_ok k e₂ h q _ (r_ hc) cd ql z).1
  | .get e₁ e₂,h,q,_,hc=>.plain rfl fun cd ql z=>ev_get (l_ (l_ (l_ (l_ hc)))) (d_ (r_ (l_ (l_ (l_ hc))))) (r_ (l_ (l_ hc))) (cE_ok k e₁ h q _ (r_ (l_ hc)) cd ql z).1 (cE_ok k e₂ h q _ (r_ hc) cd ql z).1
  | .popBox e,h,q,_,hc=>.plain rfl fun cd ql z=>ev_popBox (l_ (l_ hc)) (d_ (r_ (l_ hc))) (cE_ok k e h q _ (r_ hc) cd ql z).1
  | .boxLen e,h,q,_,hc=>.plain rfl fun cd ql z=>ev_boxLen k.ok (l_ (l_ hc)) (isGlob_ok (r_ (l_ hc))) (cE_ok k e h q _ (r_ hc) cd ql z).1
  | .comp e _ i es,h,_,_,hc=>.plain rfl fun cd ql z=>ev_comp (ckComp_ok (r_ (l_ (l_ (l_ (l_ hc)))))) (notSet_ok (l_ (l_ (l_ (l_ (l_ hc)))))) (cE_ok k e h _ _ (r_ (l_ (l_ hc))) cd ql z).1
      ((cEs_ok k es h _ _ (r_ (l_ hc)) cd ql z).cs (d_ (r_ (l_ (l_ (l_ hc)))))) (cIt_ok k i h _ _ _ _ (r_ hc) cd ql z)
  | .oLen _,_,_,_,hc=>.plain rfl fun _ _ _=>ev_oLen k.ok (l_ (l_ hc)) (slIs_ok (r_ (l_ hc))) (isGlob_ok (r_ hc))
  | .oIdx _ e,h,q,_,hc=>.plain rfl fun cd ql z=>ev_oIdx (l_ (l_ (l_ hc))) (r_ (l_ (l_ hc))) (slIs_ok (r_ (l_ hc))) (cE_ok k e h q _ (r_ hc) cd ql z).1
  | .oNe _,_,_,_,hc=>fun _ _ _=>⟨ev_oNe (l_ hc) (slIs_ok (r_ hc)),tr_oNe (l_ hc) (slIs_ok (r_ hc))⟩
  | .heard e,_,_,_,hc=>heard_lam k (l_ (l_ (l_ hc))) (r_ (l_ (l_ hc))) (r_ (l_ hc)) (cE_ok k e none _ _ (r_ hc))
  | .mkRd e,h,q,_,hc=>.plain rfl fun cd ql z=>ev_mkRd k.ok k.rk k.mkr (l_ (l_ hc)) (isGlob_ok (r_ (l_ hc))) (cE_ok k e h q _ (r_ hc) cd ql z).1
theorem cEs_ok (k:CkOK K C G H m):∀ (es:Es) (h:CQ) (q:Sq) (l:List Expr),cEs K es h q l=true→GoodEs C G H m h q (bEs es l) es
  | .nil,_,_,_,_=>fun _ _ _=>.nil
  | .cons e es,h,q,_,hc=>fun cd ql z=>have x:=cE_ok k e h q _ (r_ (l_ hc)) cd ql z; .cons (l_ (l_ hc)) x.1 x.2 (cEs_ok k es h q _ (r_ hc) cd ql z)
theorem cIt_ok (k:CkOK K C G H m):∀ (i:It) (h:CQ) (q:Sq) (ks:List Nat) (t a:Expr),cIt K i h q ks a=true→GoodIt C G H m h q (tB ks t) (bIt i a) i
  | .val e,h,q,_,_,_,hc=>fun cd ql z=>it_val (cE_ok k e h q _ hc cd ql z).1
  | .range e,h,q,_,_,_,hc=>fun cd ql z=>it_range k.ok (l_ (l_ hc)) (isGlob_ok (r_ (l_ hc))) (cE_ok k e h q _ (r_ hc) cd ql z).1
  | .zip e₁ e₂,h,q,_,_,_,hc=>zip_it k (d_ (l_ (l_ (l_ (l_ (l_ hc)))))) (r_ (l_ (l_ (l_ (l_ hc))))) (r_ (l_ (l_ (l_ hc)))) (r_ (l_ (l_ hc))) (cE_ok k e₁ h q _ (r_ (l_ hc))) (cE_ok k e₂ h q _ (r_ hc))
end
end
end Mine
end
section
set_option tactic.hygienic false
open PySem PySem.W PyProof.Rows
namespace Mine
noncomputable def isC:E→Bool
  | .comp ..=>true
  | _=>false
theorem isC_ok {e:E} (h:isC e=true):∃ e' ks i es,e=.comp e' ks i es:=by
  cases e <;> first | exact ⟨_,_,_,_,rfl⟩ | cases h
noncomputable def isFz:S→Bool
  | .freeze _=>true
  | _=>false
theorem isFz_ok {s:S} (h:isFz s=true):∃ k,s=.freeze k:=by
  cases s <;> first | exact ⟨_,rfl⟩ | cases h

noncomputable def xSt:Stmt:=.Pass default
noncomputable def xW:Stmt→Pos × List Expr × List Stmt × List Stmt
  | .Return v p=>(p,v.toList,[],[])
  | .Assign ts v p=>(p,v :: ts,[],[])
  | .AugAssign t _ v p=>(p,[v,t],[],[])
  | .For t i b _ p=>(p,[i,t],b,[])
  | .While t b _ p=>(p,[t],b,[])
  | .If t b o p=>(p,[t],b,o)
  | .Expr v p=>(p,[v],[],[])
  | .Raise v _ p=>(p,v.toList,[],[])
  | .Try b _ _ _ p=>(p,[],b,[])
  | _=>(default,[],[],[])
noncomputable def xP (s:Stmt):Pos:=(xW s).1
noncomputable def xB (s:Stmt):List Stmt:=(xW s).2.2.1
noncomputable def xO (s:Stmt):List Stmt:=(xW s).2.2.2
noncomputable def xS (s:Stmt) (i:Nat):Expr:=(xW s).2.1.getD i xD
noncomputable abbrev nB (a:Expr):Expr:=.Name (xNm a) a.pos
noncomputable abbrev mB (c:Expr) (m:Str) (l:List Expr):Expr:=.Call (.Attribute (nB (xKid (xKid c 0) 0)) m (xKid c 0).pos) l [] c.pos
noncomputable def o2B (t v:Expr) (m:Nat):Expr:=.Tuple [.List [] (xKid v 0).pos,.BinOp (.List [.Constant (.bool false) (xK (xKid (xKid (xKid v 1) 0) 0)) (xKid (xKid (xKid v 1) 0) 0).pos] (xKid (xKid v 1) 0).pos) .Mult (.Constant (.int (m:Int)) (xK (xKid (xKid v 1) 1)) (xKid (xKid v 1) 1).pos) (xKid v 1).pos] (xK v) v.pos

mutual
noncomputable def bS:S→Stmt→Stmt
  | .expr e,a=>.Expr (bE e (xS a 0)) (xP a)
  | .ret e,a=>.Return (some (bE e (xS a 0))) (xP a)
  | .asg _ e,a=>.Assign [nB (xS a 1)] (bE e (xS a 0)) (xP a)
  | .asgT ks e,a=>.Assign [tB ks (xS a 1)] (bE e (xS a 0)) (xP a)
  | .own _ es,a=>.Assign [nB (xS a 1)] (.List (bEs es (xKids (xS a 0))) (xS a 0).pos) (xP a)
  | .own2 _ _ m,a=>.Assign [.Tuple [nB (xKid (xS a 1) 0),nB (xKid (xS a 1) 1)] (xK (xS a 1)) (xS a 1).pos] (o2B (xS a 1) (xS a 0) m) (xP a)
  | .append _ e,a=>.Expr (mB (xS a 0) "append" [bE e (xKid (xS a 0) 1)]) (xP a)
  | .extend _ e,a=>.Expr (mB (xS a 0) "extend" [bE e (xKid (xS a 0) 1)]) (xP a)
  | .popTo _ _,a=>.Assign [nB (xS a 1)] (mB (xS a 0) "pop" []) (xP a)
  | .setSlice _ e₁ e₂ e,a=>.Assign [.Subscript (nB (xKid (xS a 1) 0)) (.Slice (some (bE e₁ (xKid (xKid (xS a 1) 1) 0))) (some (bE e₂ (xKid (xKid (xS a 1) 1) 1))) none (xKid (xS a 1) 1).pos) (xS a 1).pos] (bE e (xS a 0)) (xP a)
  | .setAttr e₀ _ e,a=>.Assign [.Attribute (bE e₀ (xKid (xS a 1) 0)) (xNm (xS a 1)) (xS a 1).pos] (bE e (xS a 0)) (xP a)
  | .addAttr e₀ _ e,a=>.AugAssign (.Attribute (bE e₀ (xKid (xS a 1) 0)) (xNm (xS a 1)) (xS a 1).pos) .Add (bE e (xS a 0)) (xP a)
  | .setBox e₀ e,a=>.Assign [.Subscript (bE e₀ (xKid (xS a 1) 0)) (.Constant (.int 1) (xK (xKid (xS a 1) 1)) (xKid (xS a 1) 1).pos) (xS a 1).pos] (bE e (xS a 0)) (xP a)
  | .mkBox _ e i,a=>.Assign [nB (xS a 1)] (.List [bE e (xKid (xS a 0) 0),.Constant (.int i) (xK (xKid (xS a 0) 1)) (xKid (xS a 0) 1).pos] (xS a 0).pos) (xP a)
  | .iff c x y,a=>.If (bE c (xS a 0)) (bSs x (xB a)) (bSs y (xO a)) (xP a)
  | .whl c x,a=>.While (bE c (xS a 0)) (bSs x (xB a)) [] (xP a)
  | .forr ks i x,a=>.For (tB ks (xS a 1)) (bIt i (xS a 0)) (bSs x (xB a)) [] (xP a)
  | .freeze _,a=>a
noncomputable def bSs:Ss→List Stmt→List Stmt
  | .nil,_=>[]
  | .cons s ss,l=>match isFz s with
    | true=>bSs ss l
    | false=>bS s (l.headD xSt) :: bSs ss l.tail
end

mutual
noncomputable def cS (K:Ck):S→CQ→Sq→Stmt→Bool
  | .expr e,h,q,a=>notComp (bE e (xS a 0)) && cE K e h q (xS a 0)
  | .ret e,h,q,a=>cE K e h q (xS a 0)
  | .asg k e,h,q,a=>cE K e h q (xS a 0) && ((notComp (bE e (xS a 0)) && ckSt q k (xNm (xS a 1))) ||
      (isC e && slIs q k (xNm (xS a 1)) .local && ((xS a 1).pos.line == (xS a 0).pos.line && !((xScp (xS a 0)).names.any fun x=>x.1 == xNm (xS a 1) && (x.2 == .local || x.2 == .cell)))))
  | .asgT ks e,h,q,a=>notComp (bE e (xS a 0)) && notTup (bE e (xS a 0)) && cTg q ks (xS a 1) && cE K e h q (xS a 0)
  | .own k es,h,q,a=>slIs q k (xNm (xS a 1)) .local && cEs K es h q (xKids (xS a 0))
  | .own2 i j m,_,q,a=>slIs q i (xNm (xKid (xS a 1) 0)) .local && slIs q j (xNm (xKid (xS a 1) 1)) .local && decide (q.scope.names.lookup (xNm (xKid (xS a 1) 0))=some .local) && decide (q.scope.names.lookup (xNm (xKid (xS a 1) 1))=some .local) &&
      ((xKid (xS a 1) 1).pos.line == (xKid (xS a 1) 0).pos.line) && !(xNm (xKid (xS a 1) 0) == xNm (xKid (xS a 1) 1)) && decide (m ≤ LIM)
  | .append k e,h,q,a=>okName (xNm (xKid (xKid (xS a 0) 0) 0)) && decide ((xKid (xS a 0) 0).pos.endLine=(xS a 0).pos.line) && notStar (bE e (xKid (xS a 0) 1)) && slIs q k (xNm (xKid (xKid (xS a 0) 0) 0)) .local && cE K e h q (xKid (xS a 0) 1)
  | .extend k e,h,q,a=>okName (xNm (xKid (xKid (xS a 0) 0) 0)) && decide ((xKid (xS a 0) 0).pos.endLine=(xS a 0).pos.line) && notStar (bE e (xKid (xS a 0) 1)) && slIs q k (xNm (xKid (xKid (xS a 0) 0) 0)) .local && cE K e h q (xKid (xS a 0) 1)
  | .popTo j k,_,q,a=>okName (xNm (xKid (xKid (xS a 0) 0) 0)) && decide ((xKid (xS a 0) 0).pos.endLine=(xS a 0).pos.line) && ckSt q j (xNm (xS a 1)) && slIs q k (xNm (xKid (xKid (xS a 0) 0) 0)) .local
  | .setSlice k e₁ e₂ e,h,q,a=>okName (xNm (xKid (xS a 1) 0)) && notComp (bE e (xS a 0)) && slIs q k (xNm (xKid (xS a 1) 0)) .local && cE K e₁ h q (xKid (xKid (xS a 1) 1) 0) && cE K e₂ h q (xKid (xKid (xS a 1) 1) 1) && cE K e h q (xS a 0)
  | .setAttr e₀ j e,h,q,a=>decide (attrN[j]?=some (xNm (xS a 1))) && notComp (bE e (xS a 0)) && cE K e₀ h q (xKid (xS a 1) 0) && cE K e h q (xS a 0)
  | .addAttr e₀ j e,h,q,a=>decide (attrN[j]?=some (xNm (xS a 1))) && cE K e₀ h q (xKid (xS a 1) 0) && cE K e h q (xS a 0)
  | .setBox e₀ e,h,q,a=>notComp (bE e (xS a 0)) && cE K e₀ h q (xKid (xS a 1) 0) && cE K e h q (xS a 0)
  | .mkBox k e _,h,q,a=>isC e && slIs q k (xNm (xS a 1)) .local && cE K e h q (xKid (xS a 0) 0)
  | .iff c x y,h,q,a=>cE K c h q (xS a 0) && cSs K x h q (xB a) && cSs K y h q (xO a)
  | .whl c x,h,q,a=>cE K c h q (xS a 0) && cSs K x h q (xB a)
  | .forr ks i x,h,q,a=>notSet (bIt i (xS a 0)) && cTg q ks (xS a 1) && cIt K i h q ks (xS a 0) && cSs K x h q (xB a)
  | .freeze _,_,_,_=>false
noncomputable def cSs (K:Ck):Ss→CQ→Sq→List Stmt→Bool
  | .nil,_,_,_=>true
  | .cons s ss,h,q,l=>match isFz s with
    | true=>cSs K ss h q l
    | false=>cS K s h q (l.headD xSt) && cSs K ss h q l.tail
end

section
variable {C:Cst} {G:Nat→D} {NM:Names} {H:Hd} {m:Nat} {K:Ck} {N:Nat}

noncomputable def GoodS (C:Cst) (G:Nat→D) (H:Hd) (m N:Nat) (h:CQ) (q:Sq) (a:Stmt) (e:S):Prop:=∀ cd ql,AtC h cd ql→SOK C G H (lv m h) N (q.sp cd ql) a e
noncomputable def GoodSs (C:Cst) (G:Nat→D) (H:Hd) (m N:Nat) (h:CQ) (q:Sq) (as:List Stmt) (es:Ss):Prop:=∀ cd ql,AtC h cd ql→SsOK C G H (lv m h) N (q.sp cd ql) as es

theorem asg_ok (k:CkOK K C G H m) {j:Nat} {e:E} {h:CQ} {q:Sq} {t a:Expr} {pos:Pos} (hc:(cE K e h q a && ((notComp (bE e a) && ckSt q j (xNm t)) ||
      (isC e && slIs q j (xNm t) .local && (t.pos.line == a.pos.line && !((xScp a).names.any fun x=>x.1 == xNm t && (x.2 == .local || x.2 == .cell))))))=true):GoodS C G H m N h q (.Assign [nB t] (bE e a) pos) (.asg j e):=by
  rcases Bool.or_eq_true_iff.mp (r_ hc) with y | y
  · exact fun cd ql z=>s_asg (l_ y) (ckSt_ok (r_ y)) (cE_ok k e h q _ (l_ hc) cd ql z).1
  · refine Xeeeea (isC_ok (l_ (l_ y))) fun e' ks i es zz1=>?_; subst zz1
    have hc:=l_ hc
    exact fun cd ql z=>s_asgComp (ckComp_ok (r_ (l_ (l_ (l_ (l_ hc)))))) (notSet_ok (l_ (l_ (l_ (l_ (l_ hc)))))) (cE_ok k e' h _ _ (r_ (l_ (l_ hc))) cd ql z).1
      ((cEs_ok k es h _ _ (r_ (l_ hc)) cd ql z).cs (d_ (r_ (l_ (l_ (l_ hc)))))) (cIt_ok k i h _ _ _ _ (r_ hc) cd ql z) (slIs_ok (r_ (l_ y))) (r_ y)
theorem box_ok (k:CkOK K C G H m) {j:Nat} {e:E} {i:Int} {h:CQ} {q:Sq} {t a:Expr} {kk:Nat} {pos lp cp:Pos} (hc:(isC e && slIs q j (xNm t) .local && cE K e h q a)=true):GoodS C G H m N h q (.Assign [nB t] (.List [bE e a,.Constant (.int i) kk cp] lp) pos) (.mkBox j e i):=by
  refine Xeeeea (isC_ok (l_ (l_ hc))) fun e' ks i es zz1=>?_; subst zz1
  have y:=r_ (l_ hc)
  have hc:=r_ hc
  exact fun cd ql z=>s_mkBox (ckComp_ok (r_ (l_ (l_ (l_ (l_ hc)))))) (notSet_ok (l_ (l_ (l_ (l_ (l_ hc)))))) (cE_ok k e' h _ _ (r_ (l_ (l_ hc))) cd ql z).1
      ((cEs_ok k es h _ _ (r_ (l_ hc)) cd ql z).cs (d_ (r_ (l_ (l_ (l_ hc)))))) (cIt_ok k i h _ _ _ _ (r_ hc) cd ql z) (slIs_ok y)
theorem ss_step {s:S} {ss:Ss} {h:CQ} {q:Sq} {l:List Stmt} (hc:cSs K (.cons s ss) h q l=true) (i1:∀ a,cS K s h q a=true→GoodS C G H m N h q (bS s a) s) (i2:∀ l,cSs K ss h q l=true→GoodSs C G H m N h q (bSs ss l) ss) :
    GoodSs C G H m N h q (bSs (.cons s ss) l) (.cons s ss):=by
  have e1:bSs (.cons s ss) l=match isFz s with | true=>bSs ss l | false=>bS s (l.headD xSt) :: bSs ss l.tail:=rfl
  have e2:cSs K (.cons s ss) h q l=match isFz s with | true=>cSs K ss h q l | false=>cS K s h q (l.headD xSt) && cSs K ss h q l.tail:=rfl
  rw [e2] at hc
  rw [e1]
  cases hz:isFz s with
  | true =>
    rw [hz] at hc
    refine Xea (isFz_ok hz) fun j zz1=>?_; subst zz1
    exact fun cd ql z=>ss_ghost (i2 _ hc cd ql z)
  | false =>
    rw [hz] at hc
    exact fun cd ql z=>ss_cons (i1 _ (l_ hc) cd ql z) (i2 _ (r_ hc) cd ql z)

mutual
theorem cS_ok (k:CkOK K C G H m):∀ (e:S) (h:CQ) (q:Sq) (a:Stmt),cS K e h q a=true→GoodS C G H m N h q (bS e a) e
  | .expr e,h,q,_,hc=>fun cd ql z=>s_expr (l_ hc) (cE_ok k e h q _ (r_ hc) cd ql z).1
  | .ret e,h,q,_,hc=>fun cd ql z=>s_ret (cE_ok k e h q _ hc cd ql z).1
  | .asg _ _,_,_,_,hc=>asg_ok k hc
  | .asgT _ e,h,q,_,hc=>fun cd ql z=>s_asgT (l_ (l_ (l_ hc))) (r_ (l_ (l_ hc))) (cTg_ok (r_ (l_ hc))) (cE_ok k e h q _ (r_ hc) cd ql z).1
  | .own _ es,h,q,_,hc=>fun cd ql z=>s_own (slIs_ok (l_ hc)) (cEs_ok k es h q _ (r_ hc) cd ql z).evs.1
  | .own2 _ _ _,_,_,_,hc=>fun _ _ _=>s_own2 (slIs_ok (l_ (l_ (l_ (l_ (l_ (l_ hc))))))) (slIs_ok (r_ (l_ (l_ (l_ (l_ (l_ hc))))))) (d_ (r_ (l_ (l_ (l_ (l_ hc)))))) (d_ (r_ (l_ (l_ (l_ hc))))) (r_ (l_ (l_ hc))) (n_ (r_ (l_ hc))) (d_ (r_ hc))
  | .append _ e,h,q,_,hc=>fun cd ql z=>s_append (l_ (l_ (l_ (l_ hc)))) (d_ (r_ (l_ (l_ (l_ hc))))) (r_ (l_ (l_ hc))) (slIs_ok (r_ (l_ hc))) (cE_ok k e h q _ (r_ hc) cd ql z).1
  | .extend _ e,h,q,_,hc=>fun cd ql z=>s_extend (l_ (l_ (l_ (l_ hc)))) (d_ (r_ (l_ (l_ (l_ hc))))) (r_ (l_ (l_ hc))) (slIs_ok (r_ (l_ hc))) (cE_ok k e h q _ (r_ hc) cd ql z).1
  | .popTo _ _,_,_,_,hc=>fun _ _ _=>s_popTo (l_ (l_ (l_ hc))) (d_ (r_ (l_ (l_ hc)))) (ckSt_ok (r_ (l_ hc))) (slIs_ok (r_ hc))
  | .setSlice _ e₁ e₂ e,h,q,_,hc=>fun cd ql z=>s_setSlice (l_ (l_ (l_ (l_ (l_ hc))))) (r_ (l_ (l_ (l_ (l_ hc))))) (slIs_ok (r_ (l_ (l_ (l_ hc))))) (cE_ok k e₁ h q _ (r_ (l_ (l_ hc))) cd ql z).1 (cE_ok k e₂ h q _ (r_ (l_ hc)) cd ql z).1 (cE_ok k e h q _ (r_ hc) cd ql z).1
  | .setAttr e₀ _ e,h,q,_,hc=>fun cd ql z=>s_setAttr k.ok k.rk (d_ (l_ (l_ (l_ hc)))) (r_ (l_ (l_ hc))) (cE_ok k e₀ h q _ (r_ (l_ hc)) cd ql z).1 (cE_ok k e h q _ (r_ hc) cd ql z).1
  | .addAttr e₀ _ e,h,q,_,hc=>fun cd ql z=>s_addAttr k.ok k.rk (d_ (l_ (l_ hc))) (cE_ok k e₀ h q _ (r_ (l_ hc)) cd ql z).1 (cE_ok k e h q _ (r_ hc) cd ql z).1
  | .setBox e₀ e,h,q,_,hc=>fun cd ql z=>s_setBox (l_ (l_ hc)) (cE_ok k e₀ h q _ (r_ (l_ hc)) cd ql z).1 (cE_ok k e h q _ (r_ hc) cd ql z).1
  | .mkBox _ _ _,_,_,_,hc=>box_ok k hc
  | .iff c x y,h,q,_,hc=>fun cd ql z=>s_iff (cE_ok k c h q _ (l_ (l_ hc)) cd ql z).2 (cSs_ok k x h q _ (r_ (l_ hc)) cd ql z) (cSs_ok k y h q _ (r_ hc) cd ql z)
  | .whl c x,h,q,_,hc=>fun cd ql z=>s_whl (cE_ok k c h q _ (l_ hc) cd ql z).2 (cSs_ok k x h q _ (r_ hc) cd ql z)
  | .forr _ i x,h,q,_,hc=>fun cd ql z=>s_forr (notSet_ok (l_ (l_ (l_ hc)))) (cTg_ok (r_ (l_ (l_ hc)))) (cIt_ok k i h q _ _ _ (r_ (l_ hc)) cd ql z) (cSs_ok k x h q _ (r_ hc) cd ql z)
  | .freeze _,_,_,_,hc=>nomatch (show false=true from hc)
theorem cSs_ok (k:CkOK K C G H m):∀ (es:Ss) (h:CQ) (q:Sq) (l:List Stmt),cSs K es h q l=true→GoodSs C G H m N h q (bSs es l) es
  | .nil,_,_,_,_=>fun _ _ _=>ss_nil
  | .cons s ss,h,q,_,hc=>ss_step hc (cS_ok k s h q) (cSs_ok k ss h q)
end
end
noncomputable abbrev FnSp.sq (F:FnSp):Sq:=⟨F.scope,F.sl,cellNs F.scope.names⟩

inductive FnOK (K:Ck) (C:Cst) (T:Nat→Fn) (f:Nat):Prop
  | plain (F:FnSp) (cq:CQ):(T f).kind ≠ 1→F.OK→FnAt C (C.fa f) F→F.ps.length=(T f).np→cSs K (T f).body cq F.sq F.body=true→bSs (T f).body F.body=F.body→AtC cq F.code F.qual→FnOK K C T f
  | fail (F:FnSp) (p1 p2 p3 p4 p5:Pos) (kk:Nat):(T f).kind=1→F.OK→FnAt C (C.fa f) F→F.body=[.Raise (some (.Call (.Name "JSFail" p1) [.Constant (.str "SyntaxError") kk p2,.Name "text" p3] [] p4)) none p5]→F.ps=[("text":Str)] →
      F.scope.names.lookup ("JSFail":Str)=some .globalImplicit→F.sl[0]?=some (some (("text":Str),.local))→FnOK K C T f
  | bad:(T f).kind=0→(T f).body=.cons (.ret (.neg (.cst .null))) .nil→FnOK K C T f

structure CkBase (K:Ck) (C:Cst) (G:Nat→D):Prop where
  ok:COK C G K.NM
  rk:ROK C K.NM K.mN
  mkr:MkOK C K.NM
  jf:JFOK C K.NM
  jg:JFGet C
  tb:TabOK C
  hh:∃ fh F,HeardAt C fh F
  cods:∀ p ∈ K.cods,∃ P,(p.1,P) ∈ C.tabs∧C.lq p.1=p.2

section
variable {C:Cst} {G:Nat→D} {K:Ck} {T:Nat→Fn} {N:Nat}

theorem CkBase.with (b:CkBase K C G) {H:Hd} {m:Nat} (h:HOK C H m):CkOK K C G H m:=⟨b.ok,b.rk,h,b.mkr,b.jf,b.jg,b.tb,b.hh,b.cods⟩

theorem callN_succ (n f:Nat) (vs:List V) (σ:Store):callN G T N (n + 1) f vs σ=if (T f).kind=1 then (match vs with
      | [.d (.str t)]=>.exc [83,121,110,116,97,120,69,114,114,111,114] t σ
      | _=>.bad)
    else if vs.length=(T f).np∧((T f).kind=2→σ.rd.isNone) then
      outF (T f) (evSs G (callN G T N n) N (T f).body (vs.map some++List.replicate ((T f).ns - (T f).np) none) σ)
    else .bad:=rfl

theorem hok_all (b:CkBase K C G) (hT:∀ f,FnOK K C T f):∀ n,HOK C (callN G T N n) (3 * n)
  | 0=>⟨fun f vs vals A X lc ρ ow ol σ s _ _ _ Q E K=>absurd rfl K.nb⟩
  | n + 1=>⟨fun f vs vals A X lc ρ ow ol σ s ha t r=>by
    have ih:=hok_all b hT n
    rw [callN_succ]
    cases hT f with
    | plain F cq h1 h2 h3 h4 h5 h7 h6 =>
      rw [if_neg h1]
      split
      · rename_i hc
        have hb:SsOK C G (callN G T N n) (lv (3 * n) cq) N F.sp F.body (T f).body:=(congrArg (fun l=>SsOK C G (callN G T N n) (lv (3 * n) cq) N F.sp l (T f).body) h7).mp (cSs_ok (b.with ih) _ cq F.sq _ h5 F.code F.qual h6)
        have hlv:lv (3 * n) cq + 1 ≤ 3 * (n + 1):=by cases cq <;> simp [lv] <;> lia
        have d:=call_fn (m:=(T f).ns - (T f).np) h2 h3 hb (ha.mono hlv) t r (by rw [h4,hc.1])
        unfold outF
        split
        · rename_i hk
          exact Den.noRd (by simpa using hc.2 hk) t d
        · exact d
      · exact fun Q E K=>absurd rfl K.nb
    | fail F p1 p2 p3 p4 p5 kk h1 h2 h3 h4 h5 h6 h7 =>
      rw [if_pos h1]
      split
      · exact call_fail b.ok b.jf h2 h3 h4 h5 h6 h7 (ha.mono (n:=0 + 1) (by exact Nat.le_of_ble_eq_true rfl)) t r
      · exact fun Q E K=>absurd rfl K.nb
    | bad h1 h2 =>
      rw [if_neg (by rw [h1]; decide)]
      split
      · intro Q E K
        refine absurd ?_ K.nb
        unfold outF
        rw [h1,h2]
        rfl
      · exact fun Q E K=>absurd rfl K.nb⟩
end
theorem zip_lookup_some:∀ {ps:List Str} {vals:List Value},vals.length=ps.length→∀ n ∈ ps,((ps.zip vals).lookup n).isSome=true
  | [],_,_,n,h=>by cases h
  | p :: ps,[],hl,n,h=>by simp at hl
  | p :: ps,v :: vals,hl,n,h=>by
    rw [List.zip_cons_cons,List.lookup_cons]
    by_cases q:n=p
    · subst q; simp
    · have:(n == p)=false:=by simpa using q
      rw [this]
      exact zip_lookup_some (by simpa using hl) n ((List.mem_cons.mp h).resolve_left q)
theorem zip_back:∀ {ps:List Str} {vals:List Value},ps.Nodup→vals.length=ps.length→ps.filterMap (fun n=>((ps.zip vals).lookup n).map (n,·))=ps.zip vals
  | [],vals,_,_=>by simp
  | p :: ps,[],_,hl=>by simp at hl
  | p :: ps,v :: vals,hn,hl=>by
    rw [List.nodup_cons] at hn
    rw [List.zip_cons_cons,List.filterMap_cons]
    have e0:(((p,v) :: ps.zip vals).lookup p)=some v:=by simp
    rw [e0]
    simp only [Option.map_some]
    congr 1
    have e1:ps.filterMap (fun n=>(((p,v) :: ps.zip vals).lookup n).map (n,·))=ps.filterMap (fun n=>((ps.zip vals).lookup n).map (n,·)):=by
      have:∀ qs:List Str,p ∉ qs→qs.filterMap (fun n=>(((p,v) :: ps.zip vals).lookup n).map (n,·))=qs.filterMap (fun n=>((ps.zip vals).lookup n).map (n,·)):=by
        intro qs
        induction qs with
        | nil=>intro _; rfl
        | cons a qs ih =>
          intro h
          rw [List.mem_cons,not_or] at h
          have:(a == p)=false:=by
            rw [beq_eq_false_iff_ne]
            exact fun e=>h.1 e.symm
          rw [List.filterMap_cons,List.filterMap_cons,List.lookup_cons,this,ih h.2]
      exact this ps hn.1
    rw [e1]
    exact zip_back hn.2 (by simpa using hl)

theorem ite_no {α:Type} {c:Bool} {a b x:Sem α} (h:c=false) (e:b=x):(if c=true then a else b)=x:=by
  rw [h]; exact e
theorem for_no {α β γ:Type} {l:List α} {b:β} {f:α→β→Sem (ForInStep β)} {k:β→Sem γ} {x:Sem γ} (h:l=[]) (e:k b=x):(forIn l b f >>= k)=x:=by
  rw [h]; exact e
theorem bind_plain {fd:FuncData} {as:List Arg} {vals:List Value} (hp:fd.params=⟨[],as,none,[],[],none,[]⟩) (hd:fd.defaults=.none) (hn:(as.map (·.arg)).Nodup) (hl:vals.length=(as.map (·.arg)).length) :
    bindArgs fd ⟨vals,[]⟩=pure ((as.map (·.arg)).zip vals):=by
  have hm:∀ k,(((as.map (·.arg)).take k).filter fun n=>(((as.map (·.arg)).zip vals).lookup n).isNone)=[]:=fun k=>List.filter_eq_nil_iff.mpr fun n h=>by
    rw [Option.isNone_eq_false_iff.mpr (zip_lookup_some hl n (List.mem_of_mem_take h))]
    exact Bool.false_ne_true
  have hg:(decide (vals.length > (as.map (·.arg)).length) && true)=false:=by rw [hl]; simp
  have hz:=zip_back hn hl
  cases fd
  dsimp only at hp hd
  subst hp hd
  refine ite_no hg (ite_no ?_ ?_)
  · show (!(((as.map (·.arg)).take _).filter fun n=>(((as.map (·.arg)).zip vals).lookup n).isNone).isEmpty)=false
    rw [hm]; rfl
  · refine for_no (show List.zip _ (List.drop _ [])=[] by rw [List.drop_nil,List.zip_nil_right]) ?_
    show (pure ((as.map Arg.arg++[]).filterMap fun n=>(((as.map Arg.arg).zip vals).lookup n).map (n,·)):Sem _)=_
    rw [List.append_nil,hz]
noncomputable def asFn:Data→Option FuncData
  | .func fd=>some fd
  | _=>none
theorem asFn_ok {d:Data} {fd:FuncData} (h:asFn d=some fd):d=.func fd:=by cases d <;> cases h; rfl
noncomputable def asFl:Data→Array Value
  | .fields vs=>vs
  | _=>#[]
noncomputable def isFl:Data→Bool
  | .fields _=>true
  | _=>false
theorem isFl_ok {d:Data} (h:isFl d=true):d=.fields (asFl d):=by cases d <;> first | rfl | cases h
noncomputable def asRf:Value→Addr
  | .ref a=>a
  | _=>0
noncomputable def asTx:Value→Str × Nat
  | .str s t=>(s,t)
  | _=>(⟨#[]⟩,0)
noncomputable def fdAt (K:Frag) (a:Addr):Option FuncData:=(K.lookup a).bind fun o=>asFn o.data
noncomputable def ckCodeRec (K:Frag) (cv:Value) (q:Str):Bool:=decide (cv=.ref (asRf cv)) && (K.lookup (asRf cv)).any fun o=>isFl o.data && (asFl o.data)[1]?.any fun v=>decide (v=.str q (asTx v).2)
noncomputable def bodyOf:FuncBody→List Stmt
  | .stmts l=>l
  | _=>[]
noncomputable def isStmts:FuncBody→Bool
  | .stmts _=>true
  | _=>false
theorem isStmts_ok {b:FuncBody} (h:isStmts b=true):b=.stmts (bodyOf b):=by cases b <;> first | rfl | cases h
noncomputable def mkF (fd:FuncData) (names:List Str):FnSp :=
  ⟨fd.scope,names.map fun x=>(fd.scope.names.lookup x).map fun kd=>(x,kd),fd.params.args.map (·.arg),bodyOf fd.body,fd.code,fd.qualname++".<locals>."⟩
noncomputable def ckSp (F:FnSp):Bool :=
  decide (F.scope.kind=.function) && !F.scope.isCoroutine && !F.scope.isGenerator &&
  (allSl F.sl fun _ x kd=>decide (F.scope.names.lookup x=some kd)) && ckInj F.sl && decide (cellNs F.scope.names).Nodup &&
  ((List.range F.ps.length).all fun k=>(F.ps[k]?).all fun x=>ckSt F.sq k x) && decide (F.ps.length ≤ F.sl.length)
noncomputable def parOK (p:Arguments):Bool:=p.posonlyargs.isEmpty && p.vararg.isNone && p.kwonlyargs.isEmpty && p.kw_defaults.isEmpty && p.kwarg.isNone && p.defaults.isEmpty
theorem par_ok {p:Arguments} (h:parOK p=true):p=⟨[],p.args,none,[],[],none,[]⟩:=by
  obtain ⟨a,b,c,d,e,f,g⟩:=p
  obtain rfl:a=[]:=List.isEmpty_iff.mp (l_ (l_ (l_ (l_ (l_ h)))))
  obtain rfl:c=none:=Option.isNone_iff_eq_none.mp (r_ (l_ (l_ (l_ (l_ h)))))
  obtain rfl:d=[]:=List.isEmpty_iff.mp (r_ (l_ (l_ (l_ h))))
  obtain rfl:e=[]:=List.isEmpty_iff.mp (r_ (l_ (l_ h)))
  obtain rfl:f=none:=Option.isNone_iff_eq_none.mp (r_ (l_ h))
  obtain rfl:g=[]:=List.isEmpty_iff.mp (r_ h)
  rfl
noncomputable def isNone:Value→Bool
  | .none=>true
  | _=>false
theorem isNone_ok {v:Value} (h:isNone v=true):v=.none:=by cases v <;> first | rfl | cases h
noncomputable def ckFd (K:Frag) (fd:FuncData) (names:List Str):Bool :=
  ckSp (mkF fd names) && isStmts fd.body && decide (fd.globals=mainGlobals) && decide (fd.builtins=builtinsNs) && fd.closure.isEmpty && parOK fd.params && decide (fd.params.args.map (·.arg)).Nodup && isNone fd.defaults && ckCodeRec K fd.code fd.qualname
noncomputable def ckCq (F:FnSp) (cq:CQ):Bool:=cq.all fun p=>decide (F.code=.ref p.1) && decide (F.qual=p.2)
noncomputable def ckFn (K:Frag) (Kc:Ck) (fn:Fn) (a:Addr) (names:List Str) (cq:CQ):Bool:=(fdAt K a).any fun fd=>ckFd K fd names && decide (fn.kind ≠ 1) && decide ((mkF fd names).ps.length=fn.np) && cSs Kc fn.body cq (mkF fd names).sq (mkF fd names).body && ckCq (mkF fd names) cq

theorem ckSp_ok {F:FnSp} (h:ckSp F=true):F.OK :=
  ⟨d_ (l_ (l_ (l_ (l_ (l_ (l_ (l_ h))))))),n_ (r_ (l_ (l_ (l_ (l_ (l_ (l_ h))))))),n_ (r_ (l_ (l_ (l_ (l_ (l_ h)))))),fun _ _ _ e=>d_ (allSl_ok (r_ (l_ (l_ (l_ (l_ h))))) e),ckInj_ok (r_ (l_ (l_ (l_ h)))),d_ (r_ (l_ (l_ h))),fun k x e=>ckSt_ok (by
    have:=List.all_eq_true.mp (r_ (l_ h)) k (List.mem_range.mpr (List.getElem?_eq_some_iff.mp e).1)
    rw [e] at this
    exact this),d_ (r_ h)⟩
theorem fdAt_look {K:Frag} {a:Addr} {fd:FuncData} (e:fdAt K a=some fd):∃ o,K.lookup a=some o∧o.data=.func fd :=
  (Option.bind_eq_some_iff.mp e).elim fun o x=>⟨o,x.1,asFn_ok x.2⟩
theorem fdAt_ok {K:Frag} {a:Addr} {fd:FuncData} {h:Heap} (X:K.In h) (e:fdAt K a=some fd):∃ o,h.get? a=some o∧o.data=.func fd :=
  (fdAt_look e).elim fun o x=>⟨o,X _ _ x.1,x.2⟩
theorem ckCodeRec_ok {K:Frag} {cv:Value} {q:Str} {h:Heap} (X:K.In h) (e:ckCodeRec K cv q=true):h.CodeRec cv q:=by
  refine Xeaa (any_ok (r_ e)) fun o h1 h2=>?_
  refine Xeaa (any_ok (r_ h2)) fun v h3 h4=>?_
  exact ⟨_,_,_,_,d_ (l_ e),X _ _ h1,isFl_ok (l_ h2),h3.trans (congrArg some (d_ h4))⟩

theorem ckFd_ok {C:Cst} {fd:FuncData} {names:List Str} {a:Addr} (X:C.K.In C.h₀) (lim:C.h₀.NoLimit) (e:fdAt C.K a=some fd) (h:ckFd C.K fd names=true):(mkF fd names).OK∧FnAt C a (mkF fd names):=by
  simp only [ckFd,Bool.and_eq_true,decide_eq_true_eq] at h
  obtain ⟨⟨⟨⟨⟨⟨⟨⟨h1,h2⟩,h3⟩,h4⟩,h5⟩,h6⟩,h7⟩,h8⟩,h9⟩:=h
  refine Xeaa (fdAt_ok X e) fun o ho hd=>?_
  exact ⟨ckSp_ok h1,⟨⟨o,fd,ho,hd,rfl,isStmts_ok h2,h3,h4,List.isEmpty_iff.mp h5,ckCodeRec_ok X h9,rfl,rfl,fun vals hl=>bind_plain (par_ok h6) (isNone_ok h8) h7 hl⟩,lim⟩⟩

noncomputable def bodyAt (K:Frag) (a:Addr):List Stmt:=match fdAt K a with
  | some fd=>bodyOf fd.body
  | none=>[]
theorem bodyAt_of {K:Frag} {a:Addr} {fd:FuncData} (e:fdAt K a=some fd):bodyAt K a=bodyOf fd.body:=by unfold bodyAt; rw [e]
theorem ckFn_parts {C:Cst} {Kc:Ck} {fn:Fn} {a:Addr} {names:List Str} {cq:CQ} (X:C.K.In C.h₀) (lim:C.h₀.NoLimit) (h:ckFn C.K Kc fn a names cq=true) (hb:bSs fn.body (bodyAt C.K a)=bodyAt C.K a) :
    ∃ F,fn.kind ≠ 1∧F.OK∧FnAt C a F∧F.ps.length=fn.np∧cSs Kc fn.body cq F.sq F.body=true∧bSs fn.body F.body=F.body∧AtC cq F.code F.qual:=by
  refine Xeaa (any_ok h) fun fd e h=>?_
  rw [bodyAt_of e] at hb
  have g:=ckFd_ok X lim e (l_ (l_ (l_ (l_ h))))
  refine ⟨mkF fd names,d_ (r_ (l_ (l_ (l_ h)))),g.1,g.2,d_ (r_ (l_ (l_ h))),r_ (l_ h),hb,fun c q z=>?_⟩
  subst z
  have h:=r_ h
  exact ⟨d_ (l_ h),d_ (r_ h)⟩
theorem ckFn_ok {C:Cst} {Kc:Ck} {T:Nat→Fn} {f:Nat} {names:List Str} {cq:CQ} (X:C.K.In C.h₀) (lim:C.h₀.NoLimit) (h:ckFn C.K Kc (T f) (C.fa f) names cq=true) (hb:bSs (T f).body (bodyAt C.K (C.fa f))=bodyAt C.K (C.fa f)):FnOK Kc C T f :=
  (ckFn_parts X lim h hb).elim fun F x=>.plain F cq x.1 x.2.1 x.2.2.1 x.2.2.2.1 x.2.2.2.2.1 x.2.2.2.2.2.1 x.2.2.2.2.2.2
noncomputable def asDc:Data→Option (Array DictEntry × Nat)
  | .dict es n=>some (es,n)
  | _=>none
theorem asDc_ok {d:Data} {p:Array DictEntry × Nat} (h:asDc d=some p):d=.dict p.1 p.2:=by cases d <;> cases h; rfl
noncomputable def asSq:Data→Option (Array Value × Nat)
  | .seq xs n=>some (xs,n)
  | _=>none
theorem asSq_ok {d:Data} {p:Array Value × Nat} (h:asSq d=some p):d=.seq p.1 p.2:=by cases d <;> cases h; rfl
noncomputable def asTk:Value→Nat
  | .int _ t=>t
  | _=>0
noncomputable def dictAt (K:Frag) (a:Addr):Option (Array DictEntry):=(K.lookup a).bind fun o=>(asDc o.data).map (·.1)
noncomputable def strKeys (es:Array DictEntry):Bool:=es.toList.all fun e=>decide (e.key=.str (asTx e.key).1 (asTx e.key).2)
theorem strKeys_ok {es:Array DictEntry} (h:strKeys es=true):StrKeys es:=fun e he =>
  ⟨_,_,d_ (List.all_eq_true.mp h e (Array.mem_toList_iff.mpr he))⟩
theorem dictAt_ok {K:Frag} {a:Addr} {es:Array DictEntry} {h:Heap} (X:K.In h) (e:dictAt K a=some es):∃ o ep,h.get? a=some o∧o.data=.dict es ep :=
  (Option.bind_eq_some_iff.mp e).elim fun o x=>(Option.map_eq_some_iff.mp x.2).elim fun p y=>⟨o,p.2,X _ _ x.1,y.2 ▸ asDc_ok y.1⟩
theorem ns_of {K:Frag} {a:Addr} {es:Array DictEntry} {h:Heap} (X:K.In h) (e:dictAt K a=some es) (hs:strKeys es=true):h.Ns a (nsFind es) :=
  (dictAt_ok X e).elim fun o x=>x.elim fun ep y=>⟨o,es,ep,y.1,y.2,strKeys_ok hs,fun _=>rfl⟩
noncomputable def mgOf (K:Frag) (x:Str):Option Value:=(dictAt K mainGlobals).bind fun es=>nsFind es x
theorem mgOf_ok {K:Frag} {h:Heap} {mg:Str→Option Value} (X:K.In h) (hd:(dictAt K mainGlobals).isSome=true) (hn:h.Ns mainGlobals mg) (x:Str):mg x=mgOf K x:=by
  refine Xea (Option.isSome_iff_exists.mp hd) fun es e=>?_
  refine Xeeaa (dictAt_ok X e) fun o ep h1 h2=>?_
  refine Xeeeaaaa hn fun o' es' ep' g1 g2 _ g3=>?_
  cases h1.symm.trans g1
  cases h2.symm.trans g2
  unfold mgOf
  rw [e,Option.bind_some,g3]

noncomputable def seqAt (K:Frag) (t:String) (a:Addr):Option (List Value):=(K.lookup a).bind fun o=>if o.cls=.type t then (asSq o.data).map (·.1.toList) else none
noncomputable def dicAt (K:Frag) (a:Addr):Option (List DictEntry):=(K.lookup a).bind fun o=>if o.cls=.type "dict"∧o.dict=none∧o.slots.size=0 then (asDc o.data).map (·.1.toList) else none
noncomputable def intKeys:List DictEntry→List (Int × D)→Bool
  | [],l=>l.isEmpty
  | e :: es,l=>(l.head?.any fun p=>decide (e.key=.int p.1 (asTk e.key)) && decide (e.hash=hashInt p.1)) && intKeys es l.tail
noncomputable def txtKeys:List DictEntry→List (List Nat × D)→Bool
  | [],l=>l.isEmpty
  | e :: es,l=>(l.head?.any fun p=>decide (e.key=.str (mkS p.1) (asTx e.key).2)) && txtKeys es l.tail
mutual
noncomputable def relK (K:Frag):D→Value→Bool
  | .null,v=>decide (v=.none)
  | .bool b,v=>decide (v=.bool b)
  | .int i,v=>decide (v=.int i (asTk v))
  | .str s,v=>decide (v=.str (mkS s) (asTx v).2)
  | .tup l,v=>decide (v=.ref (asRf v)) && (seqAt K "tuple" (asRf v)).any fun xs=>relKs K l xs
  | .lst l,v=>decide (v=.ref (asRf v)) && (seqAt K "list" (asRf v)).any fun xs=>relKs K l xs
  | .dcI l,v=>decide (v=.ref (asRf v)) && (dicAt K (asRf v)).any fun es=>intKeys es l && decide (l.map (·.1)).Nodup && !(asRf v == sysModules) && relKi K l (es.map (·.val))
  | .dcS l,v=>decide (v=.ref (asRf v)) && (dicAt K (asRf v)).any fun es=>txtKeys es l && decide (l.map (·.1)).Nodup && !(asRf v == sysModules) && decide (asRf v ∈ [232,233]) && relKt K l (es.map (·.val))
noncomputable def relKs (K:Frag):List D→List Value→Bool
  | [],vs=>vs.isEmpty
  | d :: l,vs=>!vs.isEmpty && relK K d (vs.headD .none) && relKs K l vs.tail
noncomputable def relKi (K:Frag):List (Int × D)→List Value→Bool
  | [],vs=>vs.isEmpty
  | (_,d) :: l,vs=>!vs.isEmpty && relK K d (vs.headD .none) && relKi K l vs.tail
noncomputable def relKt (K:Frag):List (List Nat × D)→List Value→Bool
  | [],vs=>vs.isEmpty
  | (_,d) :: l,vs=>!vs.isEmpty && relK K d (vs.headD .none) && relKt K l vs.tail
end
noncomputable def keyH (w:World):Value→Int
  | .str s _=>hashStr w s
  | _=>0
noncomputable def HashAt (K:Frag) (w:World) (a:Addr):Prop:=(dicAt K a).map (fun es=>es.map (·.hash))=(dicAt K a).map (fun es=>es.map fun e=>keyH w e.key)

section
variable {prog:Program} {w:World} {K:Frag} {h:Heap}
theorem seqAt_ok {t:String} {a:Addr} {xs:List Value} (X:K.In h) (e:seqAt K t a=some xs):∃ o,h.get? a=some o∧o.cls=.type t∧∃ n,o.data=.seq xs.toArray n :=
  (Option.bind_eq_some_iff.mp e).elim fun o x=>by
    have y:=x.2
    by_cases hc:o.cls=.type t
    · rw [if_pos hc] at y
      refine Xeaa (Option.map_eq_some_iff.mp y) fun p z zz1=>?_; subst zz1
      exact ⟨o,X _ _ x.1,hc,p.2,asSq_ok z⟩
    · exact nsm (if_neg hc) y
theorem dicAt_ok {a:Addr} {xs:List DictEntry} (X:K.In h) (e:dicAt K a=some xs):∃ o n,h.get? a=some o∧o.ExactDict∧o.data=.dict xs.toArray n :=
  (Option.bind_eq_some_iff.mp e).elim fun o x=>by
    have y:=x.2
    by_cases hc:o.cls=.type "dict"∧o.dict=none∧o.slots.size=0
    · rw [if_pos hc] at y
      refine Xeaa (Option.map_eq_some_iff.mp y) fun p z zz1=>?_; subst zz1
      exact ⟨o,p.2,X _ _ x.1,⟨hc.1,hc.2.1,Array.eq_empty_of_size_eq_zero hc.2.2⟩,asDc_ok z⟩
    · exact nsm (if_neg hc) y
theorem intKeys_ok:∀ {es:List DictEntry} {l:List (Int × D)},intKeys es l=true→(∀ e ∈ es,∃ k,(intKind prog w).is k e.key=true∧e.hash=(intKind prog w).hash k)∧Pairs (intKind prog w) es ((l.map (·.1)).zip (es.map (·.val)))∧es.length=l.length
  | [],[],_=>⟨fun e he=>(nomatch he),.nil,rfl⟩
  | e :: es,p :: l,q=>by
    have x:=intKeys_ok (r_ q)
    have y:(decide (e.key=.int p.1 (asTk e.key)) && decide (e.hash=hashInt p.1))=true:=l_ q
    have hk:(intKind prog w).is p.1 e.key=true:=by rw [d_ (l_ y)]; simp [intKind,Value.isInt]
    exact ⟨fun e' he=>(List.mem_cons.mp he).elim (fun z=>z ▸ ⟨p.1,hk,d_ (r_ y)⟩) (x.1 e'),.cons hk rfl x.2.1,congrArg (· + 1) x.2.2⟩
theorem txtKeys_ok:∀ {es:List DictEntry} {l:List (List Nat × D)},txtKeys es l=true→(∀ e ∈ es,e.hash=keyH w e.key)→(∀ e ∈ es,∃ k,(PySem.strKind prog w).is k e.key=true∧e.hash=(PySem.strKind prog w).hash k)∧Pairs (PySem.strKind prog w) es ((l.map fun p=>mkS p.1).zip (es.map (·.val)))∧es.length=l.length
  | [],[],_,_=>⟨fun e he=>(nomatch he),.nil,rfl⟩
  | e :: es,p :: l,q,hh=>by
    have x:=txtKeys_ok (r_ q) fun e he=>hh e (.tail _ he)
    have y:e.key=.str (mkS p.1) (asTx e.key).2:=d_ (l_ q)
    have hk:(PySem.strKind prog w).is (mkS p.1) e.key=true:=by rw [y]; simp [PySem.strKind,Value.isStrOf]
    have hH:e.hash=(PySem.strKind prog w).hash (mkS p.1):=(hh e (.head _)).trans (by rw [y]; rfl)
    exact ⟨fun e' he=>(List.mem_cons.mp he).elim (fun z=>z ▸ ⟨_,hk,hH⟩) (x.1 e'),.cons hk rfl x.2.1,congrArg (· + 1) x.2.2⟩

theorem zip_map1 {α β γ:Type} {l:List α} {vs:List β} (f:α→γ) (h:l.length=vs.length):((l.map f).zip vs).map (·.1)=l.map f:=by
  rw [← List.unzip_fst,List.unzip_zip (by rw [List.length_map]; exact h)]
theorem zip_map2 {α β γ:Type} {l:List α} {vs:List β} (f:α→γ) (h:l.length=vs.length):((l.map f).zip vs).map (·.2)=vs:=by
  rw [← List.unzip_snd,List.unzip_zip (by rw [List.length_map]; exact h)]
theorem dcI_ok (X:K.In h) {l:List (Int × D)} {a:Addr} (ih:∀ vs,relKi K l vs=true→RelDs prog w h (l.map (·.2)) vs)
    (e:((dicAt K a).any fun es=>intKeys es l && decide (l.map (·.1)).Nodup && !(a == sysModules) && relKi K l (es.map (·.val)))=true):RelD prog w h (.dcI l) (.ref a):=by
  refine Xeaa (any_ok e) fun es q e=>?_
  refine Xeeaaa (dicAt_ok X q) fun o n h1 h2 h3=>?_
  have g:=intKeys_ok (prog:=prog) (w:=w) (l_ (l_ (l_ e)))
  have hl:l.length=(es.map (·.val)).length:=(g.2.2.symm.trans (List.length_map ..).symm)
  refine .dcI (kvs:=(l.map (·.1)).zip (es.map (·.val))) (n_ (r_ (l_ e))) ⟨o,_,n,h1,h2,h3,fun e he=>g.1 e (by simpa using he),g.2.1,?_⟩ (zip_map1 _ hl) ?_
  · rw [zip_map1 _ hl]; exact d_ (r_ (l_ (l_ e)))
  · rw [zip_map2 _ hl]; exact ih _ (r_ e)
theorem dcS_ok (X:K.In h) (hh:∀ a ∈ [232,233],HashAt K w a) {l:List (List Nat × D)} {a:Addr} (ih:∀ vs,relKt K l vs=true→RelDs prog w h (l.map (·.2)) vs)
    (e:((dicAt K a).any fun es=>txtKeys es l && decide (l.map (·.1)).Nodup && !(a == sysModules) && decide (a ∈ [232,233]) && relKt K l (es.map (·.val)))=true):RelD prog w h (.dcS l) (.ref a):=by
  refine Xeaa (any_ok e) fun es q e=>?_
  refine Xeeaaa (dicAt_ok X q) fun o n h1 h2 h3=>?_
  have hH:=hh _ (d_ (r_ (l_ e)))
  unfold HashAt at hH
  rw [q] at hH
  have g:=txtKeys_ok (prog:=prog) (w:=w) (l_ (l_ (l_ (l_ e)))) (List.map_inj_left.mp (Option.some.inj hH))
  have hl:l.length=(es.map (·.val)).length:=(g.2.2.symm.trans (List.length_map ..).symm)
  refine .dcS (kvs:=(l.map fun p=>mkS p.1).zip (es.map (·.val))) (n_ (r_ (l_ (l_ e)))) ⟨o,_,n,h1,h2,h3,fun e he=>g.1 e (by simpa using he),g.2.1,?_⟩ (zip_map1 _ hl) ?_
  · rw [zip_map1 _ hl]
    have:=nodup_mkS (d_ (r_ (l_ (l_ (l_ e)))))
    rwa [List.map_map] at this
  · rw [zip_map2 _ hl]; exact ih _ (r_ e)

mutual
theorem relK_ok (X:K.In h) (hh:∀ a ∈ [232,233],HashAt K w a):∀ (d:D) (v:Value),relK K d v=true→RelD prog w h d v
  | .null,_,e=>(d_ e:_=_) ▸ .null
  | .bool _,_,e=>(d_ e:_=_) ▸ .bool _
  | .int _,_,e=>(d_ e:_=_) ▸ .int _ _
  | .str _,_,e=>(d_ e:_=_) ▸ .str _ _
  | .tup l,_,e=>(d_ (l_ e):_=_) ▸ (any_ok (r_ e)).elim fun xs y=>.tup (seqAt_ok X y.1) (relKs_ok X hh l xs y.2)
  | .lst l,_,e=>(d_ (l_ e):_=_) ▸ (any_ok (r_ e)).elim fun xs y=>.lst (seqAt_ok X y.1) (relKs_ok X hh l xs y.2)
  | .dcI l,_,e=>(d_ (l_ e):_=_) ▸ dcI_ok X (relKi_ok X hh l) (r_ e)
  | .dcS l,_,e=>(d_ (l_ e):_=_) ▸ dcS_ok X hh (relKt_ok X hh l) (r_ e)
theorem relKs_ok (X:K.In h) (hh:∀ a ∈ [232,233],HashAt K w a):∀ (l:List D) (vs:List Value),relKs K l vs=true→RelDs prog w h l vs
  | [],[],_=>.nil
  | d :: l,_ :: vs,e=>.cons (relK_ok X hh d _ (r_ (l_ e))) (relKs_ok X hh l vs (r_ e))
theorem relKi_ok (X:K.In h) (hh:∀ a ∈ [232,233],HashAt K w a):∀ (l:List (Int × D)) (vs:List Value),relKi K l vs=true→RelDs prog w h (l.map (·.2)) vs
  | [],[],_=>.nil
  | (_,d) :: l,_ :: vs,e=>.cons (relK_ok X hh d _ (r_ (l_ e))) (relKi_ok X hh l vs (r_ e))
theorem relKt_ok (X:K.In h) (hh:∀ a ∈ [232,233],HashAt K w a):∀ (l:List (List Nat × D)) (vs:List Value),relKt K l vs=true→RelDs prog w h (l.map (·.2)) vs
  | [],[],_=>.nil
  | (_,d) :: l,_ :: vs,e=>.cons (relK_ok X hh d _ (r_ (l_ e))) (relKt_ok X hh l vs (r_ e))
end
end
noncomputable def ckGlobs (K:Frag):Bool:=(List.range 16).all fun g=>(nmG g).all fun x=>(mgOf K x).any fun v=>relK K (gT g) v
noncomputable def isRef (v:Option Value) (a:Addr):Bool:=decide (v=some (.ref a))
noncomputable def isRef2 (v:Option (Option Value)) (a:Addr):Bool:=decide (v=some (some (.ref a)))
noncomputable def isTy (v:Option Value) (t:String):Bool:=decide (v=some (.type t))
noncomputable def isBi2 (v:Option (Option Value)) (t:String):Bool:=decide (v=some (some (.builtin t)))
noncomputable def isNo (v:Option (Option Value)):Bool:=decide (v=some none)
theorem isRef_ok {v:Option Value} {a:Addr} (h:isRef v a=true):v=some (.ref a):=d_ h
theorem isRef2_ok {v:Option (Option Value)} {a:Addr} (h:isRef2 v a=true):v=some (some (.ref a)):=d_ h
theorem isTy_ok {v:Option Value} {t:String} (h:isTy v t=true):v=some (.type t):=d_ h
theorem isBi2_ok {v:Option (Option Value)} {t:String} (h:isBi2 v t=true):v=some (some (.builtin t)):=d_ h
theorem isNo_ok {v:Option (Option Value)} (h:isNo v=true):v=some none:=d_ h

noncomputable def ckFns (K:Frag):Bool:=(List.range 42).all fun f=>(nmF f).all fun x=>isRef (mgOf K x) (faT f) && keepIn K (.ref (faT f))
noncomputable def biL:List Bi:=[.len,.ord,.chr,.int,.max,.min,.tuple,.list,.sorted,.any]
noncomputable def ckNones (K:Frag):Bool:=(biL.all fun b=>(mgOf K (biN b)).isNone) && (mgOf K "range").isNone && (mgOf K "zip").isNone
noncomputable def ckRd (K:Frag):Bool :=
  isBi2 (findIn K (.ref 389) "__getattribute__") "object.__getattribute__" && isNo (findIn K (.ref 389) "__getattr__") && isBi2 (findIn K (.ref 389) "__setattr__") "object.__setattr__" && plainOver K 389 && (clsIn K 389).any (·.hasDict) &&
  (attrN.all fun x=>isNo (findIn K (.ref 389) x)) &&
  ((List.range 42).all fun f=>(nmM f).all fun x=>isRef2 (findIn K (.ref 389) x) (faT f) && isTy (typeIn K (.ref (faT f))) "function" && keepIn K (.ref (faT f)) && attrN.all (fun y=>!(y == x)))
noncomputable def slfB (nm:Str) (a:Stmt):Stmt:=.Assign [.Attribute (.Name "self" (xKid (xS a 1) 0).pos) nm (xS a 1).pos] (.Name nm (xS a 0).pos) (xP a)
noncomputable def zerB (nm:Str) (a:Stmt):Stmt:=.Assign [.Attribute (.Name "self" (xKid (xS a 1) 0).pos) nm (xS a 1).pos] (.Constant (.int 0) (xK (xS a 0)) (xS a 0).pos) (xP a)
noncomputable def mkBd (l:List Stmt):List Stmt:=[slfB "text" (l.getD 0 xSt),zerB "at" (l.getD 1 xSt),zerB "groups" (l.getD 2 xSt),zerB "farthest_back" (l.getD 3 xSt)]
noncomputable def jfBd (l:List Stmt):List Stmt:=[slfB "kind" (l.getD 0 xSt),slfB "text" (l.getD 1 xSt)]
noncomputable def faBd (l:List Stmt):List Stmt:=[.Raise (some (.Call (.Name "JSFail" (xKid (xS (l.getD 0 xSt) 0) 0).pos) [.Constant (.str "SyntaxError") (xK (xKid (xS (l.getD 0 xSt) 0) 1)) (xKid (xS (l.getD 0 xSt) 0) 1).pos,.Name "text" (xKid (xS (l.getD 0 xSt) 0) 2).pos] [] (xS (l.getD 0 xSt) 0).pos)) none (xP (l.getD 0 xSt))]
noncomputable def xHt (s:Stmt):Pos × List Stmt × Pos:=match s with
  | .Try _ [.ExceptHandler (some t) _ b p] _ _ _=>(t.pos,b,p)
  | _=>(default,[],default)
noncomputable def heBd (l:List Stmt):List Stmt:=[.Assign [.Name "found" (xS (l.getD 0 xSt) 1).pos] (.Constant .none (xK (xS (l.getD 0 xSt) 0)) (xS (l.getD 0 xSt) 0).pos) (xP (l.getD 0 xSt)),
  .Try [.Assign [.Name "found" (xS ((xB (l.getD 1 xSt)).getD 0 xSt) 1).pos] (.Call (.Name "work" (xKid (xS ((xB (l.getD 1 xSt)).getD 0 xSt) 0) 0).pos) [] [] (xS ((xB (l.getD 1 xSt)).getD 0 xSt) 0).pos) (xP ((xB (l.getD 1 xSt)).getD 0 xSt))]
    [.ExceptHandler (some (.Name "JSFail" (xHt (l.getD 1 xSt)).1)) (some "wrong") [.Assign [.Name "found" (xS ((xHt (l.getD 1 xSt)).2.1.getD 0 xSt) 1).pos] (.Attribute (.Name "wrong" (xKid (xS ((xHt (l.getD 1 xSt)).2.1.getD 0 xSt) 0) 0).pos) "kind" (xS ((xHt (l.getD 1 xSt)).2.1.getD 0 xSt) 0).pos) (xP ((xHt (l.getD 1 xSt)).2.1.getD 0 xSt))] (xHt (l.getD 1 xSt)).2.2] [] [] (xP (l.getD 1 xSt)),
  .Return (some (.Name "found" (xS (l.getD 2 xSt) 0).pos)) (xP (l.getD 2 xSt))]
noncomputable def ckInitOf (K:Frag) (fd:FuncData) (ps:List Str):Bool :=
  isStmts fd.body && parOK fd.params && decide (fd.params.args.map (·.arg)=ps) && isNone fd.defaults && ckCodeRec K fd.code fd.qualname && decide (fd.scope.kind=.function) && !fd.scope.isCoroutine && !fd.scope.isGenerator &&
  (fd.scope.names.all fun x=>decide (x.2 ≠ .cell)) && (ps.all fun p=>decide (fd.scope.names.lookup p=some .local))
noncomputable def ckMk (K:Frag):Bool:=isRef (mgOf K "PatternReader") 389 && keepIn K (.ref 389) && makesIn K 389 && isRef2 (findIn K (.ref 389) "__init__") 281 && isTy (typeIn K (.ref 281)) "function" &&
  (fdAt K 281).any fun fd=>ckInitOf K fd ["self","text"]
noncomputable def ckPass (K:Frag) (cl:Addr):Bool:=(clsIn K cl).any (·.hasDict) && isBi2 (findIn K (.ref cl) "__setattr__") "object.__setattr__"
noncomputable def ckJF (K:Frag):Bool:=isRef (mgOf K "JSFail") 228 && keepIn K (.ref 228) && isNo (findIn K (.ref 228) "kind") && isNo (findIn K (.ref 228) "text") &&
  isBi2 (findIn K (.ref 228) "__getattribute__") "BaseException.__getattribute__" && isNo (findIn K (.ref 228) "__getattr__") && (mroIn K 228 (.type "BaseException") == some true) && (clsIn K 228).any (·.hasDict) &&
  ((dictAt K 227).any fun es=>strKeys es && isRef (nsFind es "__init__") 225) &&
  ((fdAt K 225).any fun fd=>ckInitOf K fd ["self","kind","text"])
noncomputable def ckFail (K:Frag) (fn:Fn):Bool:=(fdAt K 253).any fun fd=>ckFd K fd ["text"] && decide (fn.kind=1) && decide ((mkF fd ["text"]).ps=[("text":Str)]) && decide (fd.scope.names.lookup ("JSFail":Str)=some NameKind.globalImplicit) && decide ((mkF fd ["text"]).sl[0]?=some (some (("text":Str),NameKind.local)))
noncomputable def ckHeard (K:Frag):Bool:=(fdAt K 428).any fun fd=>ckFd K fd ["work","found","wrong"] && decide ((mkF fd ["work","found","wrong"]).ps=[("work":Str)]) && decide ((mkF fd ["work","found","wrong"]).sl=[some (("work":Str),NameKind.local),some (("found":Str),NameKind.local),some (("wrong":Str),NameKind.local)]) && decide (cellNs fd.scope.names=[]) &&
    decide (fd.scope.names.lookup ("JSFail":Str)=some NameKind.globalImplicit) && isRef (mgOf K "_law_heard") 428 && keepIn K (.ref 428)
noncomputable def kc:Ck:=⟨⟨nmG,nmF⟩,nmM,[(434,"_law_pair_right.<locals>.<lambda>"),(449,"law.<locals>.<lambda>")]⟩
noncomputable def cqT:Nat→CQ
  | 38=>some (434,"_law_pair_right.<locals>.")
  | 41=>some (449,"law.<locals>.")
  | _=>none
noncomputable def ckDefs (K:Frag):Bool:=(List.range 42).all fun f=>f == 16 || ckFn K kc (fT f) (faT f) (slT f) (cqT f)

structure KF (K:Frag) (w:World):Prop where
  main:(dictAt K mainGlobals).isSome=true
  globs:ckGlobs K=true
  fns:ckFns K=true
  nones:ckNones K=true
  rd:ckRd K=true
  mk':ckMk K=true
  pass1:ckPass K 389=true
  mro1:(clsIn K 389).map (·.mro)=some [.ref 389,.type "object"]
  pass2:ckPass K 228=true
  mro2:(clsIn K 228).map (·.mro)=some [.ref 228,.type "Exception",.type "BaseException",.type "object"]
  jf:ckJF K=true
  cls:∃ nm q sn sub ab col dd k0 k1 k2 k3 k5,K.lookup 228=some (excClassObj nm q 228 227 [.type "Exception"] [.type "Exception",.type "BaseException",.type "object"] true sn sub ab col dd k0 k1 k2 k3 k5 "Exception.__new__")
  fail:ckFail K (fT 16)=true
  heard:ckHeard K=true
  defs:ckDefs K=true
  bds:(List.range 42).map (fun f=>if f == 16 then [] else bSs (fT f).body (bodyAt K (faT f)))=(List.range 42).map fun f=>if f == 16 then [] else bodyAt K (faT f)
  mkb:bodyAt K 281=mkBd (bodyAt K 281)
  jfc:(K.lookup 225).map (·.cls)=some (.type "function")
  jfb:bodyAt K 225=jfBd (bodyAt K 225)
  fab:bodyAt K 253=faBd (bodyAt K 253)
  heb:bodyAt K 428=heBd (bodyAt K 428)
  hash:∀ a ∈ [232,233],HashAt K w a
noncomputable def mkC (prog:Program) (w:World) (K:Frag) (h₀:Heap) (s₀:Shared) (mg mb:Str→Option Value):Cst :=
  { prog:=prog,w:=w,K:=K,h₀:=h₀,tabs:=[(434,430),(449,447)],s₀:=s₀,JF:=228,PR:=389,mg:=mg,mb:=mb,fa:=faT,lq:=fun c=>if c=434 then "_law_pair_right.<locals>.<lambda>" else "law.<locals>.<lambda>" }

structure Ctx (K:Frag) (h₀:Heap) (mg mb:Str→Option Value):Prop where
  kin:K.In h₀
  g:h₀.Ns mainGlobals mg
  b:h₀.Ns builtinsNs mb
  lim:h₀.NoLimit
  bt:∀ x:Str,x ≠ "__name__"→mb x=bootBuiltins x
  bmain:∃ bm ob,mg "__builtins__"=some (.ref bm)∧bm ≠ builtinsNs∧h₀.get? bm=some ob∧ob.cls=.type "module"∧ob.dict=some builtinsNs∧ob.data=.plain
  hd1:CodeHd h₀ 434 430
  hd2:CodeHd h₀ 449 447

theorem nmG_lt {g:Nat} {x:Str} (h:nmG g=some x):g < 16:=by
  rcases Nat.lt_or_ge g 16 with q | q
  · exact q
  · refine Xea (Nat.exists_eq_add_of_le q) fun n zz1=>?_; subst zz1
    rw [Nat.add_comm] at h
    have h:(none:Option Str)=some x:=h
    cases h
theorem nmF_lt {g:Nat} {x:Str} (h:nmF g=some x):g < 42:=by
  rcases Nat.lt_or_ge g 42 with q | q
  · exact q
  · refine Xea (Nat.exists_eq_add_of_le q) fun n zz1=>?_; subst zz1
    rw [Nat.add_comm] at h
    have h:(none:Option Str)=some x:=h
    cases h
theorem nmM_lt {g:Nat} {x:Str} (h:nmM g=some x):g < 42:=by
  rcases Nat.lt_or_ge g 42 with q | q
  · exact q
  · refine Xea (Nat.exists_eq_add_of_le q) fun n zz1=>?_; subst zz1
    rw [Nat.add_comm] at h
    have h:(none:Option Str)=some x:=h
    cases h
theorem all_range {n:Nat} {p:Nat→Bool} (h:(List.range n).all p=true) {k:Nat} (hk:k < n):p k=true:=List.all_eq_true.mp h k (List.mem_range.mpr hk)

section
variable {prog:Program} {w:World} {K:Frag} {h₀:Heap} {s₀:Shared} {mg mb:Str→Option Value}

theorem mb_bi:∀ b,bootBuiltins (biN b)=some (biF b):=by intro b; cases b <;> rfl
theorem biN_ne:∀ b,biN b ≠ "__name__":=by intro b; cases b <;> decide +kernel

theorem opt_all {α:Type} {o:Option α} {p:α→Bool} {a:α} (h:o.all p=true) (e:o=some a):p a=true:=by subst e; exact h
theorem cok_ok (kf:KF K w) (c:Ctx K h₀ mg mb):COK (mkC prog w K h₀ s₀ mg mb) gT kc.NM:=by
  have hm:=mgOf_ok c.kin kf.main c.g
  have none_:∀ x,(mgOf K x).isNone=true→mg x=none:=fun x h=>(hm x).trans (Option.isNone_iff_eq_none.mp h)
  have hn:=kf.nones
  refine ⟨c.g,c.b,c.kin,fun g x e=>?_,fun f x e=>?_,fun b=>⟨none_ _ (List.all_eq_true.mp (l_ (l_ hn)) b (by cases b <;> (repeat' first | exact List.Mem.head _ | apply List.Mem.tail))),?_⟩,⟨none_ _ (r_ (l_ hn)),?_⟩,⟨none_ _ (r_ hn),?_⟩⟩
  · refine Xeaa (any_ok (opt_all (p:=fun x=>(mgOf K x).any fun v=>relK K (gT g) v) (all_range kf.globs (nmG_lt e)) e)) fun v q r=>?_
    exact ⟨v,(hm x).trans q,relK_ok c.kin kf.hash _ _ r⟩
  · have:=opt_all (all_range kf.fns (nmF_lt e)) e
    exact ⟨(hm x).trans (isRef_ok (l_ this)),r_ this⟩
  · exact (c.bt _ (biN_ne b)).trans (mb_bi b)
  · exact (c.bt _ (by decide +kernel)).trans rfl
  · exact (c.bt _ (by decide +kernel)).trans rfl

theorem rok_ok (kf:KF K w):ROK (mkC prog w K h₀ s₀ mg mb) kc.NM kc.mN:=by
  have h:=kf.rd
  refine ⟨isBi2_ok (l_ (l_ (l_ (l_ (l_ (l_ h)))))),isNo_ok (r_ (l_ (l_ (l_ (l_ (l_ h)))))),isBi2_ok (r_ (l_ (l_ (l_ (l_ h))))),r_ (l_ (l_ (l_ h))),r_ (l_ (l_ h)),fun j x e=>isNo_ok (List.all_eq_true.mp (r_ (l_ h)) x (List.mem_of_getElem? e)),fun f x e=>?_⟩
  have:=opt_all (all_range (r_ h) (nmM_lt e)) e
  exact ⟨isRef2_ok (l_ (l_ (l_ this))),isTy_ok (r_ (l_ (l_ this))),r_ (l_ this),r_ this⟩

theorem init_ok {fd:FuncData} {ps:List Str} (X:K.In h₀) (hn:ps.Nodup) (h:ckInitOf K fd ps=true):fd.body=.stmts (bodyOf fd.body)∧(∀ vals:List Value,vals.length=ps.length→bindArgs fd ⟨vals,[]⟩=pure (ps.zip vals))∧h₀.CodeRec fd.code fd.qualname∧fd.scope.kind=.function ∧
    fd.scope.isCoroutine=false∧fd.scope.isGenerator=false∧(∀ x ∈ fd.scope.names,x.2 ≠ .cell)∧∀ p ∈ ps,fd.scope.names.lookup p=some .local:=by
  have h3:fd.params.args.map (·.arg)=ps:=d_ (r_ (l_ (l_ (l_ (l_ (l_ (l_ (l_ h))))))))
  subst h3
  exact ⟨isStmts_ok (l_ (l_ (l_ (l_ (l_ (l_ (l_ (l_ (l_ h))))))))),fun vals hl=>bind_plain (par_ok (r_ (l_ (l_ (l_ (l_ (l_ (l_ (l_ (l_ h)))))))))) (isNone_ok (r_ (l_ (l_ (l_ (l_ (l_ (l_ h)))))))) hn hl,ckCodeRec_ok X (r_ (l_ (l_ (l_ (l_ (l_ h)))))),d_ (r_ (l_ (l_ (l_ (l_ h))))),n_ (r_ (l_ (l_ (l_ h)))),n_ (r_ (l_ (l_ h))),all_d (r_ (l_ h)),all_d (r_ h)⟩
theorem pass_ok {cl:Addr} {l:List Value} (hm:(clsIn K cl).map (·.mro)=some l) (hr:∀ self,refuseLoop self "__setattr__" l=pure ()) (ho:l.contains (.type "object")=true) (h0:l.isEmpty=false) (h:ckPass K cl=true):PassOK K cl:=by
  refine Xeaa (any_ok (l_ h)) fun cd q h1=>?_
  rw [q] at hm
  obtain rfl:cd.mro=l:=Option.some.inj hm
  exact ⟨⟨cd,q,h1,hr,ho,h0⟩,isBi2_ok (r_ h)⟩

theorem mk_ok (kf:KF K w) (c:Ctx K h₀ mg mb):MkOK (mkC prog w K h₀ s₀ mg mb) kc.NM:=by
  have h:=kf.mk'
  refine Xeaa (any_ok (r_ h)) fun fd q hi=>?_
  refine Xeaa (fdAt_ok c.kin q) fun o ho hd=>?_
  have hb:=kf.mkb
  rw [bodyAt_of q] at hb
  have g:=init_ok c.kin (by decide +kernel) hi
  exact ⟨(mgOf_ok c.kin kf.main c.g _).trans (isRef_ok (l_ (l_ (l_ (l_ (l_ h)))))),r_ (l_ (l_ (l_ (l_ h)))),r_ (l_ (l_ (l_ h))),⟨281,o,fd,_,_,_,_,_,_,_,_,_,_,_,_,_,_,_,_,_,_,_,isRef2_ok (r_ (l_ (l_ h))),isTy_ok (r_ (l_ h)),ho,hd,g.2.2.1,g.1.trans (congrArg FuncBody.stmts hb),fun a b=>g.2.1 [a,b] rfl,g.2.2.2.1,g.2.2.2.2.1,g.2.2.2.2.2.1,g.2.2.2.2.2.2.1,g.2.2.2.2.2.2.2 _ (.head _),g.2.2.2.2.2.2.2 _ (.tail _ (.head _))⟩,
    pass_ok kf.mro1 (fun _=>rfl) rfl rfl kf.pass1,c.lim⟩

theorem jf_ok (kf:KF K w) (c:Ctx K h₀ mg mb):JFOK (mkC prog w K h₀ s₀ mg mb) kc.NM∧JFGet (mkC prog w K h₀ s₀ mg mb):=by
  have h:=kf.jf
  refine Xeaa (any_ok (r_ h)) fun fd q hi=>?_
  refine Xeaa (any_ok (r_ (l_ h))) fun es q1 h9=>?_
  refine Xeaa (fdAt_look q) fun o ho hd=>?_
  have hc:=kf.jfc
  rw [ho] at hc
  have hb:=kf.jfb
  rw [bodyAt_of q] at hb
  have g:=init_ok c.kin (by decide +kernel) hi
  refine Xeeeeeeeeeeeea (kf.cls) fun nm qn sn sub ab col dd k0 k1 k2 k3 k5 hC=>?_
  have h:=l_ (l_ h)
  have h7:mroIn K 228 (.type "BaseException")=some true:=by simpa using r_ (l_ h)
  exact ⟨⟨(mgOf_ok c.kin kf.main c.g _).trans (isRef_ok (l_ (l_ (l_ (l_ (l_ (l_ (l_ h)))))))),r_ (l_ (l_ (l_ (l_ (l_ (l_ h)))))),⟨nm,qn,227,[.type "Exception"],sn,sub,ab,col,dd,k0,k1,k2,k3,k5,c.kin _ _ hC,nsFind es,225,o,fd,_,_,_,_,_,_,_,_,ns_of c.kin q1 (l_ h9),isRef_ok (r_ h9),c.kin _ _ ho,Option.some.inj hc,hd,g.2.2.1,g.1.trans (congrArg FuncBody.stmts hb),fun a b d=>g.2.1 [a,b,d] rfl,g.2.2.2.1,g.2.2.2.2.1,g.2.2.2.2.2.1,g.2.2.2.2.2.2.1,g.2.2.2.2.2.2.2 _ (.head _),g.2.2.2.2.2.2.2 _ (.tail _ (.head _)),g.2.2.2.2.2.2.2 _ (.tail _ (.tail _ (.head _)))⟩,
    pass_ok kf.mro2 (fun _=>rfl) rfl rfl kf.pass2,isNo_ok (r_ (l_ (l_ (l_ (l_ (l_ h)))))),isNo_ok (r_ (l_ (l_ (l_ (l_ h))))),c.lim⟩,⟨isBi2_ok (r_ (l_ (l_ (l_ h)))),isNo_ok (r_ (l_ (l_ h))),h7,r_ h⟩⟩
end
section
variable {prog:Program} {w:World} {K:Frag} {h₀:Heap} {s₀:Shared} {mg mb:Str→Option Value}

theorem tab_ok (c:Ctx K h₀ mg mb):TabOK (mkC prog w K h₀ s₀ mg mb):=by
  refine ⟨fun q hq r hr e=>?_,fun q hq=>?_,?_⟩
  · have hq:q ∈ [((434:Addr),(430:Addr)),(449,447)]:=hq
    have hr:r ∈ [((434:Addr),(430:Addr)),(449,447)]:=hr
    simp only [List.mem_cons,List.not_mem_nil,or_false] at hq hr
    rcases hq with rfl | rfl <;> rcases hr with rfl | rfl <;> first | rfl | (exact absurd e (by decide))
  · have hq:q ∈ [((434:Addr),(430:Addr)),(449,447)]:=hq
    simp only [List.mem_cons,List.not_mem_nil,or_false] at hq
    rcases hq with rfl | rfl
    · exact c.hd1
    · exact c.hd2
  · refine Xeeaaaaaa (c.bmain) fun bm ob b1 b2 b3 b4 b5 b6=>?_
    refine ⟨bm,ob,b1,b2,fun z=>?_,b3,b4,b5,b6⟩
    refine Xeeeaaa (c.g) fun o es ep e1 e2 _=>?_
    rw [← z,b3] at e1; cases e1
    rw [b6] at e2; cases e2

theorem heard_at (kf:KF K w) (c:Ctx K h₀ mg mb):∃ fh F,HeardAt (mkC prog w K h₀ s₀ mg mb) fh F:=by
  refine Xeaa (any_ok kf.heard) fun fd q h=>?_
  have g:=ckFd_ok (C:=mkC prog w K h₀ s₀ mg mb) c.kin c.lim q (l_ (l_ (l_ (l_ (l_ (l_ h))))))
  have hb:=kf.heb
  rw [bodyAt_of q] at hb
  exact ⟨428,_,⟨⟨g.1,d_ (r_ (l_ (l_ (l_ (l_ (l_ h)))))),d_ (r_ (l_ (l_ (l_ (l_ h))))),d_ (r_ (l_ (l_ (l_ h)))),d_ (r_ (l_ (l_ h))),⟨_,_,_,_,_,_,_,_,_,_,_,_,_,_,_,_,_,hb⟩⟩,g.2,(mgOf_ok c.kin kf.main c.g _).trans (isRef_ok (r_ (l_ h))),r_ h⟩⟩

theorem base_ok (kf:KF K w) (c:Ctx K h₀ mg mb):CkBase kc (mkC prog w K h₀ s₀ mg mb) gT:=by
  refine ⟨cok_ok kf c,rok_ok kf,mk_ok kf c,(jf_ok kf c).1,(jf_ok kf c).2,tab_ok c,heard_at kf c,fun p hp=>?_⟩
  have hp:p ∈ [((434:Addr),("_law_pair_right.<locals>.<lambda>":Str)),(449,"law.<locals>.<lambda>")]:=hp
  simp only [List.mem_cons,List.not_mem_nil,or_false] at hp
  rcases hp with rfl | rfl
  · exact ⟨430,by simp [mkC],by simp [mkC]⟩
  · exact ⟨447,by simp [mkC],by simp [mkC]⟩

theorem fail_at (kf:KF K w) (c:Ctx K h₀ mg mb):FnOK kc (mkC prog w K h₀ s₀ mg mb) fT 16:=by
  refine Xeaa (any_ok kf.fail) fun fd q h=>?_
  have g:=ckFd_ok (C:=mkC prog w K h₀ s₀ mg mb) c.kin c.lim q (l_ (l_ (l_ (l_ h))))
  have hb:=kf.fab
  rw [bodyAt_of q] at hb
  exact .fail _ _ _ _ _ _ _ (d_ (r_ (l_ (l_ (l_ h))))) g.1 g.2 hb (d_ (r_ (l_ (l_ h)))) (d_ (r_ (l_ h))) (d_ (r_ h))
theorem law_fn (kf:KF K w) (c:Ctx K h₀ mg mb):∃ F,(fT 41).kind ≠ 1∧F.OK∧FnAt (mkC prog w K h₀ s₀ mg mb) 450 F∧F.ps.length=1∧cSs kc f_law (cqT 41) F.sq F.body=true∧bSs f_law F.body=F.body∧AtC (cqT 41) F.code F.qual :=
  ckFn_parts (fn:=fT 41) (C:=mkC prog w K h₀ s₀ mg mb) c.kin c.lim (all_range kf.defs (show 41 < 42 by decide)) (List.map_inj_left.mp kf.bds 41 (List.mem_range.mpr (by decide)))
theorem fns_ok (kf:KF K w) (c:Ctx K h₀ mg mb) (f:Nat):FnOK kc (mkC prog w K h₀ s₀ mg mb) fT f:=by
  rcases Nat.lt_or_ge f 42 with hf | hf
  · have h1:=all_range kf.defs hf
    have h2:=List.map_inj_left.mp kf.bds f (List.mem_range.mpr hf)
    cases hz:(f == 16) with
    | true=>obtain rfl:=eq_of_beq hz; exact fail_at kf c
    | false =>
      rw [hz] at h1 h2
      exact ckFn_ok (C:=mkC prog w K h₀ s₀ mg mb) c.kin c.lim h1 h2
  · refine Xea (Nat.exists_eq_add_of_le hf) fun n zz1=>?_; subst zz1
    have e:fT (42 + n)=⟨0,0,.cons (.ret (.neg (.cst .null))) .nil,0⟩:=by
      rw [Nat.add_comm]; rfl
    exact .bad (by rw [e]) (by rw [e])

theorem calls_ok (kf:KF K w) (c:Ctx K h₀ mg mb) (N n:Nat):HOK (mkC prog w K h₀ s₀ mg mb) (callN gT fT N n) (3 * n):=hok_all (base_ok kf c) (fns_ok kf c) n
end
end Mine
end
section
set_option tactic.hygienic false
open PySem
namespace Mine
theorem gz {α:Type} {a:α} {l:List α}:(a :: l)[0]?=some a:=List.getElem?_cons_zero
theorem gs {α:Type} {a:α} {l:List α} {n:Nat}:(a :: l)[n + 1]?=l[n]?:=List.getElem?_cons_succ
theorem tz {α:Type} {a b:α} {l:List α}:(b :: l).set 0 a=a :: l:=List.set_cons_zero
theorem ts {α:Type} {a b:α} {l:List α} {n:Nat}:(b :: l).set (n + 1) a=b :: l.set n a:=List.set_cons_succ
theorem js {α:Type} {a:Option α}:(some a).join=a:=rfl
theorem ms {α β:Type} {a:α} {f:α→β}:Option.map f (some a)=some (f a):=Option.map_some _ _
theorem lc {α:Type} {a:α} {l:List α}:(a :: l).length=l.length + 1:=List.length_cons
theorem ln {α:Type}:([]:List α).length=0:=List.length_nil

structure Valid (σ:Store):Prop where
  box:∃ l b,σ.box=some (l,b)∧l.length ≤ LIM∧0 ≤ b∧b < 1000003
  rd:σ.rd=none

theorem callN_eq {G:Nat→D} {T:Nat→Fn} {N n f:Nat} {vs:List V} {σ:Store} (hk:(T f).kind=0) (hl:vs.length=(T f).np):callN G T N (n + 1) f vs σ=outF (T f) (evSs G (callN G T N n) N (T f).body (vs.map some++List.replicate ((T f).ns - (T f).np) none) σ):=by
  show (if (T f).kind=1 then _ else _)=_
  rw [hk,if_neg (by decide),if_pos ⟨hl,fun h=>by cases h⟩]

theorem ro {a b:Nat} {f:Ss} {r:R (Ro × Fl)} {ρ:Ro} {d:D} {σ:Store} (h:r=.ok (ρ,.ret d) σ):outF ⟨a,b,f,0⟩ r=.ok d σ:=congrArg (outF ⟨a,b,f,0⟩) h
theorem take_ok {N n:Nat} {σ:Store} {m:Int} (v:Valid σ) (h0:0 < m):∃ i σ',callN gT fT N (n + 1) 37 [.box,.d (.int m)] σ=.ok (.int i) σ'∧0 ≤ i∧i < m∧Valid σ':=by
  refine Xeeaaaa (v.box) fun l b hb hl h2 h3=>?_
  obtain ⟨bx,rd⟩:=σ
  have hr:=v.rd
  simp only at hb hr
  subst hb hr
  rw [callN_eq (by rfl) (by rfl)]
  show ∃ i σ',outF ⟨2,2,f_law_take,0⟩ (evSs gT (callN gT fT N n) N f_law_take [some .box,some (.d (.int m))] _)=_∧_
  cases l with
  | cons n l =>
    have hl2:l.length ≤ LIM:=by exact Nat.le_of_succ_le hl
    have hp:(0:Int) < l.length + 1:=by exact Int.succ_ofNat_pos l.length
    refine ⟨n % m,⟨some (l,b),none⟩,?_,Int.emod_nonneg _ (by exact Ne.symm (Int.ne_of_lt h0)),Int.emod_lt_of_pos _ h0,⟨⟨l,b,rfl,hl2,h2,h3⟩,rfl⟩⟩
    exact ro (riffr (rcmp (if_pos hl) rfl (congrArg some (decide_eq_true hp))) (rret (rbin (if_pos hl2) rfl (if_pos h0))))
  | nil =>
    have e1:(0:Int) ≤ (b * 4093 + 12289) % 1000003:=by grind
    have e2:(b * 4093 + 12289) % 1000003 < 1000003:=by grind
    have e3:b.natAbs < 4294967296:=by lia
    refine ⟨(b * 4093 + 12289) % 1000003 / 8 % m,⟨some ([],(b * 4093 + 12289) % 1000003),none⟩,?_,Int.emod_nonneg _ (by lia),Int.emod_lt_of_pos _ h0,⟨⟨[],_,rfl,by simp [LIM],e1,e2⟩,rfl⟩⟩
    exact ro (riff0 (rcmp rfl rfl rfl) rfl (rsetB (rbin (rbin (rbin rfl rfl (if_pos e3)) rfl rfl) rfl rfl) rfl rfl (rret (rbin (rbin rfl rfl rfl) rfl (if_pos h0)))))
theorem bind_ok {α β:Type} (a:α) (σ:Store) (f:α→Store→R β):(R.ok a σ).bind f=f a σ:=rfl
theorem toD_ok (x:D) (σ:Store):toD (.ok (.d x) σ)=.ok x σ:=rfl
theorem toB_ok (x:Bool) (σ:Store):toB (.ok (.d (.bool x)) σ)=.ok x σ:=rfl
theorem ofOpt_some {α:Type} (σ:Store) (a:α):ofOpt σ (some a)=.ok a σ:=rfl
theorem toDs_ok (l:List V) (σ:Store):toDs (.ok l σ)=ofOpt σ (unV l):=rfl
theorem ofD_ok (x:D) (σ:Store):ofD (.ok x σ)=.ok (.d x) σ:=rfl
theorem heard_ok' (x:D) (σ:Store):heardR (.ok x σ)=.ok (.d x) σ:=rfl
theorem locV_d (x:D):locV (some (.d x))=some (.d x):=rfl
theorem locV_box:locV (some .box)=some .box:=rfl
theorem unV_nil:unV []=some []:=rfl
theorem unV_cons (x:D) (l:List V):unV (.d x :: l)=(unV l).map (x :: ·):=rfl
theorem lim_lit {n:Nat} (h:n ≤ 1000):n ≤ LIM:=by unfold LIM; lia

noncomputable def tailS:Nat→Ss→Ss
  | 0,s=>s
  | n + 1,.cons _ s=>tailS n s
  | _,.nil=>.nil
noncomputable def retOf (r:R (Ro × Fl)):R D:=r.bind fun x σ=>match x.2 with
  | .nxt=>.ok .null σ
  | .ret d=>.ok d σ
noncomputable abbrev synE:List Nat:=[83,121,110,116,97,120,69,114,114,111,114]
noncomputable def behD (t:D):List D:=match t with
  | .null=>[.tup [.str [99,104,97,114],.int 0],.tup [.str [99,104,97,114],.int 97]]
  | t=>[t]
noncomputable def expD (g:List Nat) (t:D) (ah:List D):D:=.tup [.tup [.str [115,101,113],.tup (ah++behD t)],.int (if g=[40,97,41] then 1 else 0)]
noncomputable def digD:D:=.tup [.str [99,108,97,115,115],.tup [.tup [.int 48,.int 57]],.bool false]
theorem rr {r:R (Ro × Fl)} {ρ:Ro} {d:D} {σ:Store} (h:r=.ok (ρ,.ret d) σ):retOf r=.ok d σ:=congrArg retOf h
theorem toD_ofD (r:R D):toD (ofD r)=r:=by cases r <;> rfl

section
variable {G:Nat→D} {H:Hd} {ρ:Ro} {σ σ₁:Store} {b g be:List Nat} {t:D}
theorem rheard {f:Nat} {es:Es} {vs:List V} {r:R V} (h1:evVs G H es ρ σ=.ok vs σ₁) (h:heardR (H f vs σ₁)=r):evE G H (.heard (.call f es)) ρ σ=r:=by
  show heardR (toD ((evVs G H es ρ σ).bind _))=_
  rw [h1]
  show heardR (toD (ofD (H f vs σ₁)))=_
  rw [toD_ofD]; exact h
theorem pt_ite (l5:evE G H (.loc 5) ρ σ=.ok (.d (.str be)) σ) (a1:be.length + 1 ≤ LIM):evE G H (.ite (.cmp .eq (.loc 5) (.cst (.str []))) (.loc 5) (.bin .add (.loc 5) (.cst (.str [124])))) ρ σ=.ok (.d (.str (if be=[] then be else be++[124]))) σ:=by
  by_cases c:be=[]
  · rw [if_pos c]; exact rite1 (rcmp l5 rfl (congrArg some (beq_iff_eq.mpr c))) l5
  · rw [if_neg c]; exact rite0 (rcmp l5 rfl (congrArg some (beq_false_of_ne c))) (rbin l5 rfl (if_pos a1))
theorem pt_nine (l2:evE G H (.loc 2) ρ σ=.ok (.d (.str g)) σ):evE G H (.ite (.cmp .eq (.loc 2) (.cst (.str [40,97,41]))) (.cst (.int 1)) (.cst (.int 0))) ρ σ=.ok (.d (.int (if g=[40,97,41] then 1 else 0))) σ:=by
  by_cases c:g=[40,97,41]
  · rw [if_pos c]; exact rite1 (rcmp l2 rfl (congrArg some (beq_iff_eq.mpr c))) rfl
  · rw [if_neg c]; exact rite0 (rcmp l2 rfl (congrArg some (beq_false_of_ne c))) rfl
theorem pt_beh (l3:evE G H (.loc 3) ρ σ=.ok (.d t) σ):evE G H (.ite (.cmp .is (.loc 3) (.cst .null)) (.tup (.cons (.tup (.cons (.cst (.str [99,104,97,114])) (.cons (.cst (.int 0)) .nil))) (.cons (.tup (.cons (.cst (.str [99,104,97,114])) (.cons (.cst (.int 97)) .nil))) .nil))) (.tup (.cons (.loc 3) .nil))) ρ σ=.ok (.d (.tup (behD t))) σ:=by
  cases q:t.isNl with
  | true=>cases D.isNl_inv q; exact rite1 (rcmp l3 rfl rfl) rfl
  | false =>
    have e:behD t=[t]:=by cases t <;> first | rfl | cases q
    rw [e]; exact rite0 (rcmp l3 rfl (congrArg some q)) (rtup (rvs l3 rfl) rfl (show (1:Nat) ≤ LIM by decide))
end
theorem pair_tail {H:Hd} {bx:Option (List Int × Int)} {b g be:List Nat} {t fl:D} {ah:List D} (h1:b.length ≤ 100) (h2:g.length ≤ 100) (h3:be.length ≤ 100) (h4:ah.length ≤ 100)
    (hB:heardR (H 34 [.d (.str ((if be=[] then be else be++[124])++b)),.d fl] ⟨bx,none⟩)=.ok (.d (.str synE)) ⟨bx,none⟩)
    (hG:(H 34 [.d (.str (be++g)),.d fl] ⟨bx,none⟩).bind (fun d σ=>ofOpt σ (eqD d (expD g t ah)))=.ok true ⟨bx,none⟩) :
    retOf (evSs gT H 200 (tailS 4 f_law_pair_right) [some .box,some (.d (.str b)),some (.d (.str g)),some (.d t),some (.d digD),some (.d (.str be)),some (.d (.tup ah)),some (.d fl),none,none] ⟨bx,none⟩)=.ok (.bool true) ⟨bx,none⟩:=by
  have hL:∀ n:Nat,n ≤ 1000→n ≤ LIM:=fun n h=>lim_lit h
  have a4:be.length + g.length ≤ LIM:=hL _ (by lia)
  have a7:(2:Nat) ≤ LIM:=by decide
  have b2:(if be=[] then be else be++[124]).length + b.length ≤ LIM:=by
    split
    · exact hL _ (by lia)
    · exact hL _ (by simp; lia)
  have a0:(behD t).length ≤ 2:=by cases t <;> simp [behD]
  have a10:ah.length + (behD t).length ≤ LIM:=hL _ (by lia)
  cases q:H 34 [.d (.str (be++g)),.d fl] ⟨bx,none⟩ with
  | ok d σ =>
    rw [q] at hG
    cases q2:eqD d (expD g t ah) with
    | none=>have hG:R.bad=R.ok true ⟨bx,none⟩:=(congrArg (ofOpt σ) q2).symm.trans hG; cases hG
    | some c =>
      have hG:R.ok c σ=.ok true ⟨bx,none⟩:=(congrArg (ofOpt σ) q2).symm.trans hG
      cases hG
      exact rr (riff0 (rcmp (rheard (rvs (rbin (pt_ite rfl (hL _ (by lia))) rfl (if_pos b2)) (rvs rfl rfl)) hB) rfl rfl) rfl (rasg (pt_beh rfl) (rasg (pt_nine rfl) (rret (rcmp (rheard (rvs (rbin rfl rfl (if_pos a4)) (rvs rfl rfl)) (congrArg heardR q)) (rtup (rvs (rtup (rvs rfl (rvs (rbin rfl rfl (if_pos a10)) rfl)) rfl a7) (rvs rfl rfl)) rfl a7) q2)))))
  | exc=>rw [q] at hG; cases hG
  | bad=>rw [q] at hG; cases hG
end Mine
end
section
set_option tactic.hygienic false
open PySem
set_option maxRecDepth 100000
namespace Mine
noncomputable def PP (t:List Nat) (fl:D) (bx:Option (List Int × Int)):R D:=(retOf (evSs gT (callN gT fT 200 19) 200 (tailS 1 f_parse_pattern) [some (.d (.str t)),some (.d fl),none,none] ⟨bx,none⟩)).noRd
noncomputable def pairAt (k:Nat):List Nat × List Nat × D:=match pairsD[k]? with
  | some (.tup [.str b,.str g,t])=>(b,g,t)
  | _=>([],[],.null)
noncomputable def begAt:Nat→List Nat × List D
  | 0=>([],[])
  | 1=>([46],[.tup [.str [97,110,121]]])
  | _=>([120,92,100],[.tup [.str [99,104,97,114],.int 120],digD])
noncomputable def badT (k j:Nat):List Nat:=(if (begAt j).1=[] then (begAt j).1 else (begAt j).1++[124])++(pairAt k).1
noncomputable def goodT (k j:Nat):List Nat:=(begAt j).1++(pairAt k).2.1
noncomputable def runB (x:D) (bx:Option (List Int × Int)) (k j:Nat):R V:=heardR (PP (badT k j) x bx)
noncomputable def runG (x:D) (bx:Option (List Int × Int)) (k j:Nat):R Bool:=(PP (goodT k j) x bx).bind fun d σ=>ofOpt σ (eqD d (expD (pairAt k).2.1 (pairAt k).2.2 (begAt j).2))
theorem pb_0_0 (x:D) (bx:Option (List Int × Int)):(List.range' 0 17).map (fun k=>runB x bx k 0)=(List.range' 0 17).map (fun _=>.ok (.d (.str synE)) ⟨bx,none⟩):=by kernel_rfl
theorem pg_0_0 (x:D) (bx:Option (List Int × Int)):(List.range' 0 17).map (fun k=>runG x bx k 0)=(List.range' 0 17).map (fun _=>.ok true ⟨bx,none⟩):=by kernel_rfl
theorem pb_0_1 (x:D) (bx:Option (List Int × Int)):(List.range' 17 17).map (fun k=>runB x bx k 0)=(List.range' 17 17).map (fun _=>.ok (.d (.str synE)) ⟨bx,none⟩):=by kernel_rfl
theorem pg_0_1 (x:D) (bx:Option (List Int × Int)):(List.range' 17 17).map (fun k=>runG x bx k 0)=(List.range' 17 17).map (fun _=>.ok true ⟨bx,none⟩):=by kernel_rfl
theorem pb_0_2 (x:D) (bx:Option (List Int × Int)):(List.range' 34 17).map (fun k=>runB x bx k 0)=(List.range' 34 17).map (fun _=>.ok (.d (.str synE)) ⟨bx,none⟩):=by kernel_rfl
theorem pg_0_2 (x:D) (bx:Option (List Int × Int)):(List.range' 34 17).map (fun k=>runG x bx k 0)=(List.range' 34 17).map (fun _=>.ok true ⟨bx,none⟩):=by kernel_rfl
theorem pb_1_0 (x:D) (bx:Option (List Int × Int)):(List.range' 0 17).map (fun k=>runB x bx k 1)=(List.range' 0 17).map (fun _=>.ok (.d (.str synE)) ⟨bx,none⟩):=by kernel_rfl
theorem pg_1_0 (x:D) (bx:Option (List Int × Int)):(List.range' 0 17).map (fun k=>runG x bx k 1)=(List.range' 0 17).map (fun _=>.ok true ⟨bx,none⟩):=by kernel_rfl
theorem pb_1_1 (x:D) (bx:Option (List Int × Int)):(List.range' 17 17).map (fun k=>runB x bx k 1)=(List.range' 17 17).map (fun _=>.ok (.d (.str synE)) ⟨bx,none⟩):=by kernel_rfl
theorem pg_1_1 (x:D) (bx:Option (List Int × Int)):(List.range' 17 17).map (fun k=>runG x bx k 1)=(List.range' 17 17).map (fun _=>.ok true ⟨bx,none⟩):=by kernel_rfl
theorem pb_1_2 (x:D) (bx:Option (List Int × Int)):(List.range' 34 17).map (fun k=>runB x bx k 1)=(List.range' 34 17).map (fun _=>.ok (.d (.str synE)) ⟨bx,none⟩):=by kernel_rfl
theorem pg_1_2 (x:D) (bx:Option (List Int × Int)):(List.range' 34 17).map (fun k=>runG x bx k 1)=(List.range' 34 17).map (fun _=>.ok true ⟨bx,none⟩):=by kernel_rfl
theorem pb_2_0 (x:D) (bx:Option (List Int × Int)):(List.range' 0 17).map (fun k=>runB x bx k 2)=(List.range' 0 17).map (fun _=>.ok (.d (.str synE)) ⟨bx,none⟩):=by kernel_rfl
theorem pg_2_0 (x:D) (bx:Option (List Int × Int)):(List.range' 0 17).map (fun k=>runG x bx k 2)=(List.range' 0 17).map (fun _=>.ok true ⟨bx,none⟩):=by kernel_rfl
theorem pb_2_1 (x:D) (bx:Option (List Int × Int)):(List.range' 17 17).map (fun k=>runB x bx k 2)=(List.range' 17 17).map (fun _=>.ok (.d (.str synE)) ⟨bx,none⟩):=by kernel_rfl
theorem pg_2_1 (x:D) (bx:Option (List Int × Int)):(List.range' 17 17).map (fun k=>runG x bx k 2)=(List.range' 17 17).map (fun _=>.ok true ⟨bx,none⟩):=by kernel_rfl
theorem pb_2_2 (x:D) (bx:Option (List Int × Int)):(List.range' 34 17).map (fun k=>runB x bx k 2)=(List.range' 34 17).map (fun _=>.ok (.d (.str synE)) ⟨bx,none⟩):=by kernel_rfl
theorem pg_2_2 (x:D) (bx:Option (List Int × Int)):(List.range' 34 17).map (fun k=>runG x bx k 2)=(List.range' 34 17).map (fun _=>.ok true ⟨bx,none⟩):=by kernel_rfl
theorem from_map {α:Type} {f g:Nat→α} {s n k:Nat} (h:(List.range' s n).map f=(List.range' s n).map g) (h1:s ≤ k) (h2:k < s + n):f k=g k :=
  List.map_inj_left.mp h k (List.mem_range'_1.mpr ⟨h1,h2⟩)
theorem three {P:Nat→Nat→Prop} {k j:Nat} (hk:k < 51) (hj:j < 3) (h:∀ k j,(j=0∨j=1∨j=2)→((0 ≤ k∧k < 0 + 17)∨(17 ≤ k∧k < 17 + 17)∨(34 ≤ k∧k < 34 + 17))→P k j):P k j:=h k j (by lia) (by lia)
theorem pb_all (x:D) (bx:Option (List Int × Int)) {k j:Nat} (hk:k < 51) (hj:j < 3):runB x bx k j=.ok (.d (.str synE)) ⟨bx,none⟩:=by
  refine three (P:=fun k j=>runB x bx k j=_) hk hj fun k j h1 h2=>?_
  rcases h1 with rfl | rfl | rfl <;> rcases h2 with h2 | h2 | h2
  · exact from_map (pb_0_0 x bx) h2.1 h2.2
  · exact from_map (pb_0_1 x bx) h2.1 h2.2
  · exact from_map (pb_0_2 x bx) h2.1 h2.2
  · exact from_map (pb_1_0 x bx) h2.1 h2.2
  · exact from_map (pb_1_1 x bx) h2.1 h2.2
  · exact from_map (pb_1_2 x bx) h2.1 h2.2
  · exact from_map (pb_2_0 x bx) h2.1 h2.2
  · exact from_map (pb_2_1 x bx) h2.1 h2.2
  · exact from_map (pb_2_2 x bx) h2.1 h2.2
theorem pg_all (x:D) (bx:Option (List Int × Int)) {k j:Nat} (hk:k < 51) (hj:j < 3):runG x bx k j=.ok true ⟨bx,none⟩:=by
  refine three (P:=fun k j=>runG x bx k j=_) hk hj fun k j h1 h2=>?_
  rcases h1 with rfl | rfl | rfl <;> rcases h2 with h2 | h2 | h2
  · exact from_map (pg_0_0 x bx) h2.1 h2.2
  · exact from_map (pg_0_1 x bx) h2.1 h2.2
  · exact from_map (pg_0_2 x bx) h2.1 h2.2
  · exact from_map (pg_1_0 x bx) h2.1 h2.2
  · exact from_map (pg_1_1 x bx) h2.1 h2.2
  · exact from_map (pg_1_2 x bx) h2.1 h2.2
  · exact from_map (pg_2_0 x bx) h2.1 h2.2
  · exact from_map (pg_2_1 x bx) h2.1 h2.2
  · exact from_map (pg_2_2 x bx) h2.1 h2.2

theorem callN_eq2 {G:Nat→D} {T:Nat→Fn} {N n f:Nat} {vs:List V} {σ:Store} (hk:(T f).kind=2) (hl:vs.length=(T f).np) (hr:σ.rd=none):callN G T N (n + 1) f vs σ=(retOf (evSs G (callN G T N n) N (T f).body (vs.map some++List.replicate ((T f).ns - (T f).np) none) σ)).noRd:=by
  show (if (T f).kind=1 then _ else _)=_
  rw [hk,if_neg (by decide),if_pos ⟨hl,fun h=>by rw [hr]; rfl⟩]
  unfold outF
  rw [hk]
  rfl

theorem flags_0 (σ:Store):callN gT fT 200 19 17 [.d (.str [])] σ=.ok (.tup [.bool false,.bool false,.bool false]) σ:=by kernel_rfl
theorem flags_1 (σ:Store):callN gT fT 200 19 17 [.d (.str [103])] σ=.ok (.tup [.bool true,.bool false,.bool false]) σ:=by kernel_rfl
theorem flags_2 (σ:Store):callN gT fT 200 19 17 [.d (.str [105,109])] σ=.ok (.tup [.bool false,.bool true,.bool true]) σ:=by kernel_rfl
theorem flags_3 (σ:Store):callN gT fT 200 19 17 [.d (.str [109,103,105])] σ=.ok (.tup [.bool true,.bool true,.bool true]) σ:=by kernel_rfl
theorem flags_ok (σ:Store):∀ fl ∈ [D.str [],.str [103],.str [105,109],.str [109,103,105]],∃ d,callN gT fT 200 19 17 [.d fl] σ=.ok d σ:=by
  intro fl h
  simp only [List.mem_cons,List.not_mem_nil,or_false] at h
  rcases h with rfl | rfl | rfl | rfl
  · exact ⟨_,flags_0 σ⟩
  · exact ⟨_,flags_1 σ⟩
  · exact ⟨_,flags_2 σ⟩
  · exact ⟨_,flags_3 σ⟩

theorem parse_eq {t:List Nat} {fl:D} {bx:Option (List Int × Int)} (h:fl ∈ [D.str [],.str [103],.str [105,109],.str [109,103,105]]):callN gT fT 200 20 34 [.d (.str t),.d fl] ⟨bx,none⟩=PP t fl bx:=by
  rw [callN_eq2 (by rfl) (by rfl) (by rfl)]
  unfold PP
  refine Xea (flags_ok ⟨bx,none⟩ fl h) fun d0 hf=>?_
  show (retOf (evSs gT (callN gT fT 200 19) 200 f_parse_pattern [some (.d (.str t)),some (.d fl),none,none] ⟨bx,none⟩)).noRd=_
  have e:evSs gT (callN gT fT 200 19) 200 f_parse_pattern [some (.d (.str t)),some (.d fl),none,none] ⟨bx,none⟩=evSs gT (callN gT fT 200 19) 200 (tailS 1 f_parse_pattern) [some (.d (.str t)),some (.d fl),none,none] ⟨bx,none⟩:=by
    unfold f_parse_pattern
    simp only [tailS]
    rw [xTb,xSa,xEs]
    simp only [xVa,xVb,xEa,Ro.get,List.getElem?_cons_succ,List.getElem?_cons_zero,Option.join_some,locV_d,ofOpt_some,bind_ok,hf,ofD_ok,toD_ok]
  rw [e]

theorem pairs_at:pairsD=(List.range 51).map fun k=>.tup [.str (pairAt k).1,.str (pairAt k).2.1,(pairAt k).2.2]:=by kernel_rfl
theorem pair_len:∀ k < 51,(pairAt k).1.length ≤ 100∧(pairAt k).2.1.length ≤ 100:=by decide +kernel
theorem pairs_run (σ:Store):callN gT fT 200 20 35 [] σ=.ok (.lst pairsD) σ:=by kernel_rfl

theorem tail_all {bx:Option (List Int × Int)} {k j:Nat} {fl:D} (hk:k < 51) (hj:j < 3) (hf:fl ∈ [D.str [],.str [103],.str [105,109],.str [109,103,105]]) :
    retOf (evSs gT (callN gT fT 200 20) 200 (tailS 4 f_law_pair_right) [some .box,some (.d (.str (pairAt k).1)),some (.d (.str (pairAt k).2.1)),some (.d (pairAt k).2.2),some (.d digD),some (.d (.str (begAt j).1)),some (.d (.tup (begAt j).2)),some (.d fl),none,none] ⟨bx,none⟩)=.ok (.bool true) ⟨bx,none⟩:=by
  have hl:=pair_len k hk
  have hb:(begAt j).1.length ≤ 100∧(begAt j).2.length ≤ 100:=by
    have:j=0∨j=1∨j=2:=by lia
    rcases this with rfl | rfl | rfl <;> decide
  refine pair_tail hl.1 hl.2 hb.1 hb.2 ?_ ?_
  · rw [parse_eq hf]; exact pb_all fl bx hk hj
  · rw [parse_eq hf]; exact pg_all fl bx hk hj
theorem idx_int {α:Type} {l:List α} {i:Int} {x:α} (h0:0 ≤ i) (h:l[i.toNat]?=some x):idx l i=some x:=by
  unfold idx
  rw [if_pos h0,h]

theorem pair_right_ok {σ:Store} (v:Valid σ):∃ σ',callN gT fT 200 21 38 [.box] σ=.ok (.bool true) σ'∧Valid σ':=by
  obtain ⟨i,σ₁,t1,i0,i1,v1⟩:=take_ok (N:=200) (n:=19) v (m:=51) (by decide)
  obtain ⟨j,σ₂,t2,j0,j1,v2⟩:=take_ok (N:=200) (n:=19) v1 (m:=3) (by decide)
  obtain ⟨f,σ₃,t3,f0,f1,v3⟩:=take_ok (N:=200) (n:=19) v2 (m:=4) (by decide)
  refine ⟨σ₃,?_,v3⟩
  have r1:=v.rd
  have hk:i.toNat < 51:=(Int.toNat_lt i0).mpr i1
  have hj:j.toNat < 3:=(Int.toNat_lt j0).mpr j1
  have hpl:(pairsD:List D).length=51:=by decide +kernel
  have hp:pairsD[i.toNat]?=some (.tup [.str (pairAt i.toNat).1,.str (pairAt i.toNat).2.1,(pairAt i.toNat).2.2]):=by
    rw [pairs_at,List.getElem?_map,List.getElem?_range hk]
    rfl
  rw [callN_eq (by rfl) (by rfl)]
  show (retOf (evSs gT (callN gT fT 200 20) 200 f_law_pair_right [some .box,none,none,none,none,none,none,none,none,none] σ))=_
  have e0:evSs gT (callN gT fT 200 20) 200 f_law_pair_right [some .box,none,none,none,none,none,none,none,none,none] σ=evSs gT (callN gT fT 200 20) 200 (tailS 1 f_law_pair_right) [some .box,some (.d (.str (pairAt i.toNat).1)),some (.d (.str (pairAt i.toNat).2.1)),some (.d (pairAt i.toNat).2.2),none,none,none,none,none,none] σ₁:=by
    have h51:pairsD.length ≤ LIM:=by rw [hpl]; decide
    have hl:biD .len [.lst pairsD]=some (.int ((51:Nat):Int)):=Ic.trans ((if_pos h51).trans (congrArg (fun n:Nat=>some (D.int n)) hpl))
    exact rasgT (rsub (rcall rfl (pairs_run _)) (rcall (rvs rfl (rvs (rbi (rvs (rcall rfl (pairs_run _)) rfl) rfl hl) rfl)) t1) (rsubD ((if_pos (Int.lt_trans i1 (by decide))).trans (idx_int i0 hp)))) rfl rfl
  have hbg:([D.tup [.str [],.tup []],.tup [.str [46],.tup [.tup [.str [97,110,121]]]],.tup [.str [120,92,100],.tup [.tup [.str [99,104,97,114],.int 120],digD]]]:List D)[j.toNat]?=some (.tup [.str (begAt j.toNat).1,.tup (begAt j.toNat).2]):=by
    have:j.toNat=0∨j.toNat=1∨j.toNat=2:=by lia
    rcases this with h | h | h <;> rw [h] <;> rfl
  have hfl:∃ fl,([D.str [],.str [103],.str [105,109],.str [109,103,105]]:List D)[f.toNat]?=some fl∧fl ∈ [D.str [],.str [103],.str [105,109],.str [109,103,105]]:=by
    have:f.toNat < ([D.str [],.str [103],.str [105,109],.str [109,103,105]]:List D).length:=by show f.toNat < 4; lia
    exact ⟨_,List.getElem?_eq_getElem this,List.getElem_mem _⟩
  refine Xeaa (hfl) fun fl hfl hfm=>?_
  have lm:∀ n:Nat,n ≤ 1000→n ≤ LIM:=fun n h=>lim_lit h
  have e1:evSs gT (callN gT fT 200 20) 200 (tailS 1 f_law_pair_right) [some .box,some (.d (.str (pairAt i.toNat).1)),some (.d (.str (pairAt i.toNat).2.1)),some (.d (pairAt i.toNat).2.2),none,none,none,none,none,none] σ₁ =
      evSs gT (callN gT fT 200 20) 200 (tailS 4 f_law_pair_right) [some .box,some (.d (.str (pairAt i.toNat).1)),some (.d (.str (pairAt i.toNat).2.1)),some (.d (pairAt i.toNat).2.2),some (.d digD),some (.d (.str (begAt j.toNat).1)),some (.d (.tup (begAt j.toNat).2)),some (.d fl),none,none] σ₃:=by
    exact rasg rfl (rasgT (rsub rfl (rcall rfl t2) (rsubD ((if_pos (Int.lt_trans j1 (by decide))).trans (idx_int j0 hbg)))) rfl (rasg (rsub rfl (rcall rfl t3) (rsubD ((if_pos (Int.lt_trans f1 (by decide))).trans (idx_int f0 hfl)))) rfl))
  rw [e0,e1]
  have h3:σ₃=⟨σ₃.box,none⟩:=by
    have:=v3.rd
    cases σ₃; simp only at this; subst this; rfl
  rw [h3]
  exact tail_all hk hj hfm
end Mine
end
section
set_option tactic.hygienic false
open PySem PySem.W
namespace Mine
noncomputable abbrev IPr:=Int × Int
noncomputable def ple (p q:IPr):Prop:=pLt q p=false
theorem ple_iff (p q:IPr):ple p q ↔ p.1 < q.1∨(p.1=q.1∧p.2 ≤ q.2):=by
  unfold ple pLt
  split
  · simp only [decide_eq_false_iff_not]; lia
  · simp only [decide_eq_false_iff_not]; lia
theorem ple_trans {p q r:IPr} (h1:ple p q) (h2:ple q r):ple p r:=by
  rw [ple_iff] at *; lia
theorem ple_refl (p:IPr):ple p p:=by rw [ple_iff]; lia
theorem ple_anti {p q:IPr} (h1:ple p q) (h2:ple q p):p=q:=by
  rw [ple_iff] at *
  obtain ⟨a,b⟩:=p
  obtain ⟨c,d⟩:=q
  simp only at h1 h2
  rw [Prod.mk.injEq]; lia
theorem plt_le {p q:IPr} (h:pLt p q=true):ple p q:=by
  rw [ple_iff]
  unfold pLt at h
  split at h
  · simp only [decide_eq_true_eq] at h; lia
  · simp only [decide_eq_true_eq] at h; exact Or.symm (Or.inr h)

section
variable {R:Nat→Nat→Prop}
noncomputable def reach (fs:List (Nat × Nat)):Nat→Nat→Nat→Bool
  | 0,a,b=>a == b
  | n + 1,a,b=>a == b || fs.any fun q=>q.1 == a && reach fs n q.2 b
theorem reach_ok (hr:∀ a,R a a) (ht:∀ a b c,R a b→R b c→R a c) {fs:List (Nat × Nat)} (hf:∀ q ∈ fs,R q.1 q.2):∀ n a b,reach fs n a b=true→R a b
  | 0,a,b,h=>by
    simp only [reach,beq_iff_eq] at h
    subst h; exact hr _
  | n + 1,a,b,h=>by
    simp only [reach,Bool.or_eq_true,beq_iff_eq,List.any_eq_true,Bool.and_eq_true] at h
    rcases h with rfl | ⟨q,hq,rfl,h⟩
    · exact hr _
    · exact ht _ _ _ (hf q hq) (reach_ok hr ht hf n _ _ h)
noncomputable def chainB (le:Nat→Nat→Bool):List Nat→Bool
  | a :: b :: l=>le a b && chainB le (b :: l)
  | _=>true
theorem chain_ok (ht:∀ a b c,R a b→R b c→R a c) {le:Nat→Nat→Bool} (hl:∀ a b,le a b=true→R a b):∀ l,chainB le l=true→l.Pairwise R
  | [],_=>.nil
  | [a],_=>by simp
  | a :: b :: l,h=>by
    simp only [chainB,Bool.and_eq_true] at h
    have ih:=chain_ok ht hl (b :: l) h.2
    refine .cons (fun c hc=>?_) ih
    rcases List.mem_cons.mp hc with rfl | hc
    · exact hl _ _ h.1
    · exact ht _ _ _ (hl _ _ h.1) ((List.pairwise_cons.mp ih).1 c hc)
noncomputable def chk (n:Nat) (fs:List (Nat × Nat)):KasT (Array Nat)→Bool
  | .ret p=>p.toList.isPerm (List.range n) && chainB (reach fs 4) p.toList
  | .ask i j k=>chk n ((i,j) :: fs) (k true) && chk n ((j,i) :: fs) (k false)
theorem chk_ok {n:Nat} (hr:∀ a,R a a) (ht:∀ a b c,R a b→R b c→R a c) (f:Nat→Nat→Bool) (hf:∀ i j,if f i j=true then R i j else R j i):∀ (t:KasT (Array Nat)) (fs:List (Nat × Nat)),(∀ q ∈ fs,R q.1 q.2)→chk n fs t=true→(runK f t).toList.Perm (List.range n)∧(runK f t).toList.Pairwise R
  | .ret p,fs,hfs,h=>by
    simp only [chk,Bool.and_eq_true] at h
    exact ⟨List.isPerm_iff.mp h.1,chain_ok ht (reach_ok hr ht hfs 4) _ h.2⟩
  | .ask i j k,fs,hfs,h=>by
    simp only [chk,Bool.and_eq_true] at h
    have:=hf i j
    show (runK f (k (f i j))).toList.Perm _∧(runK f (k (f i j))).toList.Pairwise R
    cases q:f i j with
    | true =>
      rw [q] at this
      exact chk_ok hr ht f hf (k true) ((i,j) :: fs) (fun r hr'=>(List.mem_cons.mp hr').elim (fun e=>e ▸ this) (hfs r)) h.1
    | false =>
      rw [q] at this
      exact chk_ok hr ht f hf (k false) ((j,i) :: fs) (fun r hr'=>(List.mem_cons.mp hr').elim (fun e=>e ▸ (by simpa using this)) (hfs r)) h.2
theorem chk_sort:∀ n,n ≤ 4→chk n [] (kas_sort n)=true
  | 0,_=>by decide +kernel
  | 1,_=>by decide +kernel
  | 2,_=>by decide +kernel
  | 3,_=>by decide +kernel
  | 4,_=>by decide +kernel
  | n + 5,h=>by lia
end

theorem range_getP:∀ l:List IPr,(List.range l.length).map (getP l)=l:=by
  intro l
  refine List.ext_getElem (by simp) fun i h1 h2=>?_
  simp [getP,List.getD_eq_getElem?_getD,List.getElem?_eq_getElem h2]
theorem sortP_ok (l:List IPr) (h:l.length ≤ 4):(sortP l).Perm l∧(sortP l).Pairwise ple:=by
  unfold sortP
  split
  · rename_i h2
    refine ⟨.refl _,?_⟩
    match l,h2 with
    | [],_=>exact .nil
    | [a],_=>simp
    | _ :: _ :: _,h2=>simp at h2; lia
  · have:=chk_ok (R:=fun i j=>ple (getP l i) (getP l j)) (n:=l.length) (fun _=>ple_refl _) (fun _ _ _=>ple_trans) (fun i j=>pLt (getP l i) (getP l j)) (fun i j=>?_) (kas_sort l.length) [] (fun _ h=>by cases h) (chk_sort _ h)
    · refine ⟨?_,List.pairwise_map.mpr this.2⟩
      have hp:=this.1.map (getP l)
      rwa [range_getP] at hp
    · split
      · exact plt_le (by assumption)
      · rename_i hn
        exact (by simpa using hn:pLt (getP l i) (getP l j)=false)
theorem sortP_id {l:List IPr} (h:l.length ≤ 4) (hs:l.Pairwise ple):sortP l=l :=
  List.Perm.eq_of_pairwise (fun _ _ _ _=>ple_anti) (sortP_ok l h).2 hs (sortP_ok l h).1
end Mine
end
section
set_option tactic.hygienic false
open PySem
namespace Mine
noncomputable def cov (l:List IPr) (c:Int):Prop:=∃ p ∈ l,p.1 ≤ c∧c ≤ p.2
theorem cov_nil (c:Int):¬ cov [] c:=fun ⟨_,h,_⟩=>by cases h
theorem cov_cons {p:IPr} {l:List IPr} {c:Int}:cov (p :: l) c ↔ (p.1 ≤ c∧c ≤ p.2)∨cov l c:=by
  constructor
  · rintro ⟨q,hq,h⟩
    rcases List.mem_cons.mp hq with rfl | hq
    · exact .inl h
    · exact .inr ⟨q,hq,h⟩
  · rintro (h | ⟨q,hq,h⟩)
    · exact ⟨p,.head _,h⟩
    · exact ⟨q,.tail _ hq,h⟩
theorem cov_perm {l m:List IPr} (h:l.Perm m) (c:Int):cov l c ↔ cov m c:=by
  constructor
  · rintro ⟨p,hp,r⟩; exact ⟨p,h.mem_iff.mp hp,r⟩
  · rintro ⟨p,hp,r⟩; exact ⟨p,h.mem_iff.mpr hp,r⟩

noncomputable def Norm:Int→List IPr→Prop
  | _,[]=>True
  | b,p :: r=>b < p.1∧p.1 ≤ p.2∧Norm (p.2 + 1) r
theorem Norm.mono {b b':Int} {l:List IPr} (h:Norm b l) (hb:b' ≤ b):Norm b' l:=by
  cases l with
  | nil=>trivial
  | cons p r=>exact ⟨by have:=h.1; exact Int.lt_of_le_of_lt hb this,h.2⟩

noncomputable def mrg:IPr→List IPr→List IPr
  | q,[]=>[q]
  | q,p :: r=>if p.1 ≤ q.2 + 1 then mrg (q.1,max q.2 p.2) r else q :: mrg p r
noncomputable def mergedP (l:List IPr):List IPr:=match sortP l with
  | []=>[]
  | q :: r=>mrg q r

theorem mrg_len:∀ (r:List IPr) (q:IPr),(mrg q r).length ≤ r.length + 1
  | [],q=>by simp [mrg]
  | p :: r,q=>by
    unfold mrg
    split
    · have:=mrg_len r (q.1,max q.2 p.2); simp; exact Nat.le_add_right_of_le this
    · have:=mrg_len r p; simp; omega
theorem mrg_cov:∀ (r:List IPr) (q:IPr) (c:Int),q.1 ≤ q.2→(∀ p ∈ r,p.1 ≤ p.2∧q.1 ≤ p.1)→r.Pairwise (fun a b=>a.1 ≤ b.1)→(cov (mrg q r) c ↔ cov (q :: r) c)
  | [],q,c,_,_,_=>by simp [mrg]
  | p :: r,q,c,hq,hr,hs=>by
    have hp:=hr p (.head _)
    rw [List.pairwise_cons] at hs
    unfold mrg
    split
    · rename_i h
      have ih:=mrg_cov r (q.1,max q.2 p.2) c (by simp only; omega) (fun a ha=>⟨(hr a (.tail _ ha)).1,(hr a (.tail _ ha)).2⟩) hs.2
      rw [ih,cov_cons,cov_cons,cov_cons]
      simp only
      constructor
      · rintro (h1 | h1)
        · by_cases h2:c ≤ q.2
          · exact .inl ⟨h1.1,h2⟩
          · exact .inr (.inl ⟨by lia,by omega⟩)
        · exact .inr (.inr h1)
      · rintro (h1 | h1 | h1)
        · exact .inl ⟨h1.1,by omega⟩
        · exact .inl ⟨by lia,by omega⟩
        · exact .inr h1
    · have ih:=mrg_cov r p c hp.1 (fun a ha=>⟨(hr a (.tail _ ha)).1,hs.1 a ha⟩) hs.2
      rw [cov_cons,ih]
      simp only [cov_cons]
theorem mrg_norm:∀ (r:List IPr) (q:IPr) (b:Int),b < q.1→q.1 ≤ q.2→(∀ p ∈ r,p.1 ≤ p.2∧q.1 ≤ p.1)→r.Pairwise (fun a b=>a.1 ≤ b.1)→Norm b (mrg q r)
  | [],q,b,h0,hq,_,_=>⟨h0,hq,trivial⟩
  | p :: r,q,b,h0,hq,hr,hs=>by
    have hp:=hr p (.head _)
    rw [List.pairwise_cons] at hs
    unfold mrg
    split
    · exact mrg_norm r (q.1,max q.2 p.2) b h0 (by simp only; grind) (fun a ha=>⟨(hr a (.tail _ ha)).1,(hr a (.tail _ ha)).2⟩) hs.2
    · exact ⟨h0,hq,mrg_norm r p (q.2 + 1) (by lia) hp.1 (fun a ha=>⟨(hr a (.tail _ ha)).1,hs.1 a ha⟩) hs.2⟩
theorem mrg_id:∀ (r:List IPr) (q:IPr),Norm (q.2 + 1) r→mrg q r=q :: r
  | [],q,_=>rfl
  | p :: r,q,h=>by
    unfold mrg
    rw [if_neg (by have:=h.1; exact (fun {a b}=>Int.not_le.mpr) this),mrg_id r p h.2.2]
theorem mrg_top:∀ (r:List IPr) (q:IPr) (T:Int),q.2 ≤ T→(∀ p ∈ r,p.2 ≤ T)→∀ p ∈ mrg q r,p.2 ≤ T
  | [],q,T,h,_,p,hp=>by
    simp only [mrg,List.mem_singleton] at hp
    subst hp; exact h
  | a :: r,q,T,h,hr,p,hp=>by
    unfold mrg at hp
    have ha:=hr a (.head _)
    split at hp
    · exact mrg_top r _ T (by simp only; omega) (fun p hp=>hr p (.tail _ hp)) p hp
    · rcases List.mem_cons.mp hp with rfl | hp
      · exact h
      · exact mrg_top r _ T ha (fun p hp=>hr p (.tail _ hp)) p hp

theorem ple_fst {l:List IPr} (h:l.Pairwise ple):l.Pairwise (fun a b=>a.1 ≤ b.1):=h.imp fun {a b} hab=>by
  rw [ple_iff] at hab; lia
theorem Norm.sorted:∀ {l:List IPr} {b:Int},Norm b l→l.Pairwise ple∧∀ p ∈ l,b < p.1∧p.1 ≤ p.2
  | [],b,_=>⟨.nil,fun _ h=>by cases h⟩
  | p :: r,b,h=>by
    have ih:=Norm.sorted h.2.2
    refine ⟨.cons (fun q hq=>?_) ih.1,fun q hq=>?_⟩
    · have:=ih.2 q hq
      have:=h.2.1
      rw [ple_iff]; omega
    · rcases List.mem_cons.mp hq with rfl | hq
      · exact ⟨h.1,h.2.1⟩
      · have:=ih.2 q hq
        have h1:=h.1
        have h2:=h.2.1
        grind

structure MOK (l:List IPr) (b T:Int):Prop where
  norm:Norm b (mergedP l)
  top:∀ p ∈ mergedP l,p.2 ≤ T
  cov:∀ c,cov (mergedP l) c ↔ cov l c
  len:(mergedP l).length ≤ l.length
theorem merged_pure {l:List IPr} {b T:Int} (h4:l.length ≤ 4) (hv:∀ p ∈ l,b < p.1∧p.1 ≤ p.2∧p.2 ≤ T):MOK l b T:=by
  refine Xaa (sortP_ok l h4) fun hp hs=>?_
  have hs:=ple_fst hs
  unfold Mine.mergedP at *
  have hlen:=hp.length_eq
  cases q:sortP l with
  | nil =>
    have:mergedP l=[]:=by unfold mergedP; rw [q]
    rw [q] at hlen
    have hl:l=[]:=List.length_eq_zero_iff.mp hlen.symm
    exact ⟨by rw [this]; trivial,(by rw [this]; intro p h; cases h),fun c=>by rw [this,hl],by rw [this]; simp⟩
  | cons a r =>
    have:mergedP l=mrg a r:=by unfold mergedP; rw [q]
    rw [q] at hp hs hlen
    rw [List.pairwise_cons] at hs
    have mem:∀ p ∈ a :: r,b < p.1∧p.1 ≤ p.2∧p.2 ≤ T:=fun p h=>hv p (hp.mem_iff.mp h)
    have ha:=mem a (.head _)
    have hr:∀ p ∈ r,p.1 ≤ p.2∧a.1 ≤ p.1:=fun p h=>⟨(mem p (.tail _ h)).2.1,hs.1 p h⟩
    exact ⟨by rw [this]; exact mrg_norm r a b ha.1 ha.2.1 hr hs.2,by rw [this]; exact mrg_top r a T ha.2.2 (fun p h=>(mem p (.tail _ h)).2.2),fun c=>by rw [this,mrg_cov r a c ha.2.1 hr hs.2,cov_perm hp],by
      rw [this,← hlen]
      exact mrg_len r a⟩
theorem merged_id {l:List IPr} {b:Int} (h4:l.length ≤ 4) (h:Norm b l):mergedP l=l:=by
  unfold mergedP
  rw [sortP_id h4 h.sorted.1]
  cases l with
  | nil=>rfl
  | cons q r=>exact mrg_id r q h.2.2

noncomputable def invR:Int→List IPr→List IPr
  | at',[]=>if at' ≤ 65535 then [(at',65535)] else []
  | at',p :: r=>(if p.1 > at' then [(at',p.1 - 1)] else [])++invR (p.2 + 1) r
noncomputable def invP (l:List IPr):List IPr:=invR 0 l

theorem inv_step {r:List IPr} {a:Int} {p:IPr} (h:a < p.1):invR a (p :: r)=(a,p.1 - 1) :: invR (p.2 + 1) r:=by
  show (if p.1 > a then [(a,p.1 - 1)] else [])++_=_
  rw [if_pos h]; rfl
theorem inv_back:∀ (r:List IPr) (a x:Int),Norm a r→(∀ p ∈ r,p.2 ≤ 65535)→x < a→a ≤ 65536→invR x (invR a r)=(x,a - 1) :: r
  | [],a,x,_,_,hx,ha=>by
    by_cases h:a ≤ 65535
    · have e:invR a []=[(a,65535)]:=if_pos h
      rw [e,inv_step hx]
      have e2:invR ((a,(65535:Int)).2 + 1) []=[]:=if_neg (by show ¬ ((65535:Int) + 1 ≤ 65535); omega)
      rw [e2]
    · have e:invR a []=[]:=if_neg h
      rw [e]
      have e2:invR x []=[(x,65535)]:=if_pos (by lia)
      rw [e2]
      have:a - 1=65535:=by lia
      rw [this]
  | p :: r,a,x,hn,ht,hx,ha=>by
    have hp:=ht p (.head _)
    rw [inv_step hn.1,inv_step (by exact hx)]
    have ih:=inv_back r (p.2 + 1) p.1 hn.2.2 (fun q hq=>ht q (.tail _ hq)) (by have:=hn.2.1; exact (fun {a b}=>Int.le_iff_lt_add_one.mp) this) (by omega)
    have e:(a,p.1 - 1).2 + 1=p.1:=by show p.1 - 1 + 1=p.1; exact Int.sub_add_cancel p.fst 1
    rw [e,ih]
    have e2:p.2 + 1 - 1=p.2:=by exact Int.add_sub_cancel p.snd 1
    rw [e2]
theorem inv_inv {l:List IPr} (hn:Norm (-1) l) (ht:∀ p ∈ l,p.2 ≤ 65535):invP (invP l)=l:=by
  unfold invP
  cases l with
  | nil =>
    have e:invR 0 []=[(0,65535)]:=if_pos (by omega)
    rw [e]
    show (if (0:Int) > 0 then [((0:Int),(0:Int) - 1)] else [])++invR (65535 + 1) []=[]
    rw [if_neg (by exact Int.lt_irrefl 0),List.nil_append]
    show (if (65535:Int) + 1 ≤ 65535 then _ else _)=_
    rw [if_neg (by omega)]
  | cons p r =>
    have hp:=ht p (.head _)
    have h1:=hn.2.1
    have back:=fun x hx=>inv_back r (p.2 + 1) x hn.2.2 (fun q hq=>ht q (.tail _ hq)) hx (by exact Int.add_le_of_le_sub_right hp)
    have e2:p.2 + 1 - 1=p.2:=by exact Int.add_sub_cancel p.snd 1
    by_cases h0:(0:Int) < p.1
    · rw [inv_step h0]
      show (if (0:Int) > 0 then _ else [])++invR (p.1 - 1 + 1) _=_
      rw [if_neg (by lia)]
      have e:p.1 - 1 + 1=p.1:=by exact Int.sub_add_cancel p.fst 1
      rw [e,back p.1 (by exact (fun {a b}=>Int.le_iff_lt_add_one.mp) h1),e2]
      rfl
    · have h00:p.1=0:=by have:=hn.1; lia
      show invR 0 ((if p.1 > 0 then _ else [])++_)=_
      rw [if_neg (by omega),List.nil_append,back 0 (by omega),e2]
      obtain ⟨a,b⟩:=p
      simp only at h00
      subst h00; rfl
theorem inv_cov:∀ (r:List IPr) (a c:Int),Norm (a - 1) r→(∀ p ∈ r,p.2 ≤ 65535)→(cov (invR a r) c ↔ a ≤ c∧c ≤ 65535∧¬ cov r c)
  | [],a,c,_,_=>by
    have:¬ cov [] c:=cov_nil c
    by_cases h:a ≤ 65535
    · have e:invR a []=[(a,65535)]:=if_pos h
      rw [e,cov_cons]
      simp only [this,not_false_eq_true,and_true,or_false]
    · have e:invR a []=[]:=if_neg h
      rw [e]
      constructor
      · intro h2; exact (this h2).elim
      · intro h2; omega
  | p :: r,a,c,hn,ht=>by
    have hp:=ht p (.head _)
    have h1:=hn.1
    have h2:=hn.2.1
    have ih:=inv_cov r (p.2 + 1) c (hn.2.2.mono (by lia)) (fun q hq=>ht q (.tail _ hq))
    have hr:cov r c→p.2 + 1 < c:=fun ⟨q,hq,hc⟩=>by
      have:=(Norm.sorted hn.2.2).2 q hq
      omega
    rw [cov_cons]
    by_cases h0:a < p.1
    · rw [inv_step h0,cov_cons,ih]
      simp only
      constructor
      · rintro (h3 | ⟨h3,h4,h5⟩)
        · exact ⟨h3.1,by lia,fun h=>h.elim (fun h=>by omega) (fun h=>by have:=hr h; omega)⟩
        · exact ⟨by lia,h4,fun h=>h.elim (fun h=>by omega) h5⟩
      · rintro ⟨h3,h4,h5⟩
        by_cases h6:c ≤ p.1 - 1
        · exact .inl ⟨h3,h6⟩
        · refine .inr ⟨?_,h4,fun h=>h5 (.inr h)⟩
          have:¬ (p.1 ≤ c∧c ≤ p.2):=fun h=>h5 (.inl h)
          grind
    · have e:invR a (p :: r)=invR (p.2 + 1) r:=by
        show (if p.1 > a then _ else [])++_=_
        rw [if_neg (by omega)]; rfl
      rw [e,ih]
      constructor
      · rintro ⟨h3,h4,h5⟩
        exact ⟨by grind,h4,fun h=>h.elim (fun h=>by omega) h5⟩
      · rintro ⟨h3,h4,h5⟩
        refine ⟨?_,h4,fun h=>h5 (.inr h)⟩
        have:¬ (p.1 ≤ c∧c ≤ p.2):=fun h=>h5 (.inl h)
        grind
theorem inv_norm:∀ (r:List IPr) (a b:Int),Norm (a - 1) r→(∀ p ∈ r,p.2 ≤ 65535)→b < a→Norm b (invR a r)∧(∀ p ∈ invR a r,p.2 ≤ 65535)∧(invR a r).length ≤ r.length + 1
  | [],a,b,_,_,hb=>by
    by_cases h:a ≤ 65535
    · have e:invR a []=[(a,65535)]:=if_pos h
      rw [e]
      exact ⟨⟨hb,h,trivial⟩,fun p hp=>by rw [List.mem_singleton.mp hp]; exact Int.le_refl _,by simp⟩
    · have e:invR a []=[]:=if_neg h
      rw [e]; exact ⟨trivial,fun p hp=>(by cases hp),by simp⟩
  | p :: r,a,b,hn,ht,hb=>by
    have hp:=ht p (.head _)
    have h1:=hn.1
    have h2:=hn.2.1
    by_cases h0:a < p.1
    · have ih:=inv_norm r (p.2 + 1) p.1 (hn.2.2.mono (by lia)) (fun q hq=>ht q (.tail _ hq)) (by omega)
      rw [inv_step h0]
      refine ⟨⟨hb,by show a ≤ p.1 - 1; exact Int.le_sub_one_of_lt h0,?_⟩,fun q hq=>?_,by simp; omega⟩
      · have e:(a,p.1 - 1).2 + 1=p.1:=by show p.1 - 1 + 1=p.1; exact Int.sub_add_cancel p.fst 1
        rw [e]; exact ih.1
      · rcases List.mem_cons.mp hq with rfl | hq
        · show p.1 - 1 ≤ 65535; lia
        · exact ih.2.1 q hq
    · have ih:=inv_norm r (p.2 + 1) b (hn.2.2.mono (by lia)) (fun q hq=>ht q (.tail _ hq)) (by omega)
      have e:invR a (p :: r)=invR (p.2 + 1) r:=by
        show (if p.1 > a then _ else [])++_=_
        rw [if_neg (by omega)]; rfl
      rw [e]
      exact ⟨ih.1,ih.2.1,by simp; lia⟩
end Mine
end
section
open PySem
set_option maxRecDepth 100000
namespace Mine
theorem oIdxI {l:List D} {i:Int}:oIdxV l (.int i)=if i < 1000000 then idx l i else none:=rfl
theorem okE_pairs (l:List IPr):(l.map pairD).all (okE 15)=true:=by
  rw [List.all_eq_true]
  intro d hd
  refine Xeaa (List.mem_map.mp hd) fun p _ zz1=>?_; subst zz1
  rfl
theorem mapM_pairs:∀ l:List IPr,(l.map pairD).mapM asPair=some l
  | []=>rfl
  | p :: l=>by
    rw [List.map_cons,List.mapM_cons,mapM_pairs l]
    rfl
theorem idx_last {α:Type} (a:List α) (q:α):idx (a++[q]) ((a.length:Int) + 1 - 1)=some q:=by
  refine idx_int (by lia) ?_
  have:((a.length:Int) + 1 - 1).toNat=a.length:=by lia
  rw [this]
  simp

theorem forF_cons {bnd:Ro→D→Option Ro} {body:Ro→Store→R (Ro × Fl)} {x:D} {xs:List D} {ρ ρ₁:Ro} {σ:Store} (h:bnd ρ x=some ρ₁):forF bnd body (x :: xs) ρ σ=(body ρ₁ σ).bind fun r σ₁=>match r.2 with
    | .nxt=>forF bnd body xs r.1 σ₁
    | .ret d=>.ok (r.1,.ret d) σ₁:=by
  rw [forF,h]
  try rfl
theorem forF_nxt {bnd:Ro→D→Option Ro} {body:Ro→Store→R (Ro × Fl)} {x:D} {xs:List D} {ρ ρ₁ ρ₂:Ro} {σ σ₂:Store} (h:bnd ρ x=some ρ₁) (e:body ρ₁ σ=.ok (ρ₂,.nxt) σ₂):forF bnd body (x :: xs) ρ σ=forF bnd body xs ρ₂ σ₂:=by
  rw [forF_cons h,e]; rfl

noncomputable def mBody:Ss:=.cons (.iff (.bop true (.cons (.oNe 1) (.cons (.cmp .le (.loc 2) (.bin .add (.sub (.oIdx 1 (.bin .sub (.oLen 1) (.cst (.int 1)))) (.cst (.int 1))) (.cst (.int 1)))) .nil))) (.cons (.popTo 4 1) (.cons (.append 1 (.tup (.cons (.sub (.loc 4) (.cst (.int 0))) (.cons (.bi .max (.cons (.sub (.loc 4) (.cst (.int 1))) (.cons (.loc 3) .nil))) .nil)))) .nil)) (.cons (.append 1 (.tup (.cons (.loc 2) (.cons (.loc 3) .nil)))) .nil)) .nil

theorem m_step {G:Nat→D} {H:Hd} {N:Nat} {x0 b:Option V} {a:List IPr} {q p:IPr} {σ:Store} (hl:a.length ≤ 50) :
    ∃ b',evSs G H N mBody [x0,some (.own ((a++[q]).map pairD)),some (.d (.int p.1)),some (.d (.int p.2)),b] σ=.ok ([x0,some (.own ((if p.1 ≤ q.2 + 1 then a++[(q.1,max q.2 p.2)] else a++[q]++[p]).map pairD)),some (.d (.int p.1)),some (.d (.int p.2)),b'],.nxt) σ:=by
  have lm:∀ n:Nat,n ≤ 1000→n ≤ LIM:=fun n h=>lim_lit h
  have h1:((a++[q]).map pairD).length ≤ LIM:=lm _ (by simp; lia)
  have h2:(a.map pairD).length ≤ LIM:=lm _ (by simp; lia)
  have e1:oNeV (some (.own ((a++[q]).map pairD)))=some (.bool true):=by
    show (if _ then some (D.bool (!((a++[q]).map pairD).isEmpty)) else none)=_
    rw [if_pos (okE_pairs _)]
    simp
  have e2:oLenV (some (.own ((a++[q]).map pairD)))=some (.int ((a.length:Int) + 1)):=by
    show (if ((a++[q]).map pairD).length ≤ LIM then some (D.int (((a++[q]).map pairD).length:Nat)) else none)=_
    rw [if_pos h1]
    simp
  have e3:idx ((a++[q]).map pairD) ((a.length:Int) + 1 - 1)=some (pairD q):=by
    have:=idx_last (a.map pairD) (pairD q)
    simpa using this
  have e4:(a.length:Int) + 1 - 1 < 1000000:=by lia
  have e5:((a++[q]).map pairD).getLast?=some (pairD q):=by simp
  have e6:((a++[q]).map pairD).dropLast=a.map pairD:=by simp
  have h3:((a++[q]).map pairD).dropLast.length ≤ LIM:=by rw [e6]; exact h2
  have hq:evE G H (.sub (.oIdx 1 (.bin .sub (.oLen 1) (.cst (.int 1)))) (.cst (.int 1))) [x0,some (.own ((a++[q]).map pairD)),some (.d (.int p.1)),some (.d (.int p.2)),b] σ=.ok (.d (.int q.2)) σ:=rsub (roIdx rfl (rbin (roLen e2) rfl rfl) e4 e3) rfl rfl
  by_cases hc:p.1 ≤ q.2 + 1
  · refine ⟨some (.d (pairD q)),?_⟩
    rw [if_pos hc]
    refine Eq.trans (riff1 (rbop (rb1 (roNe e1) (rb1 (rcmp rfl (rbin hq rfl rfl) (congrArg some (decide_eq_true hc))) rfl))) (rpop rfl e5 h1 (rapp rfl rfl h3 rfl)) rfl) ?_
    rw [e6,show (a++[(q.1,max q.2 p.2)]).map pairD=a.map pairD++[pairD (q.1,max q.2 p.2)] from List.map_append]; rfl
  · refine ⟨b,?_⟩
    rw [if_neg hc]
    refine Eq.trans (riff0 (rbop (rb1 (roNe e1) (rb0 (rcmp rfl (rbin hq rfl rfl) (congrArg some (decide_eq_false hc)))))) (rapp rfl rfl h1 rfl) rfl) ?_
    rw [show (a++[q]++[p]).map pairD=(a++[q]).map pairD++[pairD p] from List.map_append]; rfl

theorem m_first {G:Nat→D} {H:Hd} {N:Nat} {x0 b:Option V} {p:IPr} {σ:Store} :
    evSs G H N mBody [x0,some (.own []),some (.d (.int p.1)),some (.d (.int p.2)),b] σ=.ok ([x0,some (.own [pairD p]),some (.d (.int p.1)),some (.d (.int p.2)),b],.nxt) σ:=by
  rfl

theorem m_loop {G:Nat→D} {H:Hd} {N:Nat} {x0:Option V} {σ:Store}:∀ (r:List IPr) (a:List IPr) (q:IPr) (f l b:Option V),a.length + r.length ≤ 50 →
    ∃ f' l' b',forF (fun ρ d=>bindT ρ [2,3] d) (fun ρ σ=>evSs G H N mBody ρ σ) (r.map pairD) [x0,some (.own ((a++[q]).map pairD)),f,l,b] σ=.ok ([x0,some (.own ((a++mrg q r).map pairD)),f',l',b'],.nxt) σ
  | [],a,q,f,l,b,_=>⟨f,l,b,rfl⟩
  | p :: r,a,q,f,l,b,h=>by
    simp only [List.length_cons] at h
    refine Xea (m_step (G:=G) (H:=H) (N:=N) (x0:=x0) (b:=b) (a:=a) (q:=q) (p:=p) (σ:=σ) (by exact Nat.le_of_add_right_le h)) fun b' e=>?_
    have hb:bindT [x0,some (.own ((a++[q]).map pairD)),f,l,b] [2,3] (pairD p)=some [x0,some (.own ((a++[q]).map pairD)),some (.d (.int p.1)),some (.d (.int p.2)),b]:=rfl
    have e0:forF (fun ρ d=>bindT ρ [2,3] d) (fun ρ σ=>evSs G H N mBody ρ σ) ((p :: r).map pairD) [x0,some (.own ((a++[q]).map pairD)),f,l,b] σ =
        forF (fun ρ d=>bindT ρ [2,3] d) (fun ρ σ=>evSs G H N mBody ρ σ) (r.map pairD) [x0,some (.own ((if p.1 ≤ q.2 + 1 then a++[(q.1,max q.2 p.2)] else a++[q]++[p]).map pairD)),some (.d (.int p.1)),some (.d (.int p.2)),b'] σ:=by
      rw [List.map_cons]
      exact forF_nxt hb e
    rw [e0]
    unfold mrg
    by_cases hc:p.1 ≤ q.2 + 1
    · rw [if_pos hc,if_pos hc]
      exact m_loop r a (q.1,max q.2 p.2) _ _ _ (by exact Nat.le_of_succ_le h)
    · rw [if_neg hc,if_neg hc]
      have:=m_loop (G:=G) (H:=H) (N:=N) (x0:=x0) (σ:=σ) r (a++[q]) p (some (.d (.int p.1))) (some (.d (.int p.2))) b' (by simp; lia)
      simpa using this

theorem merged_ok {N n:Nat} {d:D} {ps:List IPr} {σ:Store} (h4:ps.length ≤ 4) (hd:d=.tup (ps.map pairD)∨d=.lst (ps.map pairD)):callN gT fT N (n + 1) 9 [.d d] σ=.ok (.tup ((mergedP ps).map pairD)) σ:=by
  rw [callN_eq (by rfl) (by rfl)]
  show retOf (evSs gT (callN gT fT N n) N f_merged [some (.d d),none,none,none,none] σ)=_
  have hl:(ps.map pairD).length ≤ 4:=by simpa using h4
  have hs:biD .sorted [d]=some (.lst ((sortP ps).map pairD)):=by
    rcases hd with rfl | rfl <;> (simp only [Ij,Ik]; rw [if_pos hl,mapM_pairs]; rfl)
  have hp:=(sortP_ok ps h4).1.length_eq
  have hm:(mergedP ps).length ≤ 4:=by
    unfold mergedP
    split
    · simp
    · rename_i q r e
      have:=mrg_len r q
      rw [e] at hp
      simp only [List.length_cons] at hp
      lia
  have loop:∃ f l b,forF (fun ρ d=>bindT ρ [2,3] d) (fun ρ σ=>evSs gT (callN gT fT N n) N mBody ρ σ) ((sortP ps).map pairD) [some (.d d),some (.own []),none,none,none] σ=.ok ([some (.d d),some (.own ((mergedP ps).map pairD)),f,l,b],.nxt) σ:=by
    unfold mergedP
    cases q:sortP ps with
    | nil=>exact ⟨none,none,none,rfl⟩
    | cons p r =>
      rw [q] at hp
      simp only [List.length_cons] at hp
      obtain ⟨f,l,b,e⟩:=m_loop (G:=gT) (H:=callN gT fT N n) (N:=N) (x0:=some (.d d)) (σ:=σ) r [] p (some (.d (.int p.1))) (some (.d (.int p.2))) none (by simp; lia)
      refine ⟨f,l,b,?_⟩
      rw [List.map_cons]
      have hb:bindT [some (V.d d),some (.own []),none,none,none] [2,3] (pairD p)=some [some (V.d d),some (.own []),some (.d (.int p.1)),some (.d (.int p.2)),none]:=rfl
      rw [forF_nxt hb m_first]
      exact e
  refine Xeeea (loop) fun f l b e=>?_
  have hk:((mergedP ps).map pairD).length ≤ LIM:=lim_lit (by simp; lia)
  exact rr (rn rfl (rforr (rval (rbi rfl rfl hs) rfl) e (rn rfl (rret (rbi rfl rfl (if_pos hk))))))
end Mine
end
section
set_option tactic.hygienic false
open PySem
set_option maxRecDepth 100000
namespace Mine
noncomputable def invB:Int→List IPr→List IPr
  | _,[]=>[]
  | a,p :: r=>(if p.1 > a then [(a,p.1 - 1)] else [])++invB (p.2 + 1) r
noncomputable def endA:Int→List IPr→Int
  | a,[]=>a
  | _,p :: r=>endA (p.2 + 1) r
theorem invR_eq:∀ (r:List IPr) (a:Int),invR a r=invB a r++(if endA a r ≤ 65535 then [(endA a r,65535)] else [])
  | [],a=>rfl
  | p :: r,a=>by
    show (if p.1 > a then _ else _)++invR (p.2 + 1) r=_
    rw [invR_eq r]
    show _=((if p.1 > a then _ else _)++invB (p.2 + 1) r)++_
    rw [List.append_assoc]
    rfl
theorem invB_len:∀ (r:List IPr) (a:Int),(invB a r).length ≤ r.length
  | [],a=>Nat.le_refl _
  | p :: r,a=>by
    show ((if p.1 > a then _ else _)++invB (p.2 + 1) r).length ≤ _
    have:=invB_len r (p.2 + 1)
    split <;> simp <;> lia

noncomputable def iBody:Ss:=.cons (.iff (.cmp .gt (.loc 3) (.loc 2)) (.cons (.append 1 (.tup (.cons (.loc 2) (.cons (.bin .sub (.loc 3) (.cst (.int 1))) .nil)))) .nil) .nil) (.cons (.asg 2 (.bin .add (.loc 4) (.cst (.int 1)))) .nil)
theorem rq {r q:R (Ro × Fl)} {x:R D} (h:r=q) (k:retOf q=x):retOf r=x:=h ▸ k
theorem i_step {G:Nat→D} {H:Hd} {N:Nat} {x0:Option V} {acc:List IPr} {a:Int} {p:IPr} {σ:Store} (hl:acc.length ≤ 200) :
    evSs G H N iBody [x0,some (.own (acc.map pairD)),some (.d (.int a)),some (.d (.int p.1)),some (.d (.int p.2))] σ=.ok ([x0,some (.own ((acc++(if p.1 > a then [(a,p.1 - 1)] else [])).map pairD)),some (.d (.int (p.2 + 1))),some (.d (.int p.1)),some (.d (.int p.2))],.nxt) σ:=by
  have lm:∀ n:Nat,n ≤ 1000→n ≤ LIM:=fun n h=>lim_lit h
  have h1:(acc.map pairD).length ≤ LIM:=lm _ (by simp; lia)
  unfold iBody
  by_cases hc:a < p.1
  · rw [if_pos hc,List.map_append]
    exact riff1 (rcmp rfl rfl (congrArg some (decide_eq_true hc))) (rapp rfl rfl h1 rfl) (rasg rfl rfl)
  · rw [if_neg hc,List.append_nil]
    exact riff0 (rcmp rfl rfl (congrArg some (decide_eq_false hc))) rfl (rasg rfl rfl)
theorem i_loop {G:Nat→D} {H:Hd} {N:Nat} {x0:Option V} {σ:Store}:∀ (r acc:List IPr) (a:Int) (f l:Option V),acc.length + r.length ≤ 200 →
    ∃ f' l',forF (fun ρ d=>bindT ρ [3,4] d) (fun ρ σ=>evSs G H N iBody ρ σ) (r.map pairD) [x0,some (.own (acc.map pairD)),some (.d (.int a)),f,l] σ=.ok ([x0,some (.own ((acc++invB a r).map pairD)),some (.d (.int (endA a r))),f',l'],.nxt) σ
  | [],acc,a,f,l,_=>⟨f,l,by rw [show invB a []=[] from rfl,List.append_nil]; rfl⟩
  | p :: r,acc,a,f,l,h=>by
    simp only [List.length_cons] at h
    have hb:bindT [x0,some (.own (acc.map pairD)),some (.d (.int a)),f,l] [3,4] (pairD p)=some [x0,some (.own (acc.map pairD)),some (.d (.int a)),some (.d (.int p.1)),some (.d (.int p.2))]:=rfl
    refine Xeea (i_loop (G:=G) (H:=H) (N:=N) (x0:=x0) (σ:=σ) r (acc++(if p.1 > a then [(a,p.1 - 1)] else [])) (p.2 + 1) (some (.d (.int p.1))) (some (.d (.int p.2))) (by split <;> simp <;> lia)) fun f' l' e=>?_
    refine ⟨f',l',?_⟩
    rw [List.map_cons,forF_nxt hb (i_step (by exact Nat.le_of_add_right_le h)),e]
    show _=R.ok ([x0,some (.own ((acc++((if p.1 > a then [(a,p.1 - 1)] else [])++invB (p.2 + 1) r)).map pairD)),_,_,_],Fl.nxt) σ
    rw [List.append_assoc]
    rfl

theorem inverted_ok {N n:Nat} {ps:List IPr} {σ:Store} (h4:ps.length ≤ 100):callN gT fT N (n + 1) 10 [.d (.tup (ps.map pairD))] σ=.ok (.tup ((invP ps).map pairD)) σ:=by
  rw [callN_eq (by rfl) (by rfl)]
  show retOf (evSs gT (callN gT fT N n) N f_inverted [some (.d (.tup (ps.map pairD))),none,none,none,none] σ)=_
  have lm:∀ n:Nat,n ≤ 1000→n ≤ LIM:=fun n h=>lim_lit h
  have hB:=invB_len ps 0
  obtain ⟨f,l,e⟩:=i_loop (G:=gT) (H:=callN gT fT N n) (N:=N) (x0:=some (.d (.tup (ps.map pairD)))) (σ:=σ) ps [] 0 none none (by simp; lia)
  have hk:((invB 0 ps).map pairD).length ≤ LIM:=lm _ (by simp; lia)
  have hk2:((invB 0 ps).map pairD++[D.tup [D.int (endA 0 ps),D.int 65535]]).length ≤ LIM:=lm _ (by simp; lia)
  rw [show invP ps=invB 0 ps++(if endA 0 ps ≤ 65535 then [(endA 0 ps,65535)] else []) from invR_eq ps 0]
  by_cases hc:endA 0 ps ≤ 65535
  · rw [if_pos hc,List.map_append]
    exact rr (rn rfl (rn rfl (rforr (rval rfl rfl) e (riff1 (rcmp rfl rfl (congrArg some (decide_eq_true hc))) (rapp rfl rfl hk rfl) (rn rfl (rret (rbi rfl rfl (if_pos hk2))))))))
  · rw [if_neg hc,List.append_nil]
    exact rr (rn rfl (rn rfl (rforr (rval rfl rfl) e (riff0 (rcmp rfl rfl (congrArg some (decide_eq_false hc))) rfl (rn rfl (rret (rbi rfl rfl (if_pos hk))))))))

theorem norm_rise:∀ {l:List IPr} {b:Int},Norm b l→∀ i j,i ≤ j→j < l.length→(getP l i).2 ≤ (getP l j).2
  | [],b,h,i,j,hij,hj=>by simp at hj
  | p :: r,b,h,0,0,_,_=>Int.le_refl _
  | p :: r,b,h,0,j + 1,_,hj=>by
    have hj':j < r.length:=by simpa using hj
    have hm:getP r j ∈ r:=by
      unfold getP
      rw [List.getD_eq_getElem?_getD,List.getElem?_eq_getElem hj']
      exact List.getElem_mem _
    have:=(Norm.sorted h.2.2).2 _ hm
    show p.2 ≤ (getP r j).2
    lia
  | p :: r,b,h,i + 1,0,hij,_=>by lia
  | p :: r,b,h,i + 1,j + 1,hij,hj=>norm_rise (l:=r) h.2.2 i j (by exact Nat.le_of_lt_succ hij) (by simpa using hj)

theorem idx_pair {l:List IPr} {k:Nat} (h:k < l.length):idx (l.map pairD) (k:Int)=some (pairD (getP l k)):=by
  refine idx_int (by exact Int.natCast_nonneg k) ?_
  rw [Int.toNat_natCast,List.getElem?_map,List.getElem?_eq_getElem h]
  simp [getP,List.getD_eq_getElem?_getD,List.getElem?_eq_getElem h]

noncomputable def hBody:Ss:=.cons (.asg 4 (.bin .fdiv (.bin .add (.loc 2) (.loc 3)) (.cst (.int 2)))) (.cons (.iff (.cmp .lt (.sub (.sub (.loc 0) (.loc 4)) (.cst (.int 1))) (.loc 1)) (.cons (.asg 2 (.bin .add (.loc 4) (.cst (.int 1)))) .nil) (.cons (.asg 3 (.loc 4)) .nil)) .nil)
theorem whlF_go {cond:Ro→Store→R Bool} {body:Ro→Store→R (Ro × Fl)} {n:Nat} {ρ ρ₂:Ro} {σ σ₁ σ₂:Store} (h:cond ρ σ=.ok true σ₁) (e:body ρ σ₁=.ok (ρ₂,.nxt) σ₂):whlF cond body (n + 1) ρ σ=whlF cond body n ρ₂ σ₂:=by
  show (R.bind (cond ρ σ) _)=_
  rw [h]
  show (R.bind (body ρ σ₁) _)=_
  rw [e]
  rfl
theorem whlF_end {cond:Ro→Store→R Bool} {body:Ro→Store→R (Ro × Fl)} {n:Nat} {ρ:Ro} {σ σ₁:Store} (h:cond ρ σ=.ok false σ₁):whlF cond body (n + 1) ρ σ=.ok (ρ,.nxt) σ₁:=by
  show (R.bind (cond ρ σ) _)=_
  rw [h]
  rfl
noncomputable def hRo (rs:List IPr) (c lo hi:Int) (m:Option V):Ro:=[some (.d (.tup (rs.map pairD))),some (.d (.int c)),some (.d (.int lo)),some (.d (.int hi)),m]
theorem h_cond {G:Nat→D} {H:Hd} {rs:List IPr} {c lo hi:Int} {m:Option V} {σ:Store}:toB (evE G H (.cmp .lt (.loc 2) (.loc 3)) (hRo rs c lo hi m) σ)=.ok (decide (lo < hi)) σ:=by
  unfold hRo
  simp only [xEa,xEi,Ro.get,gs,gz,js,locV_d,ofOpt_some,toD_ok,toB_ok,bind_ok,ms,Cc]
theorem h_stepI {G:Nat→D} {H:Hd} {N:Nat} {rs:List IPr} {c lo hi k:Int} {p:IPr} {m:Option V} {σ:Store} (hm:(lo + hi) / 2=k) (hi2:idx (rs.map pairD) k=some (pairD p)) (h2:k < 1000000) :
    evSs G H N hBody (hRo rs c lo hi m) σ=.ok (if p.2 < c then hRo rs c (k + 1) hi (some (.d (.int k))) else hRo rs c lo k (some (.d (.int k))),.nxt) σ:=by
  subst hm
  have hv:evE G H (.sub (.sub (.loc 0) (.loc 4)) (.cst (.int 1))) (hRo rs c lo hi (some (.d (.int ((lo + hi) / 2))))) σ=.ok (.d (.int p.2)) σ:=rsub (rsub rfl rfl (rsubD ((if_pos h2).trans hi2))) rfl rfl
  by_cases hc:p.2 < c
  · rw [if_pos hc]
    exact rasg rfl (riff1 (rcmp hv rfl (congrArg some (decide_eq_true hc))) rfl rfl)
  · rw [if_neg hc]
    exact rasg rfl (riff0 (rcmp hv rfl (congrArg some (decide_eq_false hc))) rfl rfl)
theorem h_step {G:Nat→D} {H:Hd} {N:Nat} {rs:List IPr} {c:Int} {lo hi k:Nat} {m:Option V} {σ:Store} (hm:((lo:Int) + hi) / 2=(k:Int)) (hk:k < rs.length) (h2:(k:Int) < 1000000) :
    evSs G H N hBody (hRo rs c lo hi m) σ=.ok (if (getP rs k).2 < c then hRo rs c ((k:Int) + 1) hi (some (.d (.int k))) else hRo rs c lo k (some (.d (.int k))),.nxt) σ:=h_stepI hm (idx_pair hk) h2
theorem h_end {G:Nat→D} {H:Hd} {N:Nat} {rs:List IPr} {c k L:Int} {m:Option V} {σ:Store} {x:Bool} (hL:(rs.map pairD).length ≤ LIM) (hrl:((rs.map pairD).length:Int)=L) (hp:k < L→∃ p,idx (rs.map pairD) k=some (pairD p)∧k < 1000000∧decide (p.1 ≤ c)=x) :
    retOf (evSs G H N (.cons (.ret (.bop true (.cons (.cmp .lt (.loc 2) (.bi .len (.cons (.loc 0) .nil))) (.cons (.cmp .le (.sub (.sub (.loc 0) (.loc 2)) (.cst (.int 0))) (.loc 1)) .nil)))) .nil) (hRo rs c k k m) σ)=.ok (.bool (decide (k < L) && x)) σ:=by
  subst hrl
  by_cases hk:k < ((rs.map pairD).length:Int)
  · refine Xeaaa (hp hk) fun p hi h2 hx=>?_
    have hv:evE G H (.sub (.sub (.loc 0) (.loc 2)) (.cst (.int 0))) (hRo rs c k k m) σ=.ok (.d (.int p.1)) σ:=rsub (rsub rfl rfl (rsubD ((if_pos h2).trans hi))) rfl rfl
    rw [decide_eq_true hk]
    cases x with
    | true=>exact rr (rret (rbop (rb1 (rcmp rfl (rbi rfl rfl (if_pos hL)) (congrArg some (decide_eq_true hk))) (rb1 (rcmp hv rfl (congrArg some hx)) rfl))))
    | false=>exact rr (rret (rbop (rb1 (rcmp rfl (rbi rfl rfl (if_pos hL)) (congrArg some (decide_eq_true hk))) (rb0 (rcmp hv rfl (congrArg some hx))))))
  · rw [decide_eq_false hk]
    exact rr (rret (rbop (rb0 (rcmp rfl (rbi rfl rfl (if_pos hL)) (congrArg some (decide_eq_false hk))))))
noncomputable def hW (G:Nat→D) (H:Hd) (N fuel:Nat) (ρ:Ro) (σ:Store):R (Ro × Fl):=whlF (fun ρ σ=>toB (evE G H (.cmp .lt (.loc 2) (.loc 3)) ρ σ)) (fun ρ σ=>evSs G H N hBody ρ σ) fuel ρ σ
theorem mid {lo hi:Nat} (h:lo < hi):lo ≤ (lo + hi) / 2∧(lo + hi) / 2 < hi:=by omega
theorem near {lo hi k d:Nat} (h:hi - lo ≤ d + 1) (a:lo ≤ k) (b:k < hi):hi - (k + 1) ≤ d∧k - lo ≤ d:=by omega
theorem h_loop {G:Nat→D} {H:Hd} {N:Nat} {rs:List IPr} {c b:Int} {σ:Store} (hn:Norm b rs) (hl:rs.length ≤ 100):∀ (d lo hi fuel:Nat) (m:Option V),hi - lo ≤ d→lo ≤ hi→hi ≤ rs.length→d < fuel→(∀ i,i < lo→(getP rs i).2 < c)→(∀ i,hi ≤ i→i < rs.length→c ≤ (getP rs i).2) →
    ∃ (k:Nat) (m':Option V),hW G H N fuel (hRo rs c lo hi m) σ=.ok (hRo rs c k k m',.nxt) σ∧k ≤ rs.length∧(∀ i,i < k→(getP rs i).2 < c)∧(∀ i,k ≤ i→i < rs.length→c ≤ (getP rs i).2):=by
  intro d
  induction d with
  | zero =>
    intro lo hi fuel m h1 h2 h3 h4 h5 h6
    obtain rfl:lo=hi:=Nat.le_antisymm h2 (Nat.le_of_sub_eq_zero (Nat.le_zero.mp h1))
    cases fuel with
    | zero=>exact absurd h4 (Nat.lt_irrefl _)
    | succ fuel=>exact ⟨lo,m,whlF_end (h_cond.trans (by simp)),h3,h5,h6⟩
  | succ d ih =>
    intro lo hi fuel m h1 h2 h3 h4 h5 h6
    cases fuel with
    | zero=>exact absurd h4 (Nat.not_lt_zero _)
    | succ fuel =>
      by_cases hlt:lo < hi
      · refine Xaa (mid hlt) fun k1 k2=>?_
        have hm1:=Nat.lt_of_lt_of_le k2 h3
        have st:=h_step (G:=G) (H:=H) (N:=N) (c:=c) (m:=m) (σ:=σ) (lo:=lo) (hi:=hi) rfl hm1 (Int.ofNat_lt.mpr (Nat.lt_of_lt_of_le hm1 (Nat.le_trans hl (by decide))))
        generalize (lo + hi) / 2=k at *
        refine Xaa (near h1 k1 k2) fun g1 g2=>?_
        have h4:=Nat.lt_of_succ_lt_succ h4
        by_cases hc:(getP rs k).2 < c
        · rw [if_pos hc] at st
          refine Xeea (ih (k + 1) hi fuel (some (.d (.int k))) g1 k2 h3 h4 (fun i hi'=>Int.lt_of_le_of_lt (norm_rise hn i k (Nat.le_of_lt_succ hi') hm1) hc) h6) fun k' m' r=>?_
          exact ⟨k',m',(whlF_go (h_cond.trans (by simp [hlt])) st).trans r.1,r.2⟩
        · rw [if_neg hc] at st
          refine Xeea (ih lo k fuel (some (.d (.int k))) g2 k1 (Nat.le_of_lt hm1) h4 h5 (fun i hi' hi3=>Int.le_trans (Int.not_lt.mp hc) (norm_rise hn k i hi' hi3))) fun k' m' r=>?_
          exact ⟨k',m',(whlF_go (h_cond.trans (by simp [hlt])) st).trans r.1,r.2⟩
      · obtain rfl:lo=hi:=Nat.le_antisymm h2 (Nat.le_of_not_lt hlt)
        exact ⟨lo,m,whlF_end (h_cond.trans (by simp)),h3,h5,h6⟩

theorem has_ok {n:Nat} {rs:List IPr} {c b:Int} {σ:Store} (hn:Norm b rs) (hl:rs.length ≤ 100):∃ t,callN gT fT 200 (n + 1) 11 [.d (.tup (rs.map pairD)),.d (.int c)] σ=.ok (.bool t) σ∧(t=true ↔ cov rs c):=by
  rw [callN_eq (by rfl) (by rfl)]
  show ∃ t,retOf (evSs gT (callN gT fT 200 n) 200 f_has [some (.d (.tup (rs.map pairD))),some (.d (.int c)),none,none,none] σ)=_∧_
  have lm:∀ n:Nat,n ≤ 1000→n ≤ LIM:=fun n h=>lim_lit h
  have hL:(rs.map pairD).length ≤ LIM:=lm _ (by simp; lia)
  refine Xeeaaaa (h_loop (G:=gT) (H:=callN gT fT 200 n) (N:=200) (c:=c) (σ:=σ) hn hl rs.length 0 rs.length 200 none (by exact Nat.sub_le rs.length 0) (by lia) (Nat.le_refl _) (by lia) (fun i h=>by lia) (fun i h h'=>by lia)) fun k m' e r1 r2 r3=>?_
  have hrl:((rs.map pairD).length:Int)=rs.length:=by simp
  have body:retOf (evSs gT (callN gT fT 200 n) 200 f_has [some (.d (.tup (rs.map pairD))),some (.d (.int c)),none,none,none] σ)=.ok (.bool (decide ((k:Int) < rs.length) && decide ((getP rs k).1 ≤ c))) σ:=by
    exact rq (rn rfl (rasg (rbi rfl rfl ((if_pos hL).trans (congrArg (fun n:Nat=>some (D.int n)) (List.length_map pairD)))) (rn e rfl))) (h_end hL hrl (fun hk=>⟨getP rs k,idx_pair (Int.ofNat_lt.mp hk),Int.lt_trans hk (Int.ofNat_lt.mpr (Nat.lt_of_le_of_lt hl (by decide))),rfl⟩))
  refine ⟨_,body,?_⟩
  simp only [Bool.and_eq_true,decide_eq_true_eq]
  have mem:∀ j,j < rs.length→getP rs j ∈ rs:=fun j hj=>by
    unfold getP
    rw [List.getD_eq_getElem?_getD,List.getElem?_eq_getElem hj]
    exact List.getElem_mem _
  constructor
  · rintro ⟨h1,h2⟩
    have hk:k < rs.length:=by lia
    exact ⟨_,mem k hk,h2,r3 k (Nat.le_refl _) hk⟩
  · rintro ⟨p,hp,h1,h2⟩
    obtain ⟨j,hj,rfl⟩:=List.getElem_of_mem hp
    have e:getP rs j=rs[j]:=by simp [getP,List.getD_eq_getElem?_getD,List.getElem?_eq_getElem hj]
    have hkj:k ≤ j:=by
      rcases Nat.lt_or_ge j k with h | h
      · have:=r2 j h; rw [e] at this; lia
      · exact h
    refine ⟨by lia,?_⟩
    rcases Nat.lt_or_ge k j with h | h
    · have hs:=(Norm.sorted hn).1
      have hk:k < rs.length:=by exact Nat.lt_of_le_of_lt hkj hj
      have:=List.pairwise_iff_getElem.mp (ple_fst hs) k j hk hj h
      have e2:getP rs k=rs[k]:=by simp [getP,List.getD_eq_getElem?_getD,List.getElem?_eq_getElem hk]
      rw [e2]; exact Int.le_trans this h1
    · obtain rfl:k=j:=by exact Nat.le_antisymm hkj h
      rw [e]; exact h1
structure Inv (off:Int) (ps:List IPr) (rw':List Bool):Prop where
  len:rw'.length=40
  rng:∀ p ∈ ps,off ≤ p.1∧p.1 ≤ p.2∧p.2 ≤ off + 39
  row:∀ i,i < 40→(rw'.getD i false=true ↔ cov ps ((i:Int) + off))

theorem cov_snoc {ps:List IPr} {p:IPr} {c:Int}:cov (ps++[p]) c ↔ cov ps c∨(p.1 ≤ c∧c ≤ p.2):=by
  constructor
  · rintro ⟨q,hq,h⟩
    rcases List.mem_append.mp hq with hq | hq
    · exact .inl ⟨q,hq,h⟩
    · rw [List.mem_singleton.mp hq] at h; exact .inr h
  · rintro (⟨q,hq,h⟩ | h)
    · exact ⟨q,List.mem_append_left _ hq,h⟩
    · exact ⟨p,List.mem_append_right _ (.head _),h⟩

theorem fill_len {r:List Bool} {a b:Nat} (hl:r.length=40) (h1:a ≤ b) (h2:b ≤ 39):(r.take a++List.replicate (b + 1 - a) true++r.drop (b + 1)).length=40:=by
  rw [List.length_append,List.length_append,List.length_take,List.length_replicate,List.length_drop,hl,Nat.min_eq_left (Nat.le_trans h1 (Nat.le_succ_of_le h2))]; omega
theorem fill_at {r:List Bool} {a b i:Nat} (hl:r.length=40) (h1:a ≤ b) (h2:b ≤ 39):(r.take a++List.replicate (b + 1 - a) true++r.drop (b + 1)).getD i false=true ↔ r.getD i false=true∨(a ≤ i∧i ≤ b):=by
  rw [List.getD_eq_getElem?_getD,List.getD_eq_getElem?_getD,List.append_assoc]
  have e:(r.take a).length=a:=by rw [List.length_take,hl]; exact Nat.min_eq_left (Nat.le_trans h1 (Nat.le_succ_of_le h2))
  rcases Nat.lt_or_ge i a with c | c
  · rw [List.getElem?_append_left (by rw [e]; exact c),List.getElem?_take_of_lt c]
    exact ⟨.inl,fun h=>h.elim id fun h=>absurd h.1 (Nat.not_le.mpr c)⟩
  · rw [List.getElem?_append_right (by rw [e]; exact c),e]
    rcases Nat.lt_or_ge b i with c2 | c2
    · rw [List.getElem?_append_right (by rw [List.length_replicate]; exact Nat.sub_le_sub_right c2 a),List.length_replicate,List.getElem?_drop,show b + 1 + (i - a - (b + 1 - a))=i by clear hl h2; omega]
      exact ⟨.inl,fun h=>h.elim id fun h=>absurd h.2 (Nat.not_le.mpr c2)⟩
    · rw [List.getElem?_append_left (by rw [List.length_replicate]; clear hl h2; omega),List.getElem?_replicate,if_pos (by clear hl h2; omega)]
      exact ⟨fun _=>.inr ⟨c,c2⟩,fun _=>rfl⟩
theorem Inv.step {off:Int} {ps:List IPr} {rw':List Bool} (v:Inv off ps rw') {f l:Int} (h0:0 ≤ f) (h1:f ≤ l) (h2:l ≤ 39) :
    Inv off (ps++[(f + off,l + off)]) (rw'.take f.toNat++List.replicate (l + 1 - f).toNat true++rw'.drop (l + 1).toNat):=by
  obtain ⟨a,rfl⟩:=Int.eq_ofNat_of_zero_le h0
  obtain ⟨b,rfl⟩:=Int.eq_ofNat_of_zero_le (Int.le_trans h0 h1)
  have g1:=Int.ofNat_le.mp h1
  have g2:b ≤ 39:=Int.ofNat_le.mp h2
  show Inv off _ (rw'.take a++List.replicate ((b:Int) + 1 - a).toNat true++rw'.drop (b + 1))
  rw [show ((b:Int) + 1 - a).toNat=b + 1 - a from Int.toNat_sub (b + 1) a]
  refine ⟨fill_len v.len g1 g2,fun p hp=>?_,fun i hi=>?_⟩
  · rcases List.mem_append.mp hp with hp | hp
    · exact v.rng p hp
    · rw [List.mem_singleton.mp hp]
      exact ⟨Int.le_add_of_nonneg_left h0,Int.add_le_add_right h1 off,by rw [Int.add_comm off]; exact Int.add_le_add_right h2 off⟩
  · rw [cov_snoc,← v.row i hi,fill_at v.len g1 g2]
    exact or_congr .rfl (and_congr (Int.ofNat_le.symm.trans (Int.add_le_add_iff_right off).symm) (Int.ofNat_le.symm.trans (Int.add_le_add_iff_right off).symm))

noncomputable def fillBody:Ss:=.cons (.asg 5 (.call 37 (.cons (.loc 0) (.cons (.cst (.int 40)) .nil)))) (.cons (.asg 6 (.bi .min (.cons (.cst (.int 39)) (.cons (.bin .add (.loc 5) (.call 37 (.cons (.loc 0) (.cons (.cst (.int 8)) .nil)))) .nil)))) (.cons (.append 2 (.tup (.cons (.bin .add (.loc 5) (.loc 1)) (.cons (.bin .add (.loc 6) (.loc 1)) .nil)))) (.cons (.setSlice 3 (.loc 5) (.bin .add (.loc 6) (.cst (.int 1))) (.bin .mul (.lst (.cons (.cst (.bool true)) .nil)) (.bin .sub (.bin .add (.loc 6) (.cst (.int 1))) (.loc 5)))) .nil)))

noncomputable def lRo (off:Int) (ps:List IPr) (rw':List Bool) (t f l:Option V):Ro:=[some .box,some (.d (.int off)),some (.own (ps.map pairD)),some (.own (rw'.map D.bool)),t,f,l,none,none,none,none,none,none]

theorem fill_step {off:Int} {ps:List IPr} {rw':List Bool} {t f l:Option V} {σ:Store} (hp:ps.length ≤ 50) (v:Inv off ps rw') (vs:Valid σ) :
    ∃ ps' rw'' f' l' σ',evSs gT (callN gT fT 200 20) 200 fillBody (lRo off ps rw' t f l) σ=.ok (lRo off ps' rw'' t f' l',.nxt) σ'∧Inv off ps' rw''∧Valid σ'∧ps'.length=ps.length + 1:=by
  obtain ⟨i,σ₁,t1,i0,i1,v1⟩:=take_ok (N:=200) (n:=19) vs (m:=40) (by decide)
  obtain ⟨j,σ₂,t2,j0,j1,v2⟩:=take_ok (N:=200) (n:=19) v1 (m:=8) (by decide)
  have t1:callN gT fT 200 20 37 [V.box,V.d (D.int 40)] σ=.ok (.int i) σ₁:=t1
  have t2:callN gT fT 200 20 37 [V.box,V.d (D.int 8)] σ₁=.ok (.int j) σ₂:=t2
  have lm:∀ n:Nat,n ≤ 1000→n ≤ LIM:=fun n h=>lim_lit h
  generalize hm:min 39 (i + j)=k
  have k1:i ≤ k:=by lia
  have k2:k ≤ 39:=by lia
  have h1:(ps.map pairD).length ≤ LIM:=lm _ (by simp; lia)
  have hr:(rw'.map D.bool).length=40:=by simp [v.len]
  have c1:(0:Int) ≤ k + 1 - i∧k + 1 - i ≤ (LIM:Int):=by unfold LIM; lia
  have e:setSl (rw'.map D.bool) i (k + 1) (.lst (List.replicate (k + 1 - i).toNat (.bool true)))=some ((rw'.take i.toNat++List.replicate (k + 1 - i).toNat true++rw'.drop (k + 1).toNat).map D.bool):=by
    have c2:0 ≤ i∧i ≤ k + 1∧k + 1 ≤ ((40:Nat):Int)∧40 ≤ LIM∧(List.replicate (k + 1 - i).toNat (D.bool true)).length ≤ LIM:=⟨i0,by exact Int.le_add_one k1,by lia,by decide,by rw [List.length_replicate]; exact lm _ (by lia)⟩
    show (if 0 ≤ i∧i ≤ k + 1∧k + 1 ≤ (((rw'.map D.bool).length:Nat):Int)∧(rw'.map D.bool).length ≤ LIM∧(List.replicate (k + 1 - i).toNat (D.bool true)).length ≤ LIM then _ else _)=_
    rw [hr,if_pos c2]
    simp
  refine ⟨ps++[(i + off,k + off)],_,some (.d (.int i)),some (.d (.int k)),σ₂,?_,v.step i0 k1 k2,v2,by simp⟩
  unfold lRo
  rw [show (ps++[(i + off,k + off)]).map pairD=ps.map pairD++[pairD (i + off,k + off)] from List.map_append]
  exact rasg (rcall rfl t1) (rasg (rbi (rvs rfl (rvs (rbin rfl (rcall rfl t2) rfl) rfl)) rfl (congrArg (fun z=>some (D.int z)) hm)) (rapp rfl rfl h1 (rslc rfl (rbin rfl rfl (if_pos c1)) rfl rfl e rfl)))

theorem fill_loop {off:Int}:∀ (xs:List D) (ps:List IPr) (rw':List Bool) (t f l:Option V) (σ:Store),ps.length + xs.length ≤ 50→Inv off ps rw'→Valid σ →
    ∃ ps' rw'' t' f' l' σ',forF (fun ρ d=>bindT ρ [4] d) (fun ρ σ=>evSs gT (callN gT fT 200 20) 200 fillBody ρ σ) xs (lRo off ps rw' t f l) σ=.ok (lRo off ps' rw'' t' f' l',.nxt) σ'∧Inv off ps' rw''∧Valid σ'∧ps'.length=ps.length + xs.length
  | [],ps,rw',t,f,l,σ,_,v,vs=>⟨ps,rw',t,f,l,σ,rfl,v,vs,rfl⟩
  | x :: xs,ps,rw',t,f,l,σ,h,v,vs=>by
    simp only [List.length_cons] at h
    obtain ⟨ps₁,rw₁,f₁,l₁,σ₁,e,v₁,vs₁,hl⟩:=fill_step (t:=some (.d x)) (f:=f) (l:=l) (by exact Nat.le_of_add_right_le h) v vs
    obtain ⟨ps₂,rw₂,t₂,f₂,l₂,σ₂,e₂,v₂,vs₂,hl₂⟩:=fill_loop xs ps₁ rw₁ (some (.d x)) f₁ l₁ σ₁ (by lia) v₁ vs₁
    have hb:bindT (lRo off ps rw' t f l) [4] x=some (lRo off ps rw' (some (.d x)) f l):=by cases x <;> rfl
    exact ⟨ps₂,rw₂,t₂,f₂,l₂,σ₂,by rw [forF_nxt hb e]; exact e₂,v₂,vs₂,by simp; lia⟩
theorem eqv_refl (n:Nat) (d:D) (h:okE n d=true):D.eqv d d=true:=PySem.SeqAt.eqv_refl (toP d) (okE_lay n d h).1
theorem ok_pairs (l:List IPr):okE 16 (.tup (l.map pairD))=true:=okE_pairs l
theorem eq_pairs (l:List IPr):eqD (.tup (l.map pairD)) (.tup (l.map pairD))=some true:=by
  show (if okE 16 (.tup (l.map pairD)) && okE 16 (.tup (l.map pairD)) then some (D.eqv _ _) else none)=_
  rw [ok_pairs,Bool.and_self,if_pos rfl,eqv_refl 16 _ (ok_pairs l)]

section
variable {bnd:D→Option Ro} {cond:Ro→Store→R Bool} {elt:Ro→Store→R D} {σ σ₁ σ₂:Store} {x y:D} {xs acc:List D} {ρ:Ro}
theorem compF_nil (h:acc.length ≤ LIM):compF bnd cond elt [] acc σ=.ok (.lst acc) σ:=if_pos h
theorem compF_yes (h1:bnd x=some ρ) (h2:cond ρ σ=.ok true σ₁) (h3:elt ρ σ₁=.ok y σ₂):compF bnd cond elt (x :: xs) acc σ=compF bnd cond elt xs (acc++[y]) σ₂:=by
  show (match bnd x with
    | none=>R.bad
    | some ρ=>(cond ρ σ).bind fun c σ₁=>match c with
      | true=>(elt ρ σ₁).bind fun y σ₂=>compF bnd cond elt xs (acc++[y]) σ₂
      | false=>compF bnd cond elt xs acc σ₁)=_
  rw [h1]
  show (cond ρ σ).bind _=_
  rw [h2]
  show (elt ρ σ₁).bind _=_
  rw [h3]; rfl
theorem compF_no (h1:bnd x=some ρ) (h2:cond ρ σ=.ok false σ₁):compF bnd cond elt (x :: xs) acc σ=compF bnd cond elt xs acc σ₁:=by
  show (match bnd x with
    | none=>R.bad
    | some ρ=>(cond ρ σ).bind fun c σ₁=>match c with
      | true=>(elt ρ σ₁).bind fun y σ₂=>compF bnd cond elt xs (acc++[y]) σ₂
      | false=>compF bnd cond elt xs acc σ₁)=_
  rw [h1]
  show (cond ρ σ).bind _=_
  rw [h2]; rfl
end
theorem compF_none {bnd:D→Option Ro} {cond:Ro→Store→R Bool} {elt:Ro→Store→R D} {σ:Store}:∀ (xs acc:List D),acc.length ≤ LIM→(∀ x ∈ xs,∃ ρ,bnd x=some ρ∧cond ρ σ=.ok false σ)→compF bnd cond elt xs acc σ=.ok (.lst acc) σ
  | [],acc,h,_=>compF_nil h
  | x :: xs,acc,h,hx=>(hx x (.head _)).elim fun _ q=>(compF_no q.1 q.2).trans (compF_none xs acc h fun y hy=>hx y (.tail _ hy))

theorem eqDb {a b:Bool}:eqD (.bool a) (.bool b)=some (a == b):=by
  cases a with
  | _=>cases b with
    | _=>rfl
theorem norm_zip:∀ {l:List IPr} {b:Int},Norm b l→∀ p q,(p,q) ∈ l.zip (l.drop 1)→p.2 + 1 < q.1
  | [],b,_,p,q,h=>by simp at h
  | [a],b,_,p,q,h=>by simp at h
  | a :: c :: r,b,hn,p,q,h=>by
    rw [List.drop_one,List.tail_cons,List.zip_cons_cons] at h
    rcases List.mem_cons.mp h with h | h
    · cases h; exact hn.2.2.1
    · exact norm_zip (l:=c :: r) hn.2.2 p q (by rw [List.drop_one]; exact h)

noncomputable def l2Ro (off:Int) (ps M I:List IPr) (rw':List Bool) (t f l a b:Option V):Ro:=[some .box,some (.d (.int off)),some (.d (.lst (ps.map pairD))),some (.d (.lst (rw'.map D.bool))),t,f,l,some (.d (.tup (M.map pairD))),some (.d (.tup (I.map pairD))),a,b,none,none]

noncomputable def atBody:Ss:=.cons (.iff (.bop false (.cons (.cmp .ne (.call 11 (.cons (.loc 7) (.cons (.bin .add (.loc 9) (.loc 1)) .nil))) (.sub (.loc 3) (.loc 9))) (.cons (.cmp .eq (.call 11 (.cons (.loc 8) (.cons (.bin .add (.loc 9) (.loc 1)) .nil))) (.sub (.loc 3) (.loc 9))) .nil))) (.cons (.ret (.cst (.bool false))) .nil) .nil) .nil

theorem at_step {off k:Int} {ps M I:List IPr} {rw':List Bool} {t f l b:Option V} {σ:Store} {r:Bool} (h1:callN gT fT 200 20 11 [.d (.tup (M.map pairD)),.d (.int (k + off))] σ=.ok (.bool r) σ) (h2:callN gT fT 200 20 11 [.d (.tup (I.map pairD)),.d (.int (k + off))] σ=.ok (.bool (!r)) σ)
    (hk:k < 1000000) (hr:idx (rw'.map D.bool) k=some (.bool r)) :
    evSs gT (callN gT fT 200 20) 200 atBody (l2Ro off ps M I rw' t f l (some (.d (.int k))) b) σ=.ok (l2Ro off ps M I rw' t f l (some (.d (.int k))) b,.nxt) σ:=by
  have hs:evE gT (callN gT fT 200 20) (.sub (.loc 3) (.loc 9)) (l2Ro off ps M I rw' t f l (some (.d (.int k))) b) σ=.ok (.d (.bool r)) σ:=rsub rfl rfl (rsubD ((if_pos hk).trans hr))
  exact riff0 (rbop (rb1 (rcmp (rcall rfl h1) hs (by cases r with
    | _=>rfl)) (rb1 (rcmp (rcall rfl h2) hs (by cases r with
    | _=>rfl)) rfl))) rfl rfl

theorem at_loop {off:Int} {ps M I:List IPr} {rw':List Bool} {t f l b:Option V} {σ:Store}:∀ (xs:List D) (a:Option V),(∀ x ∈ xs,∃ k:Int,x=.int k∧k < 1000000∧∃ r,callN gT fT 200 20 11 [.d (.tup (M.map pairD)),.d (.int (k + off))] σ=.ok (.bool r) σ∧callN gT fT 200 20 11 [.d (.tup (I.map pairD)),.d (.int (k + off))] σ=.ok (.bool (!r)) σ∧idx (rw'.map D.bool) k=some (.bool r)) →
    ∃ a',forF (fun ρ d=>bindT ρ [9] d) (fun ρ σ=>evSs gT (callN gT fT 200 20) 200 atBody ρ σ) xs (l2Ro off ps M I rw' t f l a b) σ=.ok (l2Ro off ps M I rw' t f l a' b,.nxt) σ
  | [],a,_=>⟨a,rfl⟩
  | x :: xs,a,h=>by
    refine Xeaaeaaa (h x (.head _)) fun k zz1 hk r h1 h2 h3=>?_; subst zz1
    obtain ⟨a',e⟩:=at_loop (b:=b) xs (some (.d (.int k))) fun y hy=>h y (.tail _ hy)
    have hb:bindT (l2Ro off ps M I rw' t f l a b) [9] (.int k)=some (l2Ro off ps M I rw' t f l (some (.d (.int k))) b):=rfl
    exact ⟨a',by rw [forF_nxt hb (at_step h1 h2 hk h3)]; exact e⟩

noncomputable def tailL:Ss:=.cons (.asg 10 (.comp (.cst (.int 1)) [11,12] (.zip (.loc 7) (.slcFrom (.loc 7) (.cst (.int 1)))) (.cons (.cmp .ge (.bin .add (.sub (.loc 11) (.cst (.int 1))) (.cst (.int 1))) (.sub (.loc 12) (.cst (.int 0)))) .nil))) (.cons (.ret (.bop true (.cons (.cmp .eq (.loc 10) (.lst .nil)) (.cons (.not (.call 11 (.cons (.loc 7) (.cons (.cst (.int 1000)) .nil)))) (.cons (.call 11 (.cons (.loc 8) (.cons (.cst (.int 1000)) .nil))) .nil))))) .nil)

theorem tailL_ok {off:Int} {ps M I:List IPr} {rw':List Bool} {t f l a:Option V} {σ:Store} {bb:Int} (hn:Norm bb M) (hl:M.length ≤ 50) (h1:callN gT fT 200 20 11 [.d (.tup (M.map pairD)),.d (.int 1000)] σ=.ok (.bool false) σ) (h2:callN gT fT 200 20 11 [.d (.tup (I.map pairD)),.d (.int 1000)] σ=.ok (.bool true) σ) :
    retOf (evSs gT (callN gT fT 200 20) 200 tailL (l2Ro off ps M I rw' t f l a none) σ)=.ok (.bool true) σ:=by
  have lm:∀ n:Nat,n ≤ 1000→n ≤ LIM:=fun n h=>lim_lit h
  have hL:(M.map pairD).length ≤ LIM:=lm _ (by simp; lia)
  have hz:zipItems (.tup (M.map pairD)) (.tup ((M.map pairD).drop 1))=some (((M.zip (M.drop 1)).map fun p=>D.tup [pairD p.1,pairD p.2])):=by
    show (if (M.map pairD).length ≤ LIM then some _ else none)=_
    rw [if_pos hL,← List.map_drop,List.zip_map,List.map_map]
    rfl
  have hs:slcFromD (.tup (M.map pairD)) 1=some (.tup ((M.map pairD).drop 1)):=by
    show (if (1:Int)=1∧(M.map pairD).length ≤ LIM then some (D.tup ((M.map pairD).drop 1)) else none)=_
    rw [if_pos ⟨rfl,hL⟩]
  have hc:compF (bindT (l2Ro off ps M I rw' t f l a none) [11,12]) (fun ρ σ=>evBs gT (callN gT fT 200 20) true (.cons (.cmp .ge (.bin .add (.sub (.loc 11) (.cst (.int 1))) (.cst (.int 1))) (.sub (.loc 12) (.cst (.int 0)))) .nil) ρ σ) (fun ρ σ=>toD (evE gT (callN gT fT 200 20) (.cst (.int 1)) ρ σ)) ((M.zip (M.drop 1)).map fun p=>D.tup [pairD p.1,pairD p.2]) [] σ=.ok (.lst []) σ:=by
    refine compF_none _ _ (lm 0 (by decide)) fun x hx=>?_
    refine Xeaa (List.mem_map.mp hx) fun pq hpq zz1=>?_; subst zz1
    obtain ⟨p,q⟩:=pq
    have hlt:=norm_zip hn p q hpq
    have hd:decide (q.1 ≤ p.2 + 1)=false:=by simp; omega
    refine ⟨[some .box,some (.d (.int off)),some (.d (.lst (ps.map pairD))),some (.d (.lst (rw'.map D.bool))),t,f,l,some (.d (.tup (M.map pairD))),some (.d (.tup (I.map pairD))),a,none,some (.d (pairD p)),some (.d (pairD q))],rfl,?_⟩
    exact rb0 (rcmp (rbin (rsub rfl rfl rfl) rfl rfl) (rsub rfl rfl rfl) (congrArg some hd))
  exact rr (rasg (rcomp (rzip rfl (rslcF rfl rfl hs) hz) hc) (rret (rbop (rb1 (rcmp rfl rfl (show eqD (.lst []) (.lst [])=some true from rfl)) (rb1 (rnot (rcall rfl h1)) (rb1 (rcall rfl h2) rfl))))))
theorem bool_ext {a b:Bool} (h:a=true ↔ b=true):a=b:=by
  cases a <;> cases b <;> simp_all

theorem lots_after {off:Int} {ps:List IPr} {rw':List Bool} {t f l:Option V} {σ:Store} (ho:off=0∨off=65496) (h4:ps.length ≤ 4) (v:Inv off ps rw') :
    retOf (evSs gT (callN gT fT 200 20) 200 (tailS 3 f_law_lots_right) (lRo off ps rw' t f l) σ)=.ok (.bool true) σ:=by
  have lm:∀ n:Nat,n ≤ 1000→n ≤ LIM:=fun n h=>lim_lit h
  have mok:MOK ps (off - 1) (off + 39):=merged_pure h4 fun p hp=>by have:=v.rng p hp; grind
  have m1:=merged_ok (N:=200) (n:=19) (d:=.lst (ps.map pairD)) (σ:=σ) h4 (.inr rfl)
  have m1:callN gT fT 200 20 9 [.d (.lst (ps.map pairD))] σ=.ok (.tup ((mergedP ps).map pairD)) σ:=m1
  generalize hM:mergedP ps=M at *
  have hn:=mok.norm
  rw [hM] at hn
  have htop:=mok.top
  rw [hM] at htop
  have hcov:=mok.cov
  rw [hM] at hcov
  have hlen:=mok.len
  rw [hM] at hlen
  have hM4:M.length ≤ 4:=by exact Nat.le_trans hlen h4
  have hn1:Norm (-1) M:=hn.mono (by lia)
  have ht:∀ p ∈ M,p.2 ≤ 65535:=fun p hp=>by have:=htop p hp; lia
  have m2:=merged_ok (N:=200) (n:=19) (d:=.tup (M.map pairD)) (σ:=σ) hM4 (.inl rfl)
  have m2:callN gT fT 200 20 9 [.d (.tup (M.map pairD))] σ=.ok (.tup ((mergedP M).map pairD)) σ:=m2
  rw [merged_id hM4 hn] at m2
  have i1:callN gT fT 200 20 10 [.d (.tup (M.map pairD))] σ=.ok (.tup ((invP M).map pairD)) σ:=inverted_ok (N:=200) (n:=19) (by lia)
  refine Xaaa (inv_norm M 0 (-1) hn1 ht (by lia)) fun in1 in2 in3=>?_
  have icov:=fun c=>inv_cov M 0 c hn1 ht
  have iback:invP (invP M)=M:=inv_inv hn1 ht
  have hI:invR 0 M=invP M:=rfl
  rw [hI] at in1 in2 in3
  simp only [hI] at icov
  generalize hIe:invP M=I at *
  have i2:callN gT fT 200 20 10 [.d (.tup (I.map pairD))] σ=.ok (.tup ((invP I).map pairD)) σ:=inverted_ok (N:=200) (n:=19) (by lia)
  rw [iback] at i2
  have hasM:∀ c,∃ b,callN gT fT 200 20 11 [.d (.tup (M.map pairD)),.d (.int c)] σ=.ok (.bool b) σ∧(b=true ↔ cov ps c):=fun c=>by
    refine Xeaa (has_ok (n:=19) (c:=c) (σ:=σ) hn1 (by lia)) fun b e h=>?_
    exact ⟨b,e,h.trans (hcov c)⟩
  have hasI:∀ c,∃ b,callN gT fT 200 20 11 [.d (.tup (I.map pairD)),.d (.int c)] σ=.ok (.bool b) σ∧(b=true ↔ 0 ≤ c∧c ≤ 65535∧¬ cov ps c):=fun c=>by
    refine Xeaa (has_ok (n:=19) (c:=c) (σ:=σ) in1 (by lia)) fun b e h=>?_
    refine ⟨b,e,h.trans ((icov c).trans ?_)⟩
    rw [hcov c]
  have hL:(M.map pairD).length ≤ LIM:=lm _ (by simp; lia)
  have hp:(ps.map pairD).length ≤ LIM:=lm _ (by simp; lia)
  have hd:decide (((ps.map pairD).length:Int) < ((M.map pairD).length:Int))=false:=by simp; lia
  have e2:cmpD .ne (.tup (M.map pairD)) (.tup (M.map pairD))=some false:=congrArg (Option.map not) (eq_pairs M)
  obtain ⟨a',ea⟩:=at_loop (off:=off) (ps:=ps) (M:=M) (I:=I) (rw':=rw') (t:=t) (f:=f) (l:=l) (b:=none) (σ:=σ) ((List.range 40).map fun (i:Nat)=>D.int (i:Int)) none fun x hx=>by
    refine Xeaa (List.mem_map.mp hx) fun k hk zz1=>?_; subst zz1
    have hk:=List.mem_range.mp hk
    refine Xeaa (hasM ((k:Int) + off)) fun b1 q1 r1=>?_
    refine Xeaa (hasI ((k:Int) + off)) fun b2 q2 r2=>?_
    have hrow:=v.row k hk
    have e1:b1=rw'.getD k false:=bool_ext (r1.trans hrow.symm)
    have e2:b2=!(rw'.getD k false):=by
      refine bool_ext ?_
      rw [r2,← hrow]
      cases rw'.getD k false
      · simp; lia
      · simp
    subst e1 e2
    refine ⟨k,rfl,by lia,rw'.getD k false,q1,q2,?_⟩
    refine idx_int (by lia) ?_
    rw [Int.toNat_natCast,List.getElem?_map,List.getElem?_eq_getElem (by rw [v.len]; exact hk)]
    simp [List.getD_eq_getElem?_getD,List.getElem?_eq_getElem (show k < rw'.length by rw [v.len]; exact hk)]
  refine Xeaa (hasM 1000) fun b1 q1 r1=>?_
  refine Xeaa (hasI 1000) fun b2 q2 r2=>?_
  have hno:¬ cov ps 1000:=fun ⟨p,hp,h1,h2⟩=>by have:=v.rng p hp; lia
  have e1:b1=false:=by
    cases b1
    · rfl
    · exact absurd (r1.mp rfl) hno
  have e2:b2=true:=r2.mpr ⟨by lia,by lia,hno⟩
  subst e1 e2
  exact rq (rn rfl (rn rfl (rasg (rcall rfl m1) (rasg (rcall rfl i1) (riff0 (rbop (rb1 (rcmp (rcall rfl m2) rfl e2) (rb1 (rcmp (rcall rfl i2) rfl e2) (rb1 (rcmp (rbi rfl rfl (if_pos hL)) (rbi rfl rfl (if_pos hp)) (congrArg some hd)) rfl)))) rfl (rforr (rrange rfl ⟨by decide,by decide⟩) ea rfl)))))) (tailL_ok hn1 (by lia) q1 q2)

theorem lots_right_ok {σ:Store} (v:Valid σ):∃ σ',callN gT fT 200 21 39 [.box] σ=.ok (.bool true) σ'∧Valid σ':=by
  obtain ⟨i,σ₁,t1,i0,i1,v1⟩:=take_ok (N:=200) (n:=19) v (m:=2) (by decide)
  obtain ⟨j,σ₂,t2,j0,j1,v2⟩:=take_ok (N:=200) (n:=19) v1 (m:=5) (by decide)
  have t1:callN gT fT 200 20 37 [V.box,V.d (D.int 2)] σ=.ok (.int i) σ₁:=t1
  have t2:callN gT fT 200 20 37 [V.box,V.d (D.int 5)] σ₁=.ok (.int j) σ₂:=t2
  have lm:∀ n:Nat,n ≤ 1000→n ≤ LIM:=fun n h=>lim_lit h
  obtain ⟨off,ho,hoff⟩:∃ off:Int,(off=0∨off=65496)∧idx [D.int 0,D.int (65535 - 39)] i=some (.int off):=by
    have:i=0∨i=1:=by lia
    rcases this with rfl | rfl
    · exact ⟨0,.inl rfl,idx_int (by decide) rfl⟩
    · exact ⟨65496,.inr rfl,idx_int (by decide) rfl⟩
  have inv0:Inv off [] (List.replicate 40 false):=⟨by simp,fun p hp=>(by cases hp),fun k hk=>by
    rw [List.getD_eq_getElem?_getD,List.getElem?_replicate,if_pos hk]
    simp only [Option.getD_some,Bool.false_eq_true,false_iff]
    exact cov_nil _⟩
  obtain ⟨ps,rw',t',f',l',σ₃,e,iv,v3,hl⟩:=fill_loop ((List.range j.toNat).map fun (i:Nat)=>D.int (i:Int)) [] (List.replicate 40 false) none none none σ₂ (by simp; lia) inv0 v2
  have h4:ps.length ≤ 4:=by
    rw [hl]; simp; exact (fun {a b}=>Int.le_iff_lt_add_one.mpr) j1
  refine ⟨σ₃,?_,v3⟩
  rw [callN_eq (by rfl) (by rfl)]
  show (retOf (evSs gT (callN gT fT 200 20) 200 f_law_lots_right [some .box,none,none,none,none,none,none,none,none,none,none,none,none] σ))=_
  have e0:evSs gT (callN gT fT 200 20) 200 f_law_lots_right [some .box,none,none,none,none,none,none,none,none,none,none,none,none] σ=evSs gT (callN gT fT 200 20) 200 (tailS 3 f_law_lots_right) (lRo off ps rw' t' f' l') σ₃:=by
    have c:(0:Int) ≤ j∧j ≤ (LIM:Int):=by unfold LIM; lia
    exact rasg (rsub rfl (rcall rfl t1) (rsubD ((if_pos (Int.lt_trans i1 (by decide))).trans hoff))) (rn rfl (rforr (rrange (rcall rfl t2) c) e rfl))
  rw [e0]
  exact lots_after ho h4 iv
noncomputable def codeAt (k:Nat):Int:=(casesD.getD k (0,.null)).1
noncomputable def caseAt (k:Nat):Int:=match (casesD.getD k (0,.null)).2 with
  | .int i=>i
  | _=>0
noncomputable def foldE:E:=.bin .add (.lst (.cons (.loc 1) (.cons (.loc 2) (.cons (.call 7 (.cons (.loc 2) .nil)) .nil)))) (.comp (.loc 4) [4] (.val (.glob 5)) (.cons (.cmp .eq (.sub (.glob 5) (.loc 4)) (.loc 2)) .nil))
noncomputable def foldL:List (List IPr):=[[(97,65),(65,65),(97,65)],[(122,90),(90,90),(122,90)],[(65,65),(65,65),(97,65)], [(90,90),(90,90),(122,90)],[(48,48),(48,48),(48,48)],[(95,95),(95,95),(95,95)], [(224,192),(192,192),(224,192)],[(254,222),(222,222),(254,222)],[(247,247),(247,247),(247,247)], [(215,215),(215,215),(215,215)],[(223,223),(223,223),(223,223)], [(255,376),(376,376),(255,376),(255,376)],[(376,376),(376,376),(255,376),(255,376)], [(181,924),(924,924),(956,924),(181,924)],[(924,924),(924,924),(956,924),(181,924)], [(956,924),(924,924),(956,924),(181,924)],[(305,305),(305,305),(305,305)], [(383,383),(383,383),(383,383)],[(304,304),(304,304),(105,73)],[(329,329),(329,329),(329,329)], [(962,931),(931,931),(963,931),(962,931)],[(963,931),(931,931),(963,931),(962,931)], [(931,931),(931,931),(963,931),(962,931)],[(1072,1040),(1040,1040),(1072,1040)], [(1040,1040),(1040,1040),(1072,1040)],[(257,256),(256,256),(257,256)], [(256,256),(256,256),(257,256)],[(107,75),(75,75),(107,75)],[(115,83),(83,83),(115,83),(383,383)], [(105,73),(73,73),(105,73),(305,305)],[(73,73),(73,73),(105,73),(305,305)], [(83,83),(83,83),(115,83),(383,383)]]
noncomputable def foldAt (k:Nat):List IPr:=foldL.getD k []
noncomputable def codesL:List Int:=casesD.map (·.1)

theorem cases_ok (σ:Store):callN gT fT 200 20 36 [] σ=.ok (.dcI casesD) σ:=by kernel_rfl
theorem codes_eq:codesL=(List.range 32).map codeAt:=by kernel_rfl
theorem look_ok:(List.range 32).map (fun k=>casesD.lookup (codeAt k))=(List.range 32).map (fun k=>some (D.int (caseAt k))):=by kernel_rfl
theorem canon20 (σ:Store):(List.range 32).map (fun k=>callN gT fT 200 20 14 [.d (.int (codeAt k))] σ)=(List.range 32).map (fun k=>.ok (.int (caseAt k)) σ):=by kernel_rfl
theorem canon19 (σ:Store):(List.range 32).map (fun k=>callN gT fT 200 19 14 [.d (.int (codeAt k))] σ)=(List.range 32).map (fun k=>.ok (.int (caseAt k)) σ):=by kernel_rfl
theorem fold19 (x:D) (σ:Store):(List.range 32).map (fun k=>evE gT (callN gT fT 200 19) foldE [some (.d x),some (.d (.int (codeAt k))),some (.d (.int (caseAt k))),none,none,none] σ)=(List.range 32).map (fun k=>.ok (.d (.lst ((foldAt k).map fun p=>D.int p.1))) σ):=by kernel_rfl
theorem each19 (σ:Store):(List.range 32).map (fun k=>(foldAt k).map fun p=>callN gT fT 200 19 14 [.d (.int p.1)] σ)=(List.range 32).map (fun k=>(foldAt k).map fun p=>.ok (.int p.2) σ):=by kernel_rfl
theorem fold_eq:(List.range 32).all (fun k=>(List.range 32).all fun j=>((foldAt k).any fun p=>p.1 == codeAt j && p.2 == caseAt k) == (caseAt j == caseAt k))=true:=by kernel_rfl
theorem fold_len:(List.range 32).all (fun k=>decide ((foldAt k).length ≤ 10))=true:=by kernel_rfl
theorem at_range {α:Type} {f g:Nat→α} {n k:Nat} (h:(List.range n).map f=(List.range n).map g) (hk:k < n):f k=g k:=List.map_inj_left.mp h k (List.mem_range.mpr hk)
theorem all_rng {n:Nat} {p:Nat→Bool} (h:(List.range n).all p=true) {k:Nat} (hk:k < n):p k=true:=List.all_eq_true.mp h k (List.mem_range.mpr hk)

theorem compF_map {α:Type} {bnd:D→Option Ro} {cond:Ro→Store→R Bool} {elt:Ro→Store→R D} {σ:Store} (w:α→D) (g:α→D):∀ (xs:List α) (acc:List D),acc.length + xs.length ≤ 1000→(∀ x ∈ xs,∃ ρ,bnd (w x)=some ρ∧cond ρ σ=.ok true σ∧elt ρ σ=.ok (g x) σ)→compF bnd cond elt (xs.map w) acc σ=.ok (.lst (acc++xs.map g)) σ
  | [],acc,h,_=>by
    rw [List.map_nil,List.map_nil,List.append_nil]
    exact compF_nil (lim_lit h)
  | x :: xs,acc,h,hx=>by
    refine Xeaaa (hx x (.head _)) fun ρ h1 h2 h3=>?_
    have ih:=compF_map (bnd:=bnd) (cond:=cond) (elt:=elt) (σ:=σ) w g xs (acc++[g x]) (by rw [List.length_append,Nat.add_assoc,Nat.add_comm [g x].length]; exact h) fun y hy=>hx y (.tail _ hy)
    rw [List.append_assoc] at ih
    exact (compF_yes h1 h2 h3).trans ih
theorem compF_filter {α:Type} {bnd:D→Option Ro} {cond:Ro→Store→R Bool} {elt:Ro→Store→R D} {σ:Store} (w:α→D) (q:α→Bool) (g:α→D):∀ (xs:List α) (acc:List D),acc.length + xs.length ≤ 1000→(∀ x ∈ xs,∃ ρ,bnd (w x)=some ρ∧cond ρ σ=.ok (q x) σ∧elt ρ σ=.ok (g x) σ)→compF bnd cond elt (xs.map w) acc σ=.ok (.lst (acc++(xs.filter q).map g)) σ
  | [],acc,h,_=>by
    rw [List.map_nil,List.filter_nil,List.map_nil,List.append_nil]
    exact compF_nil (lim_lit h)
  | x :: xs,acc,h,hx=>by
    refine Xeaaa (hx x (.head _)) fun ρ h1 h2 h3=>?_
    cases hq:q x with
    | true =>
      rw [hq] at h2
      have ih:=compF_filter (bnd:=bnd) (cond:=cond) (elt:=elt) (σ:=σ) w q g xs (acc++[g x]) (by rw [List.length_append,Nat.add_assoc,Nat.add_comm [g x].length]; exact h) fun y hy=>hx y (.tail _ hy)
      rw [List.append_assoc] at ih
      rw [List.filter_cons,if_pos hq]
      exact (compF_yes h1 h2 h3).trans ih
    | false =>
      rw [hq] at h2
      rw [List.filter_cons,if_neg (by rw [hq]; exact Bool.false_ne_true)]
      exact (compF_no h1 h2).trans (compF_filter w q g xs acc (Nat.le_of_succ_le h) fun y hy=>hx y (.tail _ hy))

theorem mapM_boolsL:∀ l:List Bool,(l.map D.bool).mapM D.asBool=some l
  | []=>rfl
  | p :: l=>by
    rw [List.map_cons,List.mapM_cons,mapM_boolsL l]
    rfl

theorem folded_ok {k:Nat} {M:List IPr} {b:Int} {σ:Store} (hk:k < 32) (hn:Norm b M) (hl:M.length ≤ 50) :
    ∃ t,callN gT fT 200 20 15 [.d (.tup (M.map pairD)),.d (.int (codeAt k))] σ=.ok (.bool t) σ∧(t=true ↔ ∃ p ∈ foldAt k,p.2=caseAt k∧cov M p.1):=by
  have tb:∀ c,∃ t,callN gT fT 200 19 11 [.d (.tup (M.map pairD)),.d (.int c)] σ=.ok (.bool t) σ∧(t=true ↔ cov M c):=fun c=>has_ok (n:=18) hn (by lia)
  obtain ⟨g,hg⟩:∃ g:Int→Bool,∀ c,callN gT fT 200 19 11 [.d (.tup (M.map pairD)),.d (.int c)] σ=.ok (.bool (g c)) σ∧(g c=true ↔ cov M c):=⟨fun c=>(tb c).choose,fun c=>(tb c).choose_spec⟩
  have h0:=at_range (canon19 σ) hk
  have h1:=at_range (fold19 (.tup (M.map pairD)) σ) hk
  have h2:=at_range (each19 σ) hk
  have hlen:=all_rng fold_len hk
  simp only [decide_eq_true_eq] at hlen
  have h2:∀ p ∈ foldAt k,callN gT fT 200 19 14 [.d (.int p.1)] σ=.ok (.int p.2) σ:=List.map_inj_left.mp h2
  refine ⟨(foldAt k).any fun p=>p.2 == caseAt k && g p.1,?_,?_⟩
  · rw [callN_eq (by rfl) (by rfl)]
    show retOf (evSs gT (callN gT fT 200 19) 200 f_has_folded [some (.d (.tup (M.map pairD))),some (.d (.int (codeAt k))),none,none,none,none] σ)=_
    have hm:((foldAt k).map fun p=>D.bool (p.2 == caseAt k && g p.1)).mapM D.asBool=some ((foldAt k).map fun p=>(p.2 == caseAt k && g p.1)):=by
      have:=mapM_boolsL ((foldAt k).map fun p=>(p.2 == caseAt k && g p.1))
      rwa [List.map_map] at this
    have hc:=compF_map (bnd:=bindT [some (.d (.tup (M.map pairD))),some (.d (.int (codeAt k))),some (.d (.int (caseAt k))),some (.d (.lst ((foldAt k).map fun p=>D.int p.1))),none,none] [5]) (cond:=fun ρ σ=>evBs gT (callN gT fT 200 19) true .nil ρ σ) (elt:=fun ρ σ=>toD (evE gT (callN gT fT 200 19) (.bop true (.cons (.cmp .eq (.call 14 (.cons (.loc 5) .nil)) (.loc 2)) (.cons (.call 11 (.cons (.loc 0) (.cons (.loc 5) .nil))) .nil))) ρ σ)) (σ:=σ) (fun p:IPr=>D.int p.1) (fun p:IPr=>D.bool (p.2 == caseAt k && g p.1)) (foldAt k) [] (by simp; lia) fun p hp=>⟨[some (.d (.tup (M.map pairD))),some (.d (.int (codeAt k))),some (.d (.int (caseAt k))),some (.d (.lst ((foldAt k).map fun p=>D.int p.1))),none,some (.d (.int p.1))],rfl,rfl,by
      refine congrArg toD (rbop (u:=p.2 == caseAt k && g p.1) ?_)
      have e2:=rcmp (o:=.eq) (a:=.call 14 (.cons (.loc 5) .nil)) (b:=.loc 2) (G:=gT) (ρ:=[some (.d (.tup (M.map pairD))),some (.d (.int (codeAt k))),some (.d (.int (caseAt k))),some (.d (.lst ((foldAt k).map fun p=>D.int p.1))),none,some (.d (.int p.1))]) (rcall rfl (h2 p hp)) rfl (eqDi (a:=p.2) (b:=caseAt k))
      cases hq:(p.2 == caseAt k) with
      | true =>
        rw [hq] at e2
        cases hg2:g p.1 with
        | true=>exact rb1 e2 (rb1 (rcall rfl ((hg p.1).1.trans (by rw [hg2]))) rfl)
        | false=>exact rb1 e2 (rb0 (rcall rfl ((hg p.1).1.trans (by rw [hg2]; rfl))))
      | false=>rw [hq] at e2; exact rb0 e2⟩
    exact rr (rasg (rcall rfl h0) (rasg h1 (rret (rbi (rvs (rcomp (rval rfl rfl) hc) rfl) rfl (Il.trans ((congrArg (Option.map fun bs=>D.bool (bs.any id)) hm).trans (congrArg (fun b=>some (D.bool b)) List.any_map)))))))
  · rw [List.any_eq_true]
    constructor
    · rintro ⟨p,hp,h⟩
      simp only [Bool.and_eq_true,beq_iff_eq] at h
      exact ⟨p,hp,h.1,(hg p.1).2.mp h.2⟩
    · rintro ⟨p,hp,h1,h2⟩
      refine ⟨p,hp,?_⟩
      simp only [Bool.and_eq_true,beq_iff_eq]
      exact ⟨h1,(hg p.1).2.mpr h2⟩
theorem code_rng:(List.range 32).all (fun k=>decide (-1 < codeAt k) && decide (codeAt k ≤ 65535))=true:=by kernel_rfl
theorem codes_len:codesL.length=32:=by rw [codes_eq]; simp
theorem codes_idx {i:Int} (h0:0 ≤ i) (h1:i < 32):idx (codesL.map D.int) i=some (.int (codeAt i.toNat)):=by
  refine idx_int h0 ?_
  rw [codes_eq,List.map_map,List.getElem?_map,List.getElem?_range (by lia)]
  rfl
theorem list_cases (σ:Store):biD .list [.dcI casesD]=some (.lst (codesL.map D.int)):=by
  have:casesD.length ≤ LIM:=by decide +kernel
  show (if casesD.length ≤ LIM then some (D.lst (casesD.map fun p=>D.int p.1)) else none)=_
  rw [if_pos this]
  unfold codesL
  rw [List.map_map]
  rfl
theorem len_codes:biD .len [.lst (codesL.map D.int)]=some (.int 32):=by
  have h:(codesL.map D.int).length=32:=by rw [List.length_map,codes_len]
  show (if (codesL.map D.int).length ≤ LIM then some (D.int ((codesL.map D.int).length:Nat)) else none)=_
  rw [h,if_pos (lim_lit (by decide))]
  rfl

theorem toDok {r:R V} {x:D} {σ:Store} (h:r=.ok (.d x) σ):toD r=.ok x σ:=congrArg toD h
theorem draw_loop {a b c d e f g h:Option V}:∀ (xs acc:List D) (σ:Store),acc.length + xs.length ≤ 100→Valid σ →
    ∃ ks:List Nat,∃ σ',compF (bindT [some .box,some (.d (.lst (codesL.map D.int))),a,b,c,d,e,f,g] [5]) (fun ρ σ=>evBs gT (callN gT fT 200 20) true .nil ρ σ) (fun ρ σ=>toD (evE gT (callN gT fT 200 20) (.sub (.loc 1) (.call 37 (.cons (.loc 0) (.cons (.bi .len (.cons (.loc 1) .nil)) .nil)))) ρ σ)) xs acc σ=.ok (.lst (acc++ks.map fun k=>D.int (codeAt k))) σ'∧Valid σ'∧ks.length=xs.length∧∀ k ∈ ks,k < 32
  | [],acc,σ,hl,v=>⟨[],σ,by
      rw [List.map_nil,List.append_nil]; exact compF_nil (lim_lit (Nat.le_trans hl (by decide))),v,rfl,fun k hk=>by cases hk⟩
  | x :: xs,acc,σ,hl,v=>by
    simp only [List.length_cons] at hl
    obtain ⟨i,σ₁,t1,i0,i1,v1⟩:=take_ok (N:=200) (n:=19) v (m:=32) (by decide)
    have t1:callN gT fT 200 20 37 [V.box,V.d (D.int 32)] σ=.ok (.int i) σ₁:=t1
    obtain ⟨ks,σ₂,e2,v2,l2,m2⟩:=draw_loop (a:=a) (b:=b) (c:=c) (d:=d) (e:=e) (f:=f) (g:=g) (h:=h) xs (acc++[D.int (codeAt i.toNat)]) σ₁ (by simp; lia) v1
    refine ⟨i.toNat :: ks,σ₂,?_,v2,by simp [l2],fun k hk=>?_⟩
    · have hb:bindT [some .box,some (.d (.lst (codesL.map D.int))),a,b,c,d,e,f,g] [5] x=some [some .box,some (.d (.lst (codesL.map D.int))),a,b,c,some (.d x),e,f,g]:=by cases x <;> rfl
      refine Eq.trans (compF_yes hb rfl (toDok (rsub rfl (rcall (rvs rfl (rvs (rbi (rvs rfl rfl) rfl len_codes) rfl)) t1) (rsubD ((if_pos (Int.lt_trans i1 (by decide))).trans (codes_idx i0 i1)))))) (e2.trans ?_)
      rw [List.append_assoc]; rfl
    · rcases List.mem_cons.mp hk with rfl | hk
      · lia
      · exact m2 k hk

theorem eqvs_nil (l:List D):D.eqv (.lst l) (.lst [])=l.isEmpty:=by cases l <;> rfl
theorem ne_nil {α:Type} (l:List α) (g:α→Int):cmpD .ne (.lst (l.map fun a=>D.int (g a))) (.lst [])=some (!l.isEmpty):=by
  have h:okE 16 (.lst (l.map fun a=>D.int (g a)))=true:=by
    show (l.map fun a=>D.int (g a)).all (okE 15)=true
    rw [List.all_eq_true]
    intro d hd
    refine Xeaa (List.mem_map.mp hd) fun a _ zz1=>?_; subst zz1
    rfl
  have h2:okE 16 (.lst [])=true:=rfl
  show Option.map not (if okE 16 (.lst (l.map fun a=>D.int (g a))) && okE 16 (.lst []) then some (D.eqv _ _) else none)=_
  rw [h,h2,eqvs_nil,List.isEmpty_map]; rfl

theorem sub_cases {k:Nat} (hk:k < 32):subD (.dcI casesD) (.int (codeAt k))=some (.int (caseAt k)):=at_range look_ok hk

theorem rbl {G:Nat→D} {H:Hd} {ρ:Ro} {σ σ₁:Store} {e:E} {u:Bool} (h:evE G H e ρ σ=.ok (.d (.bool u)) σ₁):evBs G H true (.cons e .nil) ρ σ=.ok u σ₁:=by
  cases u with
  | true=>exact rb1 h rfl
  | false=>exact rb0 h
theorem cases_right_ok {σ:Store} (v:Valid σ):∃ σ',callN gT fT 200 21 40 [.box] σ=.ok (.bool true) σ'∧Valid σ':=by
  obtain ⟨i,σ₁,t1,i0,i1,v1⟩:=take_ok (N:=200) (n:=19) v (m:=32) (by decide)
  obtain ⟨j,σ₂,t2,j0,j1,v2⟩:=take_ok (N:=200) (n:=19) v1 (m:=4) (by decide)
  have t1:callN gT fT 200 20 37 [V.box,V.d (D.int 32)] σ=.ok (.int i) σ₁:=t1
  have t2:callN gT fT 200 20 37 [V.box,V.d (D.int 4)] σ₁=.ok (.int j) σ₂:=t2
  have lm:∀ n:Nat,n ≤ 1000→n ≤ LIM:=fun n h=>lim_lit h
  have hi:i.toNat < 32:=(Int.toNat_lt i0).mpr i1
  generalize hI:i.toNat=I at *
  obtain ⟨ks,σ₃,e3,v3,l3,m3⟩:=draw_loop (a:=some (.d (.int (codeAt I)))) (b:=none) (c:=none) (d:=none) (e:=none) (f:=none) (g:=none) (h:=none) ((List.range j.toNat).map fun (i:Nat)=>D.int (i:Int)) [] σ₂ (by simp; lia) v2
  have hk4:ks.length ≤ 3:=by rw [l3]; simp; exact (fun {a b}=>Int.le_iff_lt_add_one.mpr) j1
  refine ⟨σ₃,?_,v3⟩
  rw [callN_eq (by rfl) (by rfl)]
  show (retOf (evSs gT (callN gT fT 200 20) 200 f_law_cases_right [some .box,none,none,none,none,none,none,none,none] σ))=_
  have ci:=codes_idx i0 i1
  rw [hI] at ci
  have c:(0:Int) ≤ j∧j ≤ (LIM:Int):=by unfold LIM; lia
  have c1:evE gT (callN gT fT 200 20) (.comp (.loc 6) [6] (.val (.loc 1)) (.cons (.cmp .ne (.call 14 (.cons (.loc 6) .nil)) (.sub (.call 36 .nil) (.loc 6))) .nil)) [some .box,some (.d (.lst (codesL.map D.int))),some (.d (.int (codeAt I))),some (.d (.lst (ks.map fun k=>D.int (codeAt k)))),none,none,none,none,none] σ₃=.ok (.d (.lst [])) σ₃:=rcomp (rval rfl rfl) (compF_none _ [] (lm 0 (by decide)) fun x hx=>by
    rw [codes_eq,List.map_map] at hx
    refine Xeaa (List.mem_map.mp hx) fun k hk zz1=>?_; subst zz1
    have hk:=List.mem_range.mp hk
    exact ⟨_,rfl,rb0 (rcmp (rcall rfl (at_range (canon20 σ₃) hk)) (rsub (rcall rfl (cases_ok _)) rfl (rsubD (sub_cases hk))) (congrArg (fun b:Bool=>some (!b)) (beq_self_eq_true (caseAt k))))⟩)
  have c2:evE gT (callN gT fT 200 20) (.comp (.loc 7) [7] (.val (.loc 3)) (.cons (.cmp .eq (.sub (.call 36 .nil) (.loc 7)) (.sub (.call 36 .nil) (.loc 2))) .nil)) [some .box,some (.d (.lst (codesL.map D.int))),some (.d (.int (codeAt I))),some (.d (.lst (ks.map fun k=>D.int (codeAt k)))),none,none,none,none,none] σ₃=.ok (.d (.lst ((ks.filter fun k=>caseAt k == caseAt I).map fun k=>D.int (codeAt k)))) σ₃ :=
    rcomp (rval rfl rfl) (compF_filter (fun k:Nat=>D.int (codeAt k)) (fun k=>caseAt k == caseAt I) (fun k:Nat=>D.int (codeAt k)) ks [] (by simp; lia) fun k hk=>⟨_,rfl,rbl (rcmp (rsub (rcall rfl (cases_ok _)) rfl (rsubD (sub_cases (m3 k hk)))) (rsub (rcall rfl (cases_ok _)) rfl (rsubD (sub_cases hi))) rfl),rfl⟩)
  have c3:evE gT (callN gT fT 200 20) (.comp (.tup (.cons (.loc 8) (.cons (.loc 8) .nil))) [8] (.val (.loc 3)) .nil) [some .box,some (.d (.lst (codesL.map D.int))),some (.d (.int (codeAt I))),some (.d (.lst (ks.map fun k=>D.int (codeAt k)))),some (.d (.bool (!(ks.filter fun k=>caseAt k == caseAt I).isEmpty))),none,none,none,none] σ₃=.ok (.d (.lst ((ks.map fun k=>(codeAt k,codeAt k)).map pairD))) σ₃:=by
    rw [List.map_map]
    exact rcomp (rval rfl rfl) (compF_map (fun k:Nat=>D.int (codeAt k)) (fun k:Nat=>pairD (codeAt k,codeAt k)) ks [] (by simp; lia) fun k hk=>⟨_,rfl,rfl,rfl⟩)
  have hv:∀ p ∈ (ks.map fun k=>(codeAt k,codeAt k)),-1 < p.1∧p.1 ≤ p.2∧p.2 ≤ 65535:=fun p hp=>by
    refine Xeaa (List.mem_map.mp hp) fun k hk zz1=>?_; subst zz1
    have:=all_rng code_rng (m3 k hk)
    simp only [Bool.and_eq_true,decide_eq_true_eq] at this
    exact ⟨this.1,Int.le_refl _,this.2⟩
  have h4:(ks.map fun k=>(codeAt k,codeAt k)).length ≤ 4:=by simp; lia
  have mok:=merged_pure h4 hv
  have m1:callN gT fT 200 20 9 [.d (.lst ((ks.map fun k=>(codeAt k,codeAt k)).map pairD))] σ₃=.ok (.tup ((mergedP (ks.map fun k=>(codeAt k,codeAt k))).map pairD)) σ₃:=merged_ok (N:=200) (n:=19) h4 (.inr rfl)
  obtain ⟨t,ht,hti⟩:=folded_ok (σ:=σ₃) hi mok.norm (by have:=mok.len; lia)
  have hcov:∀ c,cov (ks.map fun k=>(codeAt k,codeAt k)) c ↔ ∃ k ∈ ks,codeAt k=c:=fun c=>by
    constructor
    · rintro ⟨p,hp,h⟩
      refine Xeaa (List.mem_map.mp hp) fun k hk zz1=>?_; subst zz1
      simp only at h
      exact ⟨k,hk,by lia⟩
    · rintro ⟨k,hk,rfl⟩
      exact ⟨_,List.mem_map.mpr ⟨k,hk,rfl⟩,Int.le_refl _,Int.le_refl _⟩
  have hd:t=!(ks.filter fun k=>caseAt k == caseAt I).isEmpty:=by
    refine bool_ext ?_
    rw [hti]
    have hfe:∀ k,k < 32→(((foldAt I).any fun p=>p.1 == codeAt k && p.2 == caseAt I)=(caseAt k == caseAt I)):=fun k hk=>by
      have:=all_rng (all_rng fold_eq hi) hk
      simpa using this
    constructor
    · rintro ⟨p,hp,h1,h2⟩
      rw [mok.cov,hcov] at h2
      refine Xeaa (h2) fun k hk he=>?_
      have h3:(caseAt k == caseAt I)=true:=by
        rw [← hfe k (m3 k hk),List.any_eq_true]
        exact ⟨p,hp,by simp [he,h1]⟩
      have:k ∈ ks.filter fun k=>caseAt k == caseAt I:=List.mem_filter.mpr ⟨hk,h3⟩
      cases q:ks.filter fun k=>caseAt k == caseAt I with
      | nil=>rw [q] at this; cases this
      | cons=>rfl
    · intro h
      cases q:ks.filter fun k=>caseAt k == caseAt I with
      | nil=>rw [q] at h; cases h
      | cons k r =>
        have hk:k ∈ ks.filter fun k=>caseAt k == caseAt I:=by rw [q]; exact .head _
        obtain ⟨hk,h3⟩:=List.mem_filter.mp hk
        rw [← hfe k (m3 k hk),List.any_eq_true] at h3
        refine Xeaa (h3) fun p hp h4=>?_
        simp only [Bool.and_eq_true,beq_iff_eq] at h4
        exact ⟨p,hp,h4.2,by rw [mok.cov,hcov]; exact ⟨k,hk,h4.1.symm⟩⟩
  have hb:(t == !(ks.filter fun k=>caseAt k == caseAt I).isEmpty)=true:=by rw [hd]; simp
  exact rr (rasg (rbi (rvs (rcall rfl (cases_ok _)) rfl) rfl (list_cases σ)) (rasg (rsub rfl (rcall (rvs rfl (rvs (rbi (rvs rfl rfl) rfl len_codes) rfl)) t1) (rsubD ((if_pos (Int.lt_trans i1 (by decide))).trans ci))) (rasg (rcomp (rrange (rcall rfl t2) c) e3) (riff0 (rcmp c1 rfl rfl) rfl (rasg (rcmp c2 rfl (ne_nil (ks.filter fun k=>caseAt k == caseAt I) codeAt)) (rret (rcmp (rcall (rvs (rcall (rvs c3 rfl) m1) (rvs rfl rfl)) ht) rfl (eqDb.trans (congrArg some hb)))))))))
noncomputable def takeS:Nat→Ss→Ss
  | 0,_=>.nil
  | n + 1,.cons a s=>.cons a (takeS n s)
  | _ + 1,.nil=>.nil
theorem evSs_split {G:Nat→D} {H:Hd} {N:Nat}:∀ (n:Nat) (ss:Ss) (ρ:Ro) (σ:Store),evSs G H N ss ρ σ=(evSs G H N (takeS n ss) ρ σ).bind fun r σ₁=>match r.2 with
    | .nxt=>evSs G H N (tailS n ss) r.1 σ₁
    | .ret d=>.ok (r.1,.ret d) σ₁
  | 0,ss,ρ,σ=>by cases ss <;> rfl
  | n + 1,.nil,ρ,σ=>rfl
  | n + 1,.cons s ss,ρ,σ=>by
    show evSs G H N (.cons s ss) ρ σ=(evSs G H N (.cons s (takeS n ss)) ρ σ).bind fun r σ₁=>match r.2 with
      | .nxt=>evSs G H N (tailS n ss) r.1 σ₁
      | .ret d=>.ok (r.1,.ret d) σ₁
    rw [xTb,xTb]
    cases q:evS G H N s ρ σ with
    | ok r σ₁ =>
      obtain ⟨ρ₁,fl⟩:=r
      cases fl with
      | nxt=>exact evSs_split n ss ρ₁ σ₁
      | ret d=>rfl
    | exc=>rfl
    | bad=>rfl

noncomputable abbrev H21:Hd:=callN gT fT 200 21
noncomputable def lets:List Nat:=[100,119,115,68,87,83,98,66,120,117]
noncomputable def lotOf (i:Nat):D:=match H21 13 [.d (.str [lets.getD i 0])] {} with
  | .ok d _=>d
  | _=>.null
noncomputable def conD:D:=.dcS [([100],.str [68]),([119],.str [87]),([115],.str [83]),([68],.str [100]),([87],.str [119]),([83],.str [115])]
theorem st_let (x y z:Option V) (bx:Option (List Int × Int)):(List.range 10).map (fun i=>evSs gT H21 200 (takeS 3 (tailS 5 f_law)) [x,some .box,y,z,some (.d (.str [lets.getD i 0])),none,none,none,none,none,none,none] ⟨bx,none⟩) =
    (List.range 10).map (fun i=>.ok ([x,some .box,y,z,some (.d (.str [lets.getD i 0])),some (.d (lotOf i)),some (.d conD),none,none,none,none,none],.nxt) ⟨bx,none⟩):=by kernel_rfl
noncomputable def cods:List Int:=[47,48,57,58,64,65,90,91,94,95,96,97,122,123,170,9,13,14,31,32,160,8202,65279]
theorem st_code (x y z u v w q:Option V) (bx:Option (List Int × Int)):(List.range 23).map (fun i=>evSs gT H21 200 (takeS 3 (tailS 10 f_law)) [x,some .box,y,z,u,v,w,q,some (.d (.int (cods.getD i 0))),none,none,none] ⟨bx,none⟩) =
    (List.range 23).map (fun i=>.ok ([x,some .box,y,z,u,v,w,q,some (.d (.int (cods.getD i 0))),none,none,none],.nxt) ⟨bx,none⟩):=by kernel_rfl
noncomputable def flgs:List D:=[.str [],.str [103],.str [105],.str [109],.str [103,105,109],.str [103,103],.str [120],.str [103,105,109,103]]
theorem st_flag (x y z u v w q c:Option V) (bx:Option (List Int × Int)):(List.range 8).map (fun i=>retOf (evSs gT H21 200 (tailS 14 f_law) [x,some .box,y,z,u,v,w,q,c,some (.d (flgs.getD i .null)),none,none] ⟨bx,none⟩)) =
    (List.range 8).map (fun _=>.ok (.bool true) ⟨bx,none⟩):=by kernel_rfl
noncomputable def gRo (x y z:Option V):Ro:=[x,some .box,y,z,none,none,none,none,none,none,none,none]

noncomputable def boxBody:Ss:=.cons (.setBox (.loc 1) (.bin .mod (.bin .add (.bin .mul (.sub (.loc 1) (.cst (.int 1))) (.cst (.int 31))) (.loc 2)) (.cst (.int 1000003)))) .nil
theorem rsplit {G:Nat→D} {H:Hd} {N:Nat} (n:Nat) {ss:Ss} {ρ ρ':Ro} {σ σ₁:Store} {q:R (Ro × Fl)} (h1:evSs G H N (takeS n ss) ρ σ=.ok (ρ',.nxt) σ₁) (h:evSs G H N (tailS n ss) ρ' σ₁=q):evSs G H N ss ρ σ=q:=by
  rw [evSs_split n,h1]; exact h
theorem box_step {x z:Option V} {i:Int} {σ:Store} (v:Valid σ):∃ σ',evSs gT H21 200 boxBody (gRo x (some (.d (.int i))) z) σ=.ok (gRo x (some (.d (.int i))) z,.nxt) σ'∧Valid σ':=by
  refine Xeeaaaa (v.box) fun l b hb hl h2 h3=>?_
  obtain ⟨bx,rd⟩:=σ
  have hr:=v.rd
  simp only at hb hr
  subst hb hr
  refine ⟨⟨some (l,(b * 31 + i) % 1000003),none⟩,?_,⟨⟨l,_,rfl,hl,by lia,by lia⟩,rfl⟩⟩
  have e3:b.natAbs < 4294967296:=by lia
  exact rsetB (rbin (rbin (rbin rfl rfl (if_pos e3)) rfl rfl) rfl rfl) rfl rfl rfl
theorem box_loop {x z:Option V}:∀ (xs:List Int) (y:Option V) (σ:Store),Valid σ →
    ∃ y' σ',forF (fun ρ d=>bindT ρ [2] d) (fun ρ σ=>evSs gT H21 200 boxBody ρ σ) (xs.map D.int) (gRo x y z) σ=.ok (gRo x y' z,.nxt) σ'∧Valid σ'
  | [],y,σ,v=>⟨y,σ,rfl,v⟩
  | i :: xs,y,σ,v=>by
    obtain ⟨σ₁,e,v₁⟩:=box_step (x:=x) (z:=z) (i:=i) v
    obtain ⟨y',σ₂,e₂,v₂⟩:=box_loop (x:=x) (z:=z) xs (some (.d (.int i))) σ₁ v₁
    have hb:bindT (gRo x y z) [2] (.int i)=some (gRo x (some (.d (.int i))) z):=rfl
    exact ⟨y',σ₂,by rw [List.map_cons,forF_nxt hb e]; exact e₂,v₂⟩

noncomputable def turnBody:Ss:=.cons (.iff (.not (.call 38 (.cons (.loc 1) .nil))) (.cons (.ret (.cst (.bool false))) .nil) .nil) .nil
theorem turn_step {x y z:Option V} {σ:Store} (v:Valid σ):∃ σ',evSs gT H21 200 turnBody (gRo x y z) σ=.ok (gRo x y z,.nxt) σ'∧Valid σ':=by
  obtain ⟨σ',e,v'⟩:=pair_right_ok v
  exact ⟨σ',riff0 (rnot (rcall rfl e)) rfl rfl,v'⟩
theorem turn_loop {x y:Option V}:∀ (xs:List D) (z:Option V) (σ:Store),Valid σ →
    ∃ z' σ',forF (fun ρ d=>bindT ρ [3] d) (fun ρ σ=>evSs gT H21 200 turnBody ρ σ) xs (gRo x y z) σ=.ok (gRo x y z',.nxt) σ'∧Valid σ'
  | [],z,σ,v=>⟨z,σ,rfl,v⟩
  | d :: xs,z,σ,v=>by
    obtain ⟨σ₁,e,v₁⟩:=turn_step (x:=x) (y:=y) (z:=some (.d d)) v
    obtain ⟨z',σ₂,e₂,v₂⟩:=turn_loop (x:=x) (y:=y) xs (some (.d d)) σ₁ v₁
    have hb:bindT (gRo x y z) [3] d=some (gRo x y (some (.d d))):=by cases d <;> rfl
    exact ⟨z',σ₂,by rw [forF_nxt hb e]; exact e₂,v₂⟩

theorem Valid.eta {σ:Store} (v:Valid σ):σ=⟨σ.box,none⟩:=by
  have:=v.rd
  cases σ; simp only at this; subst this; rfl

theorem mapM_intsL:∀ l:List Int,(l.map D.int).mapM D.asInt=some l
  | []=>rfl
  | p :: l=>by
    rw [List.map_cons,List.mapM_cons,mapM_intsL l]
    rfl

theorem law_rest {x y z:Option V} {σ:Store} (v:Valid σ):∃ σ',retOf (evSs gT H21 200 (tailS 4 f_law) (gRo x y z) σ)=.ok (.bool true) σ':=by
  obtain ⟨i,σ₁,t1,i0,i1,v1⟩:=take_ok (N:=200) (n:=20) v (m:=10) (by decide)
  obtain ⟨j,σ₂,t2,j0,j1,v2⟩:=take_ok (N:=200) (n:=20) v1 (m:=23) (by decide)
  obtain ⟨k,σ₃,t3,k0,k1,v3⟩:=take_ok (N:=200) (n:=20) v2 (m:=8) (by decide)
  have t1:H21 37 [V.box,V.d (D.int 10)] σ=.ok (.int i) σ₁:=t1
  have t2:H21 37 [V.box,V.d (D.int 23)] σ₁=.ok (.int j) σ₂:=t2
  have t3:H21 37 [V.box,V.d (D.int 8)] σ₂=.ok (.int k) σ₃:=t3
  have lm:∀ n:Nat,n ≤ 1000→n ≤ LIM:=fun n h=>lim_lit h
  have hi:i.toNat < 10:=(Int.toNat_lt i0).mpr i1
  have hj:j.toNat < 23:=(Int.toNat_lt j0).mpr j1
  have hk:k.toNat < 8:=(Int.toNat_lt k0).mpr k1
  have hi2:(idx [100,119,115,68,87,83,98,66,120,117] i).map (fun c=>D.str [c])=some (.str [lets.getD i.toNat 0]):=by
    have:idx lets i=some (lets.getD i.toNat 0):=idx_int i0 (by
      rw [List.getD_eq_getElem?_getD,List.getElem?_eq_getElem (show i.toNat < lets.length from hi)]; rfl)
    show (idx lets i).map _=_
    rw [this]; rfl
  have hj2:idx [D.int 47,D.int 48,D.int 57,D.int 58,D.int 64,D.int 65,D.int 90,D.int 91,D.int 94,D.int 95,D.int 96,D.int 97,D.int 122,D.int 123,D.int 170,D.int 9,D.int 13,D.int 14,D.int 31,D.int 32,D.int 160,D.int 8202,D.int 65279] j=some (.int (cods.getD j.toNat 0)):=by
    have:idx (cods.map D.int) j=some (.int (cods.getD j.toNat 0)):=idx_int j0 (by
      rw [List.getElem?_map,List.getD_eq_getElem?_getD,List.getElem?_eq_getElem (show j.toNat < cods.length from hj)]; rfl)
    exact this
  have hk2:idx [D.str [],D.str [103],D.str [105],D.str [109],D.str [103,105,109],D.str [103,103],D.str [120],D.str [103,105,109,103]] k=some (flgs.getD k.toNat .null):=by
    have:idx flgs k=some (flgs.getD k.toNat .null):=idx_int k0 (by
      rw [List.getD_eq_getElem?_getD,List.getElem?_eq_getElem (show k.toNat < flgs.length from hk)]; rfl)
    exact this
  have s1:=at_range (st_let x y z σ₁.box) hi
  have hb1:=v1.eta
  have hb2:=v2.eta
  have hb3:=v3.eta
  rw [← hb1] at s1
  refine ⟨σ₃,?_⟩
  have s2:=at_range (st_code x y z (some (.d (.str [lets.getD i.toNat 0]))) (some (.d (lotOf i.toNat))) (some (.d conD)) (some (.d (.lst [D.int 47,D.int 48,D.int 57,D.int 58,D.int 64,D.int 65,D.int 90,D.int 91,D.int 94,D.int 95,D.int 96,D.int 97,D.int 122,D.int 123,D.int 170,D.int 9,D.int 13,D.int 14,D.int 31,D.int 32,D.int 160,D.int 8202,D.int 65279]))) σ₂.box) hj
  rw [← hb2] at s2
  have s3:=at_range (st_flag x y z (some (.d (.str [lets.getD i.toNat 0]))) (some (.d (lotOf i.toNat))) (some (.d conD)) (some (.d (.lst [D.int 47,D.int 48,D.int 57,D.int 58,D.int 64,D.int 65,D.int 90,D.int 91,D.int 94,D.int 95,D.int 96,D.int 97,D.int 122,D.int 123,D.int 170,D.int 9,D.int 13,D.int 14,D.int 31,D.int 32,D.int 160,D.int 8202,D.int 65279]))) (some (.d (.int (cods.getD j.toNat 0)))) σ₃.box) hk
  rw [← hb3] at s3
  exact rq (rasg (rsub rfl (rcall rfl t1) (rsubD ((if_pos (Int.lt_trans i1 (by decide))).trans hi2))) (rsplit 3 s1 (rasg rfl (rasg (rsub rfl (rcall rfl t2) (rsubD ((if_pos (Int.lt_trans j1 (by decide))).trans hj2))) (rsplit 3 s2 (rasg (rsub rfl (rcall rfl t3) (rsubD ((if_pos (Int.lt_trans k1 (by decide))).trans hk2))) rfl)))))) s3
theorem law_slc {ns:List Int} (h:ns.length ≤ 63):slcToD (.lst (ns.map D.int)) 30=some (.lst ((ns.take 30).map D.int)):=by
  have lm:∀ n:Nat,n ≤ 1000→n ≤ LIM:=fun n h=>lim_lit h
  show (if (0:Int) ≤ 30∧(30:Int) ≤ 1000000∧(ns.map D.int).length ≤ LIM then some (D.lst ((ns.map D.int).take (30:Int).toNat)) else none)=_
  rw [if_pos ⟨by decide,by decide,lm _ (by simp; lia)⟩,List.map_take]
  rfl
theorem law_box {ns:List Int}:mkBoxS (.lst ((ns.take 30).map D.int)) 7 {}=some ⟨some (ns.take 30,7),none⟩:=by
  show ((((ns.take 30).map D.int).mapM D.asInt).map fun is=>_)=_
  rw [mapM_intsL]; rfl
theorem law_comp {ns:List Int} (h:ns.length ≤ 63):evE gT H21 (.comp (.bi .int (.cons (.loc 11) .nil)) [11] (.val (.slcTo (.loc 0) (.cst (.int 30)))) .nil) [some (.d (.lst (ns.map D.int))),none,none,none,none,none,none,none,none,none,none,none] {}=.ok (.d (.lst ((ns.take 30).map D.int))) {}:=by
  have ht:(ns.take 30).length ≤ 30:=by rw [List.length_take]; exact Nat.min_le_left 30 ns.length
  exact rcomp (rval (rslcT rfl rfl (law_slc h)) rfl) (compF_map (fun i:Int=>D.int i) (fun i:Int=>D.int i) (ns.take 30) [] (by simp only [List.length_nil]; lia) fun i hi=>⟨_,rfl,rfl,rfl⟩)
theorem mkBox_of {G:Nat→D} {H:Hd} {N:Nat} {ρ:Ro} {σ σ₁ σ₂:Store} {k:Nat} {e:E} {i:Int} {d:D} (h:evE G H e ρ σ=.ok (.d d) σ₁) (h2:mkBoxS d i σ₁=some σ₂):evS G H N (.mkBox k e i) ρ σ=.ok (ρ.put k .box,.nxt) σ₂:=by
  rw [xSn,h]
  show (match mkBoxS d i σ₁ with | some σ₂=>_ | none=>_)=_
  rw [h2]
theorem law_plain {ns:List Int} (h:ns.length ≤ 63):∃ σ',retOf (evSs gT H21 200 f_law [some (.d (.lst (ns.map D.int))),none,none,none,none,none,none,none,none,none,none,none] {})=.ok (.bool true) σ':=by
  have ht:(ns.take 30).length ≤ 30:=by rw [List.length_take]; exact Nat.min_le_left 30 ns.length
  have v0:Valid ⟨some (ns.take 30,7),none⟩:=⟨⟨ns.take 30,7,rfl,lim_lit (by lia),by decide,by decide⟩,rfl⟩
  obtain ⟨y',σ₁,e1,v1⟩:=box_loop (x:=some (.d (.lst (ns.map D.int)))) (z:=none) (ns.take 30) none _ v0
  obtain ⟨z',σ₂,e2,v2⟩:=turn_loop (x:=some (.d (.lst (ns.map D.int)))) (y:=y') ((List.range 5).map fun (i:Nat)=>D.int (i:Int)) none σ₁ v1
  obtain ⟨σ₃,e3,v3⟩:=lots_right_ok v2
  obtain ⟨σ₄,e4,v4⟩:=cases_right_ok v3
  obtain ⟨σ',e5⟩:=law_rest (x:=some (.d (.lst (ns.map D.int)))) (y:=y') (z:=z') v4
  exact ⟨σ',rq (rn (mkBox_of (law_comp h) law_box) (rforr (rval (rslcT rfl rfl (law_slc h)) rfl) e1 (rforr (rrange rfl ⟨by decide,by decide⟩) e2 (riff0 (rbop (rb1 (rnot (rcall rfl e3)) (rb1 (rnot (rcall rfl e4)) rfl))) rfl rfl)))) e5⟩
end Mine
end
section
set_option tactic.hygienic false
open PySem PySem.W PyProof.Rows
namespace Mine
section
variable {C:Cst} {G:Nat→D} {NM:Names} {H:Hd} {n:Nat} {sp:Sp} {A:Around} {F:FnSp} {env:Env} {s:Shared}

noncomputable def tAct (env:Env) (sl:List (Option (Str × NameKind))):Act:={ env:=env,sl:=sl,hx:=[],frs:=[env],cells:=env.cells }

theorem top_st {m:Nat} {h':Heap} {tk:Nat} (g:GRel C {} {} s) (hsc:env.scope=F.scope) (hF:F.OK) (hg:env.globals=mainGlobals) (hb:env.builtins=builtinsNs) (hfr:env.frame=some env.locals)
    (hL:s.heap.get? env.locals=none) (hLo:h'.get? env.locals=some { cls:=.type "frame",data:=.dict #[] }) (kp:∀ b o,s.heap.get? b=some o→h'.get? b=some o)
    (hn:env.cells.map (·.1)=cellNs F.scope.names) (hc:∀ q ∈ env.cells,h'.IsCell q.2 none∧s.heap.get? q.2=none) (hap:env.cells.Pairwise fun x y=>x.2 ≠ y.2) :
    St C (tAct env F.sl) {} (List.replicate m none) (fun _=>none) [] {} { s with heap:=h',toks:=tk }:=by
  have base:∀ a,s.heap.get? a=none→C.h₀.get? a=none:=fun a ha=>by
    cases q:C.h₀.get? a with
    | none=>rfl
    | some o=>have:=g.base _ o q; exact nsm ha this
  have hns:h'.Ns env.locals fun _=>none:=⟨_,#[],0,hLo,rfl,by intro e he; simp at he,fun x=>by simp [nsFind,findBy]⟩
  have hget:∀ k,Ro.get (List.replicate m none) k=none:=fun k=>by
    unfold Ro.get
    rw [List.getElem?_replicate]
    split <;> rfl
  refine ⟨g.keepAll kp,{ kind:=by show env.scope.kind=_; rw [hsc]; exact hF.kind,globals:=hg,builtins:=hb,frame:=⟨env,[],rfl,rfl⟩,slots:=fun k x kd e=>?_,ns:=⟨_,hns,fun k v x kd e=>?_⟩,cells:=.inr rfl,cellAt:=fun q hq=>?_,cellInj:=fun q hq r hr e=>?_,slInj:=hF.inj,ownLoc:=fun k l x kd e=>?_,ownIn:=fun k a e=>(by cases e),ownInj:=fun k j a e=>(by cases e),ownNew:=fun a ha=>(by cases ha),locNew:=base _ hL,locMut:=Loc.mu_old g hL,hxOld:=fun a ha=>(by cases ha),hxNew:=fun a ha=>(by cases ha) },?_⟩
  · show env.scope.names.lookup x=_
    rw [hsc]
    exact hF.slots k x kd e
  · rw [hget] at e; cases e
  · refine ⟨lookup_of_nodup (by show (env.cells.map (·.1)).Nodup; rw [hn]; exact hF.nodup) q hq,?_,base _ (hc q hq).2⟩
    refine Xeaa ((hc q hq).1) fun o e d=>?_
    exact ⟨o,_,e,d⟩
  · exact name_of_addr hap (show (q.1,q.2) ∈ env.cells from hq) (show (r.1,q.2) ∈ env.cells by rw [e]; exact hr)
  · rw [hget] at e; cases e
  · intro e he
    rw [List.mem_singleton.mp he]
    exact ⟨by rw [hsc,hF.kind]; decide,_,_,hfr,hLo,rfl,base _ hL,_,_,rfl⟩

theorem rel_base {X:Act} {ol:List Addr} {lc:Loc} {h:Heap} (hs:Sub C.h₀ (fz h (X.Z C lc ol))) {vs:List V} {vals:List Value} (r:RelVs C C.h₀ C.h₀ {} vs vals) (hd:∀ v ∈ vs,∃ d,v=.d d):relVs C X ol lc h vs vals:=by
  induction r with
  | nil=>exact .nil
  | cons r1 r2 ih =>
    refine Xea (hd _ (.head _)) fun d zz1=>?_; subst zz1
    exact .cons (RelD.mono hs r1) (ih fun v hv=>hd v (.tail _ hv))

theorem top_env {func:Option Addr} {vs:List V} {vals:List Value} {Q:Env→Shared→Prop} {E:Value→Shared→Prop} (hF:F.OK) (g:GRel C {} {} s) (r:RelVs C C.h₀ C.h₀ {} vs vals) (hl:F.ps.length=vs.length) (hd:∀ v ∈ vs,∃ d,v=.d d) (m:Nat)
    (K:∀ env s₁ ow',env.scope=F.scope→env.code=F.code→env.qual=F.qual→env.frame=some env.locals→env.cells.map (·.1)=cellNs F.scope.names→St C (tAct env F.sl) {} (vs.map some++List.replicate m none) ow' [] {} s₁→Q env s₁) :
    wpAny C.M A (newFunctionEnv F.scope mainGlobals [] (F.ps.zip vals) F.qual func F.code none builtinsNs) Q E s:=by
  simp only [newFunctionEnv,Option.isSome_none,Bool.false_eq_true,if_false]
  refine wpAny_bind (wpAny_alloc (wpAny_bind (wpAny_layCells _ (fun name kind cells=>by cases hkc:kind == NameKind.cell <;> simp [hkc]) _ _ _ _ ?_)))
  have ok:=cellsFrom_ok F.scope.names (s.heap.push { cls:=.type "frame",data:=.dict #[] }) (s.heap.objs.size + 1) [] ⟨fun _ _ hm=>(nomatch hm),List.Pairwise.nil⟩ (by rw [Heap.size_push]; exact Nat.le_refl _)
  have cn:=cells_names F.scope.names (s.heap.push { cls:=.type "frame",data:=.dict #[] }).objs.size []
  rw [List.map_nil,List.append_nil] at cn
  have kp:∀ b o,s.heap.get? b=some o→(pushCells (s.heap.push { cls:=.type "frame",data:=.dict #[] }) F.scope.names).get? b=some o:=fun b o e=>pushCells_keeps _ _ _ _ (Heap.get?_push_of_some _ e)
  have hLo:=pushCells_keeps F.scope.names _ _ _ (Heap.get?_push_size s.heap (o:={ cls:=.type "frame",data:=.dict #[] }) rfl)
  have hLn:=none_at_end s.heap
  show wpAny _ _ _ _ _ ({ s with heap:=pushCells (s.heap.push { cls:=.type "frame",data:=.dict #[] }) F.scope.names }:Shared)
  generalize cellsFrom (s.heap.push { cls:=.type "frame",data:=.dict #[] }).objs.size F.scope.names []=cl at *
  show wpAny _ _ (forIn (F.ps.zip vals) PUnit.unit _ >>= _) _ _ _
  refine wpAny_bind ?_
  have hnew:∀ q ∈ cl,s.heap.get? q.2=none:=fun q hq=>Heap.get?_none_of_le (Nat.le_trans (Nat.le_succ _) (ok.empty q.1 q.2 hq).2)
  have t1:St C (tAct { scope:=F.scope,locals:=s.heap.objs.size,globals:=mainGlobals,cells:=cl,qual:=F.qual,func:=func,code:=F.code,frame:=some s.heap.objs.size,builtins:=builtinsNs } F.sl) {} (List.replicate (vs.length + m) none) (fun _=>none) [] {} { s with heap:=pushCells (s.heap.push { cls:=.type "frame",data:=.dict #[] }) F.scope.names,toks:=s.toks } :=
    top_st g rfl hF rfl rfl rfl hLn hLo kp cn (fun q hq=>⟨(ok.empty q.1 q.2 hq).1,hnew q hq⟩) ok.apart
  have r1:relVs C (tAct { scope:=F.scope,locals:=s.heap.objs.size,globals:=mainGlobals,cells:=cl,qual:=F.qual,func:=func,code:=F.code,frame:=some s.heap.objs.size,builtins:=builtinsNs } F.sl) [] {} (pushCells (s.heap.push { cls:=.type "frame",data:=.dict #[] }) F.scope.names) vs vals:=by
    exact rel_base t1.base r hd
  refine params_ok (X':=tAct { scope:=F.scope,locals:=s.heap.objs.size,globals:=mainGlobals,cells:=cl,qual:=F.qual,func:=func,code:=F.code,frame:=some s.heap.objs.size,builtins:=builtinsNs } F.sl) (sp:=F.sp) _ (fun _ _ _=>rfl) ⟨rfl,rfl,cn,rfl,rfl⟩ F.ps vs vals [] _ m _ _ hl (fun k x e=>by simpa using hF.par k x e) (by simpa using t1) r1 fun s' ow' t' x'=>wpAny_pure ?_
  exact K _ s' ow' rfl rfl rfl rfl cn (by simpa using t')
end
theorem ret_inv {r:R (Ro × Fl)} {d:D} {σ':Store} (h:retOf r=.ok d σ') (hd:d ≠ .null):∃ ρ',r=.ok (ρ',.ret d) σ':=by
  cases r with
  | ok a σ =>
    obtain ⟨ρ',fl⟩:=a
    cases fl with
    | nxt =>
      have h:R.ok D.null σ=.ok d σ':=h
      cases h; exact absurd rfl hd
    | ret d' =>
      have h:R.ok d' σ=.ok d σ':=h
      cases h; exact ⟨ρ',rfl⟩
  | exc=>cases h
  | bad=>cases h

theorem law_ss {C:Cst} {G:Nat→D} {H:Hd} {m N:Nat} {K:Ck} (k:CkOK K C G H m) {es:Ss} {h:CQ} {q:Sq} {l l':List Stmt} {cd:Value} {ql:Str} (hc:cSs K es h q l=true) (e:bSs es l=l') (z:AtC h cd ql):SsOK C G H (lv m h) N (q.sp cd ql) l' es:=by
  rw [← e]
  exact cSs_ok k es h q l hc cd ql z
theorem law_top {prog:Program} {w:World} {K:Frag} {h₀:Heap} {s₁:Shared} {mg mb:Str→Option Value} (kf:KF K w) (c:Ctx K h₀ mg mb) (hsub:∀ b o,h₀.get? b=some o→s₁.heap.get? b=some o)
    (htab:∀ P ∈ [430,447],s₁.heap.get? P=some (tabObj #[])∧h₀.get? P=none) {a:Addr} {vs:List Value} {ns:List Int} (hL:h₀.IsList a vs.toArray) (hI:IntsAre vs ns) (hlen:ns.length ≤ 63) {Rz:Result→Shared→Prop}
    (hR:∀ s',(∀ b o,h₀.get? b=some o→s'.heap.get? b=some o)→(∀ P ∈ [430,447],∃ ps,s'.heap.get? P=some (tabObj ps))→s'.gens=s₁.gens→s'.os=s₁.os→Rz (.ok (.ret (.bool true))) s') :
    codeAny (model prog w) callerA (.call (.ref 450) ⟨[.ref a],[]⟩) Rz s₁:=by
  refine Xeaaaaaaa (law_fn (prog:=prog) (s₀:=s₁) kf c) fun F _ g1 g2 h3 h4 h7 hat=>?_
  have hb:SsOK (mkC prog w K h₀ s₁ mg mb) gT H21 65 200 F.sp F.body f_law:=law_ss ((base_ok kf c).with (calls_ok kf c 200 21)) h4 h7 hat
  have g:GRel (mkC prog w K h₀ s₁ mg mb) {} {} s₁:=by
    refine ⟨hsub,fun q hq=>?_,trivial,trivial,fun P hP=>?_,rfl,rfl,rfl⟩
    · have hq:q ∈ [((434:Addr),(430:Addr)),(449,447)]:=hq
      refine ⟨#[],?_,trivial,fun pos cv z=>by cases z⟩
      simp only [List.mem_cons,List.not_mem_nil,or_false] at hq
      rcases hq with rfl | rfl
      · exact (htab 430 (by simp)).1
      · exact (htab 447 (by simp)).1
    · have hP:P ∈ [430,447]++([]++[]):=hP
      exact (htab P (by simpa using hP)).2
  refine Xeeaaaaaaaaaaa (g2.obj) fun o fd' ho hd k1 k2 k3 k4 k5 k6 k8 k9 k7=>?_
  have ho':=hsub _ _ ho
  have hcd:s₁.heap.CodeRec fd'.code fd'.qualname:=by
    refine Xeeeeaaaa (k6) fun c oc vs tq e1 e2 e3 e4=>?_
    exact ⟨c,oc,vs,tq,e1,hsub _ _ e2,e3,e4⟩
  have hps:F.ps.length=1:=h3
  refine codeAny_call_function (body:=F.body) (by decide +kernel) ho' hd (by rw [k1]; exact g1.co) (by rw [k1]; exact g1.gen) k2 hcd ?_
  rw [k7 [.ref a] (by rw [hps]; rfl),k1,k3,k4,k5,k8,k9]
  refine Xeaaa (hL) fun ol hol hoc hod=>?_
  have hr:RelVs (mkC prog w K h₀ s₁ mg mb) h₀ h₀ {} [.d (.lst (ns.map D.int))] [.ref a]:=.cons (RelD.lst ⟨ol,hol,hoc,hod⟩ (IntsAre.relDs (C:=mkC prog w K h₀ s₁ mg mb) hI)) .nil
  refine wpAny_pure (top_env (C:=mkC prog w K h₀ s₁ mg mb) g1 g hr (by rw [hps]; rfl) (fun v hv=>⟨_,List.mem_singleton.mp hv⟩) 11 fun env s₂ ow' e1 c1 c2 e2 e3 t₂=>⟨g2.lim.keeps t₂.g.base,codeAny_func ?_⟩)
  obtain ⟨σ',hlaw⟩:=law_plain (ns:=ns) hlen
  obtain ⟨ρ',hrun⟩:=ret_inv hlaw (by simp)
  have hrun:evSs gT H21 200 f_law ([V.d (.lst (ns.map D.int))].map some++List.replicate 11 none) {}=.ok (ρ',.ret (.bool true)) σ':=hrun
  have hA:AOK (mkC prog w K h₀ s₁ mg mb) (callerA.deeper env) (tAct env F.sl) 65:=⟨rfl,Around.frames_deeper rfl,(by show callerA.depth + 1 + 2 * 65 + 10 ≤ recursionLimit; decide +kernel),(by show callerA.units + 3 + 8 * 65 + 100 ≤ cLine; decide +kernel)⟩
  refine hb (callerA.deeper env) (tAct env F.sl) {} _ ow' [] {} s₂ _ _ ⟨e1,rfl,e3,c1,c2⟩ hA t₂ ⟨by rw [hrun]; simp,fun ρ₁ fl σ₁ lc' ow'' ol' s' f q t' x' y=>?_,fun k tt σ₁ lc' s' e q=>by rw [hrun] at q; cases q⟩
  rw [hrun] at q
  cases q
  refine Xeaa (y) fun v zz1 r=>?_; subst zz1
  obtain rfl:=r.bool_inv
  refine hR s' t'.g.base (fun P hP=>?_) t'.g.gens t'.g.os
  simp only [List.mem_cons,List.not_mem_nil,or_false] at hP
  rcases hP with rfl | rfl
  · refine Xeaa (t'.g.tab (434,430) (by simp [mkC])) fun ps h _=>?_
    exact ⟨ps,h⟩
  · refine Xeaa (t'.g.tab (449,447) (by simp [mkC])) fun ps h _=>?_
    exact ⟨ps,h⟩
theorem law_join {prog:Program} {w:World} {K:Frag} {s₁:Shared} {mg mb:Str→Option Value} {p:Program} {loose:List Str} {mean mean':ExcName→Option Value} {fa:Addr} (kf:KF K w) (hnt:noTabs K=true) (hlw:mgOf K "law"=some (.ref 450)) (KX:K.In s₁.heap) (hT9:TabsAt [(434,430),(449,447)] s₁.heap) (T:Top p loose mean mg mb s₁.heap)
    (hmg:mg "law"=some (.ref fa)) (hg:s₁.gens=#[]) {a:Addr} {vs:List Value} {ns:List Int} (hL:s₁.heap.IsList a vs.toArray) (hI:IntsAre vs ns) (hlen:¬ ((63:Int) < (ns.length:Int))) {cw:ClaimW} {cl:Str→Option Addr} {args:List WData}
    (hr:∀ cls,cw.raises args cls=false) (hp:cw.post args (.bool true) args=true) :
    codeAny (model prog w) callerA (.call (.ref fa) ⟨[.ref a],[]⟩) (fun r s'=>GoodW cw cl mean' args { s₁ with heap:=ghostOf s₁.heap [(434,430),(449,447)] } r s'∧GrownAll [(434,430),(449,447)] s'.heap) s₁:=by
  have hfa:fa=450:=by
    have:=mgOf_ok KX kf.main T.g "law"
    rw [hmg,hlw] at this
    simpa using this
  subst hfa
  have X':=ghost_K hT9 KX hnt
  have T':=ghost_top hT9 T
  have hd:=ghost_code hT9
  have c:Ctx K (ghostOf s₁.heap [(434,430),(449,447)]) mg mb:=⟨X',T'.g,T'.b,T'.nolimit,T'.builtins,T'.bmain,hd.1,hd.2.1⟩
  refine law_top kf c (fun b o e=>of_hideAll _ e) (fun P hP=>⟨?_,hideAll_none _ hP⟩) (ghost_list hT9 hL) hI (by lia) fun s' h1 h2 h3 h4=>⟨⟨.inl ⟨_,_,[],rfl,hr,ReadsW.bool true,hp,fun _=>⟨List.nodup_nil,fun _ hm=>(nomatch hm)⟩⟩,h1,h4,h3.trans hg⟩,h2 430 (by simp),h2 447 (by simp),trivial⟩
  simp only [List.mem_cons,List.not_mem_nil,or_false] at hP
  rcases hP with rfl | rfl
  · exact (hT9 (434,430) (by simp)).2
  · exact (hT9 (449,447) (by simp)).2
end Mine
end
section
set_option tactic.hygienic false
open PySem PySem.W PyProof.Rows
namespace MineH
noncomputable def pw:Program:=PySem.Challenge.pw_nt0373_01
noncomputable def clsB (i:Nat):Program:={ pw with main:={ pw.main with body:=match pw.main.body[i]? with | some (.ClassDef _ _ _ b ..)=>b | _=>[] } }
noncomputable def pJ:Program:=clsB 32
noncomputable def pR:Program:=clsB 42
noncomputable def fn (p:Program) (n q:Str) (m c:Value):Obj:=match p.theDef n with
  | some (a,b,s)=>⟨.type "function",none,.func { name:=n,qualname:=q,params:=a,body:=.stmts b,scope:=s,globals:=3,closure:=[],defaults:=.none,kwdefaults:=.none,pyModule:=m,code:=c },#[]⟩
  | none=>default
noncomputable def tu (l:List Value):Obj:=⟨.type "tuple",none,.seq l.toArray 0,#[]⟩
noncomputable def li (l:List Value):Obj:=⟨.type "list",none,.seq l.toArray 0,#[]⟩
noncomputable def di (l:List DictEntry) (n:Nat):Obj:=⟨.type "dict",none,.dict l.toArray n,#[]⟩
noncomputable def ke (P:Params) (x:Str) (t:Nat) (v:Value):DictEntry:=⟨PyData.keyHash P x,.str x t,v⟩
noncomputable def ki (x:Int) (t:Nat) (v:Value):DictEntry:=⟨x,.int x t,v⟩
noncomputable def co (a b:Str) (t:Nat) (l n:Int) (r:Addr) (x y z:Value) (u:Int):Obj:=⟨.type "code",none,.fields [.str a t,.str b (t + 1),.str "/claim/cut.py" (t + 2),.int l 0,.int n 0,.int 0 0,.int 0 0,.int 3 0,.ref r,.bool true,.int 181 0,.ref (r + 1),.none,x,y,z,.int u 0,.int l 0,.str "/claim/cut.py" (u.toNat + 1)].toArray,#[]⟩
set_option maxRecDepth 100000 in
noncomputable def frag:Params→Frag:=fun P=>[
  (2,⟨.none,none,.dict [ke P "type.__subclasses__.Exception.0" 579 (.int 228 0),ke P "type.__subclasses__.Exception.n" 580 (.int 1 0)].toArray 2,#[]⟩),
  (3,di [ke P "__name__" 165 (.str "law_nt0373_01" 825),ke P "__doc__" 166 (.none),ke P "__package__" 167 (.none),ke P "__loader__" 168 (.builtin "__main__.__loader__#opaque"),ke P "__spec__" 169 (.none),ke P "__annotations__" 170 (.ref 6),ke P "__builtins__" 171 (.ref 4),ke P "__file__" 173 (.str "/claim/cut.py" 172),ke P "__cached__" 174 (.none),ke P "LETTERS" 253 (.ref 47),ke P "PARTS" 266 (.ref 54),ke P "is_among" 276 (.ref 61),ke P "is_digit" 283 (.ref 68),ke P "hex_value" 290 (.ref 75),ke P "is_id_start" 297 (.ref 82),ke P "is_id_part" 304 (.ref 89),ke P "code_at" 314 (.ref 96),ke P "hex_at" 326 (.ref 103),ke P "GREAT" 365 (.ref 116),ke P "TURNS" 388 (.ref 128),ke P "GREAT_ALONE" 395 (.ref 129),ke P "SMALL_ALONE" 411 (.ref 130),ke P "GREAT_WIDE" 427 (.ref 131),ke P "small_code" 437 (.ref 138),ke P "great_code" 447 (.ref 145),ke P "GREATEST" 451 (.int 65535 450),ke P "DIGITS" 454 (.ref 147),ke P "WORDS" 463 (.ref 152),ke P "SPACES" 486 (.ref 164),ke P "merged" 497 (.ref 171),ke P "inverted" 508 (.ref 178),ke P "has" 519 (.ref 185),ke P "is_word" 526 (.ref 192),ke P "named_lot" 535 (.ref 199),ke P "canon" 543 (.ref 206),ke P "has_folded" 549 (.ref 211),ke P "JSFail" 582 (.ref 228),ke P "SPECIAL" 586 (.str "^$\\.*+?()[]{}|" 585),ke P "CONTROLS" 602 (.ref 232),ke P "PLAIN" 613 (.ref 233),ke P "ENDS" 617 (.ref 237),ke P "ASSERTIONS" 626 (.ref 246),ke P "fail" 633 (.ref 253),ke P "parse_flags" 641 (.ref 260),ke P "is_decimal" 648 (.ref 267),ke P "PatternReader" 814 (.ref 389),ke P "parse_pattern" 824 (.ref 400),ke P "_law_pairs" 832 (.ref 407),ke P "_law_cases" 838 (.ref 414),ke P "_law_take" 846 (.ref 421),ke P "_law_heard" 855 (.ref 428),ke P "_law_pair_right" 871 (.ref 435),ke P "_law_lots_right" 877 (.ref 440),ke P "_law_cases_right" 883 (.ref 445),ke P "law" 889 (.ref 450)] 55),
  (15,tu [.int 170 189,.int 170 190]),
  (16,tu [.int 181 191,.int 181 192]),
  (17,tu [.int 186 193,.int 186 194]),
  (18,tu [.int 192 195,.int 214 196]),
  (19,tu [.int 216 197,.int 246 198]),
  (20,tu [.int 248 199,.int 705 200]),
  (21,tu [.int 880 201,.int 883 202]),
  (22,tu [.int 886 203,.int 887 204]),
  (23,tu [.int 891 205,.int 893 206]),
  (24,tu [.int 902 207,.int 902 208]),
  (25,tu [.int 904 209,.int 906 210]),
  (26,tu [.int 908 211,.int 908 212]),
  (27,tu [.int 910 213,.int 929 214]),
  (28,tu [.int 931 215,.int 1013 216]),
  (29,tu [.int 1015 217,.int 1153 218]),
  (30,tu [.int 1162 219,.int 1315 220]),
  (31,tu [.int 1329 221,.int 1366 222]),
  (32,tu [.int 1377 223,.int 1415 224]),
  (33,tu [.int 1488 225,.int 1514 226]),
  (34,tu [.int 1569 227,.int 1594 228]),
  (35,tu [.int 1601 229,.int 1610 230]),
  (36,tu [.int 2308 231,.int 2361 232]),
  (37,tu [.int 4256 233,.int 4293 234]),
  (38,tu [.int 4304 235,.int 4346 236]),
  (39,tu [.int 7680 237,.int 7835 238]),
  (40,tu [.int 7840 239,.int 7929 240]),
  (41,tu [.int 8544 241,.int 8578 242]),
  (42,tu [.int 12353 243,.int 12438 244]),
  (43,tu [.int 12449 245,.int 12538 246]),
  (44,tu [.int 12549 247,.int 12588 248]),
  (45,tu [.int 19968 249,.int 40891 250]),
  (46,tu [.int 44032 251,.int 55203 252]),
  (47,li [.ref 15,.ref 16,.ref 17,.ref 18,.ref 19,.ref 20,.ref 21,.ref 22,.ref 23,.ref 24,.ref 25,.ref 26,.ref 27,.ref 28,.ref 29,.ref 30,.ref 31,.ref 32,.ref 33,.ref 34,.ref 35,.ref 36,.ref 37,.ref 38,.ref 39,.ref 40,.ref 41,.ref 42,.ref 43,.ref 44,.ref 45,.ref 46]),
  (48,tu [.int 768 254,.int 879 255]),
  (49,tu [.int 1632 256,.int 1641 257]),
  (50,tu [.int 2406 258,.int 2415 259]),
  (51,tu [.int 8204 260,.int 8205 261]),
  (52,tu [.int 8255 262,.int 8256 263]),
  (53,tu [.int 8276 264,.int 8276 265]),
  (54,li [.ref 48,.ref 49,.ref 50,.ref 51,.ref 52,.ref 53]),
  (55,tu []),
  (57,tu [.str "code" 270,.str "ranges" 271,.str "first" 272,.str "last" 273]),
  (58,tu []),
  (60,co "is_among" "is_among" 267 4 2 55 (.ref 57) (.ref 58) (.ref 59) 274),
  (61,fn pw "is_among" "is_among" (.str "js.chars" 187) (.ref 60)),
  (62,tu []),
  (64,tu [.str "code" 280]),
  (65,tu []),
  (67,co "is_digit" "is_digit" 277 9 1 62 (.ref 64) (.ref 65) (.ref 66) 281),
  (68,fn pw "is_digit" "is_digit" (.str "js.chars" 187) (.ref 67)),
  (69,tu []),
  (71,tu [.str "code" 287]),
  (72,tu []),
  (74,co "hex_value" "hex_value" 284 11 1 69 (.ref 71) (.ref 72) (.ref 73) 288),
  (75,fn pw "hex_value" "hex_value" (.str "js.chars" 187) (.ref 74)),
  (76,tu []),
  (78,tu [.str "code" 294]),
  (79,tu []),
  (81,co "is_id_start" "is_id_start" 291 17 1 76 (.ref 78) (.ref 79) (.ref 80) 295),
  (82,fn pw "is_id_start" "is_id_start" (.str "js.chars" 187) (.ref 81)),
  (83,tu []),
  (85,tu [.str "code" 301]),
  (86,tu []),
  (88,co "is_id_part" "is_id_part" 298 21 1 83 (.ref 85) (.ref 86) (.ref 87) 302),
  (89,fn pw "is_id_part" "is_id_part" (.str "js.chars" 187) (.ref 88)),
  (90,tu []),
  (92,tu [.str "text" 310,.str "at" 311]),
  (93,tu []),
  (95,co "code_at" "code_at" 307 24 2 90 (.ref 92) (.ref 93) (.ref 94) 312),
  (96,fn pw "code_at" "code_at" (.str "js.escapes" 305) (.ref 95)),
  (97,tu []),
  (99,tu [.str "text" 318,.str "at" 319,.str "many" 320,.str "value" 321,.str "step" 322,.str "figure" 323]),
  (100,tu []),
  (102,co "hex_at" "hex_at" 315 26 3 97 (.ref 99) (.ref 100) (.ref 101) 324),
  (103,fn pw "hex_at" "hex_at" (.str "js.escapes" 305) (.ref 102)),
  (104,tu [.int 65 329,.int 90 330,.int 32 331]),
  (105,tu [.int 192 332,.int 214 333,.int 32 334]),
  (106,tu [.int 216 335,.int 222 336,.int 32 337]),
  (107,tu [.int 902 338,.int 902 339,.int 38 340]),
  (108,tu [.int 904 341,.int 906 342,.int 37 343]),
  (109,tu [.int 908 344,.int 908 345,.int 64 346]),
  (110,tu [.int 910 347,.int 911 348,.int 63 349]),
  (111,tu [.int 913 350,.int 929 351,.int 32 352]),
  (112,tu [.int 931 353,.int 939 354,.int 32 355]),
  (113,tu [.int 1024 356,.int 1039 357,.int 80 358]),
  (114,tu [.int 1040 359,.int 1071 360,.int 32 361]),
  (115,tu [.int 1329 362,.int 1366 363,.int 48 364]),
  (116,li [.ref 104,.ref 105,.ref 106,.ref 107,.ref 108,.ref 109,.ref 110,.ref 111,.ref 112,.ref 113,.ref 114,.ref 115]),
  (117,tu [.int 256 366,.int 303 367]),
  (118,tu [.int 306 368,.int 311 369]),
  (119,tu [.int 313 370,.int 328 371]),
  (120,tu [.int 330 372,.int 375 373]),
  (121,tu [.int 377 374,.int 382 375]),
  (122,tu [.int 984 376,.int 1007 377]),
  (123,tu [.int 1120 378,.int 1153 379]),
  (124,tu [.int 1162 380,.int 1215 381]),
  (125,tu [.int 1232 382,.int 1319 383]),
  (126,tu [.int 7680 384,.int 7829 385]),
  (127,tu [.int 7840 386,.int 7935 387]),
  (128,li [.ref 117,.ref 118,.ref 119,.ref 120,.ref 121,.ref 122,.ref 123,.ref 124,.ref 125,.ref 126,.ref 127]),
  (129,di [ki 376 389 (.int 255 390),ki 304 391 (.int 105 392)] 2),
  (130,di [ki 255 396 (.int 376 397),ki 181 398 (.int 924 399),ki 305 400 (.int 73 401),ki 383 402 (.int 83 403),ki 962 404 (.int 931 405)] 5),
  (131,di [ki 223 412 (.str "SS" 413),ki 329 414 (.str "ʼN" 415),ki 912 416 (.str "Ϊ́" 417),ki 944 418 (.str "Ϋ́" 419),ki 1415 420 (.str "ԵՒ" 421)] 5),
  (132,tu []),
  (134,tu [.str "code" 431,.str "first" 432,.str "last" 433,.str "way" 434]),
  (135,tu []),
  (137,co "small_code" "small_code" 428 40 1 132 (.ref 134) (.ref 135) (.ref 136) 435),
  (138,fn pw "small_code" "small_code" (.str "js.textcase" 327) (.ref 137)),
  (139,tu []),
  (141,tu [.str "code" 441,.str "first" 442,.str "last" 443,.str "way" 444]),
  (142,tu []),
  (144,co "great_code" "great_code" 438 50 1 139 (.ref 141) (.ref 142) (.ref 143) 445),
  (145,fn pw "great_code" "great_code" (.str "js.textcase" 327) (.ref 144)),
  (146,tu [.int 48 452,.int 57 453]),
  (147,tu [.ref 146]),
  (148,tu [.int 48 455,.int 57 456]),
  (149,tu [.int 65 457,.int 90 458]),
  (150,tu [.int 95 459,.int 95 460]),
  (151,tu [.int 97 461,.int 122 462]),
  (152,tu [.ref 148,.ref 149,.ref 150,.ref 151]),
  (153,tu [.int 9 464,.int 13 465]),
  (154,tu [.int 32 466,.int 32 467]),
  (155,tu [.int 160 468,.int 160 469]),
  (156,tu [.int 5760 470,.int 5760 471]),
  (157,tu [.int 6158 472,.int 6158 473]),
  (158,tu [.int 8192 474,.int 8202 475]),
  (159,tu [.int 8232 476,.int 8233 477]),
  (160,tu [.int 8239 478,.int 8239 479]),
  (161,tu [.int 8287 480,.int 8287 481]),
  (162,tu [.int 12288 482,.int 12288 483]),
  (163,tu [.int 65279 484,.int 65279 485]),
  (164,tu [.ref 153,.ref 154,.ref 155,.ref 156,.ref 157,.ref 158,.ref 159,.ref 160,.ref 161,.ref 162,.ref 163]),
  (165,tu []),
  (167,tu [.str "pairs" 490,.str "found" 491,.str "first" 492,.str "last" 493,.str "before" 494]),
  (168,tu []),
  (170,co "merged" "merged" 487 65 1 165 (.ref 167) (.ref 168) (.ref 169) 495),
  (171,fn pw "merged" "merged" (.str "js.reclass" 448) (.ref 170)),
  (172,tu []),
  (174,tu [.str "ranges" 501,.str "found" 502,.str "at" 503,.str "first" 504,.str "last" 505]),
  (175,tu []),
  (177,co "inverted" "inverted" 498 74 1 172 (.ref 174) (.ref 175) (.ref 176) 506),
  (178,fn pw "inverted" "inverted" (.str "js.reclass" 448) (.ref 177)),
  (179,tu []),
  (181,tu [.str "ranges" 512,.str "code" 513,.str "low" 514,.str "high" 515,.str "middle" 516]),
  (182,tu []),
  (184,co "has" "has" 509 84 2 179 (.ref 181) (.ref 182) (.ref 183) 517),
  (185,fn pw "has" "has" (.str "js.reclass" 448) (.ref 184)),
  (186,tu []),
  (188,tu [.str "code" 523]),
  (189,tu []),
  (191,co "is_word" "is_word" 520 94 1 186 (.ref 188) (.ref 189) (.ref 190) 524),
  (192,fn pw "is_word" "is_word" (.str "js.reclass" 448) (.ref 191)),
  (193,tu []),
  (195,tu [.str "letter" 530,.str "lots" 531,.str "small" 532]),
  (196,tu []),
  (198,co "named_lot" "named_lot" 527 96 1 193 (.ref 195) (.ref 196) (.ref 197) 533),
  (199,fn pw "named_lot" "named_lot" (.str "js.reclass" 448) (.ref 198)),
  (200,tu []),
  (202,tu [.str "code" 539,.str "great" 540]),
  (203,tu []),
  (205,co "canon" "canon" 536 102 1 200 (.ref 202) (.ref 203) (.ref 204) 541),
  (206,fn pw "canon" "canon" (.str "js.reclass" 448) (.ref 205)),
  (207,tu []),
  (210,co "has_folded" "has_folded" 544 107 2 207 (.none) (.none) (.ref 209) 547),
  (211,fn pw "has_folded" "has_folded" (.str "js.reclass" 448) (.ref 210)),
  (212,tu [.type "Exception"]),
  (219,tu []),
  (221,tu [.str "self" 567,.str "kind" 568,.str "text" 569]),
  (222,tu []),
  (224,co "__init__" "JSFail.__init__" 564 114 3 219 (.ref 221) (.ref 222) (.ref 223) 570),
  (225,fn pJ "__init__" "JSFail.__init__" (.str "js.values" 550) (.ref 224)),
  (226,tu [.str "kind" 573,.str "text" 574]),
  (227,di [ke P "__module__" 559 (.str "js.values" 550),ke P "__firstlineno__" 563 (.int 112 562),ke P "__init__" 572 (.ref 225),ke P "__static_attributes__" 575 (.ref 226),ke P "__weakref__" 577 (.ref 229),ke P "__doc__" 578 (.none)] 3),
  (228,⟨.type "type",none,.cls { name:="JSFail",bases:=[.type "Exception"],mro:=[.ref 228,.type "Exception",.type "BaseException",.type "object"],ns:=227,qualname:="JSFail" },#[some (.ref 212),none,some (.str "JSFail" 552),some (.str "JSFail" 560),some (.builtin "Exception.__new__"),some (.bool true)]⟩),
  (229,⟨.type "getset_descriptor",none,.fields [.str "__weakref__" 576,.ref 228,.builtin "ExceptionGroup.__weakref__",.none].toArray,#[]⟩),
  (232,di [ke P "f" 587 (.int 12 588),ke P "n" 589 (.int 10 590),ke P "r" 591 (.int 13 592),ke P "t" 593 (.int 9 594),ke P "v" 595 (.int 11 596)] 5),
  (233,di [ke P "*" 603 (.ref 234),ke P "+" 605 (.ref 235),ke P "?" 607 (.ref 236)] 3),
  (234,tu [.int 0 604,.none]),
  (235,tu [.int 1 606,.none]),
  (236,tu [.int 0 608,.int 1 609]),
  (237,tu [.str "" 614,.str "|" 615,.str ")" 616]),
  (238,tu [.str "start" 619]),
  (239,tu [.str "^" 618,.ref 238]),
  (240,tu [.str "end" 621]),
  (241,tu [.str "$" 620,.ref 240]),
  (242,tu [.str "boundary" 623,.bool false]),
  (243,tu [.str "\\b" 622,.ref 242]),
  (244,tu [.str "boundary" 625,.bool true]),
  (245,tu [.str "\\B" 624,.ref 244]),
  (246,tu [.ref 239,.ref 241,.ref 243,.ref 245]),
  (247,tu []),
  (249,tu [.str "text" 630]),
  (250,tu []),
  (252,co "fail" "fail" 627 123 1 247 (.ref 249) (.ref 250) (.ref 251) 631),
  (253,fn pw "fail" "fail" (.str "js.reparse" 583) (.ref 252)),
  (254,tu []),
  (256,tu [.str "flags" 637,.str "sign" 638]),
  (257,tu []),
  (259,co "parse_flags" "parse_flags" 634 125 1 254 (.ref 256) (.ref 257) (.ref 258) 639),
  (260,fn pw "parse_flags" "parse_flags" (.str "js.reparse" 583) (.ref 259)),
  (261,tu []),
  (263,tu [.str "sign" 645]),
  (264,tu []),
  (266,co "is_decimal" "is_decimal" 642 130 1 261 (.ref 263) (.ref 264) (.ref 265) 646),
  (267,fn pw "is_decimal" "is_decimal" (.str "js.reparse" 583) (.ref 266)),
  (275,tu []),
  (277,tu [.str "self" 664,.str "text" 665]),
  (278,tu []),
  (280,co "__init__" "PatternReader.__init__" 661 134 2 275 (.ref 277) (.ref 278) (.ref 279) 666),
  (281,fn pR "__init__" "PatternReader.__init__" (.str "js.reparse" 583) (.ref 280)),
  (282,tu []),
  (284,tu [.str "self" 672]),
  (285,tu []),
  (287,co "sign" "PatternReader.sign" 669 140 1 282 (.ref 284) (.ref 285) (.ref 286) 673),
  (288,fn pR "sign" "PatternReader.sign" (.str "js.reparse" 583) (.ref 287)),
  (289,tu []),
  (291,tu [.str "self" 679,.str "found" 680]),
  (292,tu []),
  (294,co "take" "PatternReader.take" 676 143 1 289 (.ref 291) (.ref 292) (.ref 293) 681),
  (295,fn pR "take" "PatternReader.take" (.str "js.reparse" 583) (.ref 294)),
  (296,tu []),
  (298,tu [.str "self" 687,.str "word" 688]),
  (299,tu []),
  (301,co "skip" "PatternReader.skip" 684 148 2 296 (.ref 298) (.ref 299) (.ref 300) 689),
  (302,fn pR "skip" "PatternReader.skip" (.str "js.reparse" 583) (.ref 301)),
  (303,tu []),
  (305,tu [.str "self" 695,.str "found" 696]),
  (306,tu []),
  (308,co "disjunction" "PatternReader.disjunction" 692 154 1 303 (.ref 305) (.ref 306) (.ref 307) 697),
  (309,fn pR "disjunction" "PatternReader.disjunction" (.str "js.reparse" 583) (.ref 308)),
  (310,tu []),
  (312,tu [.str "self" 703,.str "found" 704]),
  (313,tu []),
  (315,co "alternative" "PatternReader.alternative" 700 160 1 310 (.ref 312) (.ref 313) (.ref 314) 705),
  (316,fn pR "alternative" "PatternReader.alternative" (.str "js.reparse" 583) (.ref 315)),
  (317,tu []),
  (319,tu [.str "self" 711,.str "word" 712,.str "tree" 713,.str "first" 714,.str "atom" 715,.str "often" 716]),
  (320,tu []),
  (322,co "term" "PatternReader.term" 708 166 1 317 (.ref 319) (.ref 320) (.ref 321) 717),
  (323,fn pR "term" "PatternReader.term" (.str "js.reparse" 583) (.ref 322)),
  (324,tu []),
  (326,tu [.str "self" 723,.str "found" 724]),
  (327,tu []),
  (329,co "within" "PatternReader.within" 720 181 1 324 (.ref 326) (.ref 327) (.ref 328) 725),
  (330,fn pR "within" "PatternReader.within" (.str "js.reparse" 583) (.ref 329)),
  (331,tu []),
  (333,tu [.str "self" 731,.str "least" 732,.str "most" 733]),
  (334,tu []),
  (336,co "often" "PatternReader.often" 728 187 1 331 (.ref 333) (.ref 334) (.ref 335) 734),
  (337,fn pR "often" "PatternReader.often" (.str "js.reparse" 583) (.ref 336)),
  (338,tu []),
  (340,tu [.str "self" 740,.str "begin" 741]),
  (341,tu []),
  (343,co "number" "PatternReader.number" 737 202 1 338 (.ref 340) (.ref 341) (.ref 342) 742),
  (344,fn pR "number" "PatternReader.number" (.str "js.reparse" 583) (.ref 343)),
  (345,tu []),
  (347,tu [.str "self" 748,.str "sign" 749,.str "number" 750]),
  (348,tu []),
  (350,co "atom" "PatternReader.atom" 745 210 1 345 (.ref 347) (.ref 348) (.ref 349) 751),
  (351,fn pR "atom" "PatternReader.atom" (.str "js.reparse" 583) (.ref 350)),
  (352,tu []),
  (354,tu [.str "self" 757,.str "number" 758,.str "lot" 759]),
  (355,tu []),
  (357,co "atom_escape" "PatternReader.atom_escape" 754 228 1 352 (.ref 354) (.ref 355) (.ref 356) 760),
  (358,fn pR "atom_escape" "PatternReader.atom_escape" (.str "js.reparse" 583) (.ref 357)),
  (359,tu []),
  (361,tu [.str "self" 766,.str "sign" 767,.str "letter" 768,.str "many" 769,.str "code" 770]),
  (362,tu []),
  (364,co "escaped_sign" "PatternReader.escaped_sign" 763 239 1 359 (.ref 361) (.ref 362) (.ref 363) 771),
  (365,fn pR "escaped_sign" "PatternReader.escaped_sign" (.str "js.reparse" 583) (.ref 364)),
  (366,tu []),
  (368,tu [.str "self" 777,.str "is_negated" 778,.str "pairs" 779,.str "first" 780]),
  (369,tu []),
  (371,co "sign_class" "PatternReader.sign_class" 774 263 1 366 (.ref 368) (.ref 369) (.ref 370) 781),
  (372,fn pR "sign_class" "PatternReader.sign_class" (.str "js.reparse" 583) (.ref 371)),
  (373,tu []),
  (375,tu [.str "self" 787,.str "first" 788,.str "last" 789]),
  (376,tu []),
  (378,co "class_range" "PatternReader.class_range" 784 276 3 373 (.ref 375) (.ref 376) (.ref 377) 790),
  (379,fn pR "class_range" "PatternReader.class_range" (.str "js.reparse" 583) (.ref 378)),
  (380,tu []),
  (382,tu [.str "self" 796,.str "sign" 797,.str "lot" 798,.str "code" 799]),
  (383,tu []),
  (385,co "class_atom" "PatternReader.class_atom" 793 283 1 380 (.ref 382) (.ref 383) (.ref 384) 800),
  (386,fn pR "class_atom" "PatternReader.class_atom" (.str "js.reparse" 583) (.ref 385)),
  (387,tu [.str "at" 803,.str "farthest_back" 804,.str "groups" 805,.str "text" 806]),
  (388,di [ke P "__module__" 656 (.str "js.reparse" 583),ke P "__firstlineno__" 660 (.int 132 659),ke P "__init__" 668 (.ref 281),ke P "sign" 675 (.ref 288),ke P "take" 683 (.ref 295),ke P "skip" 691 (.ref 302),ke P "disjunction" 699 (.ref 309),ke P "alternative" 707 (.ref 316),ke P "term" 719 (.ref 323),ke P "within" 727 (.ref 330),ke P "often" 736 (.ref 337),ke P "number" 744 (.ref 344),ke P "atom" 753 (.ref 351),ke P "atom_escape" 762 (.ref 358),ke P "escaped_sign" 773 (.ref 365),ke P "sign_class" 783 (.ref 372),ke P "class_range" 792 (.ref 379),ke P "class_atom" 802 (.ref 386),ke P "__static_attributes__" 807 (.ref 387),ke P "__dict__" 809 (.ref 390),ke P "__weakref__" 811 (.ref 391),ke P "__doc__" 812 (.none)] 4),
  (389,⟨.type "type",none,.cls { name:="PatternReader",bases:=[.type "object"],mro:=[.ref 389,.type "object"],ns:=388,qualname:="PatternReader" },#[none,none,some (.str "PatternReader" 649),some (.str "PatternReader" 657),some (.builtin "object.__new__"),some (.bool true)]⟩),
  (390,⟨.type "getset_descriptor",none,.fields [.str "__dict__" 808,.ref 389,.builtin "function.__dict__",.builtin "function.__dict__#set"].toArray,#[]⟩),
  (391,⟨.type "getset_descriptor",none,.fields [.str "__weakref__" 810,.ref 389,.builtin "ExceptionGroup.__weakref__",.none].toArray,#[]⟩),
  (394,tu []),
  (396,tu [.str "text" 818,.str "flags" 819,.str "reader" 820,.str "tree" 821]),
  (397,tu []),
  (399,co "parse_pattern" "parse_pattern" 815 299 2 394 (.ref 396) (.ref 397) (.ref 398) 822),
  (400,fn pw "parse_pattern" "parse_pattern" (.str "js.reparse" 583) (.ref 399)),
  (401,tu []),
  (403,tu []),
  (404,tu []),
  (406,co "_law_pairs" "_law_pairs" 827 309 0 401 (.ref 403) (.ref 404) (.ref 405) 830),
  (407,fn pw "_law_pairs" "_law_pairs" (.str "law_nt0373_01" 825) (.ref 406)),
  (408,tu []),
  (410,tu []),
  (411,tu []),
  (413,co "_law_cases" "_law_cases" 833 311 0 408 (.ref 410) (.ref 411) (.ref 412) 836),
  (414,fn pw "_law_cases" "_law_cases" (.str "law_nt0373_01" 825) (.ref 413)),
  (415,tu []),
  (417,tu [.str "box" 842,.str "limit" 843]),
  (418,tu []),
  (420,co "_law_take" "_law_take" 839 313 2 415 (.ref 417) (.ref 418) (.ref 419) 844),
  (421,fn pw "_law_take" "_law_take" (.str "law_nt0373_01" 825) (.ref 420)),
  (422,tu []),
  (424,tu [.str "work" 850,.str "found" 851,.str "wrong" 852]),
  (425,tu []),
  (427,co "_law_heard" "_law_heard" 847 318 1 422 (.ref 424) (.ref 425) (.ref 426) 853),
  (428,fn pw "_law_heard" "_law_heard" (.str "law_nt0373_01" 825) (.ref 427)),
  (429,tu []),
  (431,tu [.str "box" 859,.str "term" 860,.str "digit" 861,.str "ahead" 862,.str "behind" 863,.str "many" 864]),
  (432,tu [.str "bad" 865,.str "begin" 866,.str "flags" 867,.str "good" 868]),
  (434,co "_law_pair_right" "_law_pair_right" 856 325 1 429 (.ref 431) (.ref 432) (.ref 433) 869),
  (435,fn pw "_law_pair_right" "_law_pair_right" (.str "law_nt0373_01" 825) (.ref 434)),
  (436,tu []),
  (439,co "_law_lots_right" "_law_lots_right" 872 335 1 436 (.none) (.none) (.ref 438) 875),
  (440,fn pw "_law_lots_right" "_law_lots_right" (.str "law_nt0373_01" 825) (.ref 439)),
  (441,tu []),
  (444,co "_law_cases_right" "_law_cases_right" 878 352 1 441 (.none) (.none) (.ref 443) 881),
  (445,fn pw "_law_cases_right" "_law_cases_right" (.str "law_nt0373_01" 825) (.ref 444)),
  (446,tu []),
  (449,co "law" "law" 884 360 1 446 (.none) (.none) (.ref 448) 887),
  (450,fn pw "law" "law" (.str "law_nt0373_01" 825) (.ref 449))]
noncomputable def vk:List Nat:=[1,2,3,4,5,6,7,9,10,12,13,14,15,16,17,18,20,21,22,23,24,25,26,27,28,29,30,32,34,35,36,37,38,39,40,41,42,43,45,46,47,48,49,50,51,52]
noncomputable def vw:Program:=view pw vk
noncomputable def lo:List Str:=["LETTERS","PARTS","GREAT","TURNS","GREAT_ALONE","SMALL_ALONE","GREAT_WIDE","CONTROLS","PLAIN"]
noncomputable def fas:List Addr:=[2,3,15,16,17,18,19,20,21,22,23,24,25,26,27,28,29,30,31,32,33,34,35,36,37,38,39,40,41,42,43,44,45,46,47,48,49,50,51,52,53,54,55,57,58,60,61,62,64,65,67,68,69,71,72,74,75,76,78,79,81,82,83,85,86,88,89,90,92,93,95,96,97,99,100,102,103,104,105,106,107,108,109,110,111,112,113,114,115,116,117,118,119,120,121,122,123,124,125,126,127,128,129,130,131,132,134,135,137,138,139,141,142,144,145,146,147,148,149,150,151,152,153,154,155,156,157,158,159,160,161,162,163,164,165,167,168,170,171,172,174,175,177,178,179,181,182,184,185,186,188,189,191,192,193,195,196,198,199,200,202,203,205,206,207,210,211,212,219,221,222,224,225,226,227,228,229,232,233,234,235,236,237,238,239,240,241,242,243,244,245,246,247,249,250,252,253,254,256,257,259,260,261,263,264,266,267,275,277,278,280,281,282,284,285,287,288,289,291,292,294,295,296,298,299,301,302,303,305,306,308,309,310,312,313,315,316,317,319,320,322,323,324,326,327,329,330,331,333,334,336,337,338,340,341,343,344,345,347,348,350,351,352,354,355,357,358,359,361,362,364,365,366,368,369,371,372,373,375,376,378,379,380,382,383,385,386,387,388,389,390,391,394,396,397,399,400,401,403,404,406,407,408,410,411,413,414,415,417,418,420,421,422,424,425,427,428,429,431,432,434,435,436,439,440,441,444,445,446,449,450]
noncomputable def bT (P:Params):BT:=((((((((((BT.nil.ins 0 (boot_o_0 P)).ins 1 (boot_o_1 P)).ins 2 (boot_o_2 P)).ins 3 (boot_o_3 P)).ins 4 (boot_o_4 P)).ins 5 (boot_o_5 P)).ins 6 (boot_o_6 P)).ins 7 (boot_o_7 P)).ins 8 (boot_o_8 P)).ins 9 (boot_o_9 P)).ins 10 (boot_o_10 P)
theorem bT_abs (P:Params):absHeap (bT P) 11 (boot_heap P).life=boot_heap P:=by kernel_rfl

noncomputable def trT (th ok:Thread→Bool) (st:SharedT→Thread→Option (SharedT × Thread)):Nat→SharedT→Thread→Option SharedT
  | 0,_,_=>none
  | n + 1,s,t=>match th t with
    | true=>some s
    | false=>match ok t with
      | false=>none
      | true=>match st s t with
        | some (s',t')=>trT th ok st n s' t'
        | none=>none
theorem trT_of {tb:String→Option Builtin} {p:Program} {w:World} {n₀:Nat} {ann:Option Value}:∀ {n:Nat} {s r:SharedT} {t:Thread},trT through (stepOk n₀ ann) (stepT (denote tb) p w) n s t=some r→topRun tb p w n₀ ann n s.abs t=some r.abs
  | 0,_,_,_,h=>by cases h
  | n + 1,s,r,t,h=>by
    unfold trT at h
    unfold topRun
    cases he:through t with
    | true=>rw [he] at h; cases h; rfl
    | false =>
      rw [he] at h
      cases hk:stepOk n₀ ann t with
      | false=>rw [hk] at h; cases h
      | true =>
        rw [hk] at h
        cases hs:stepT (denote tb) p w s t with
        | none=>rw [hs] at h; cases h
        | some x=>obtain ⟨s₂,t₂⟩:=x; rw [hs] at h; rw [stepT_spec hs]; exact trT_of h

theorem left_of {p q:Program} {loose:List Str} {Xt:Shared→Bool} {α:Type} {Yf:Shared→α} {Ya:World→α} {N:Nat}
    (op:∀ w:World,(fencedOpening treeTable p w N).map (fun s=>(s.heap,s.gens,s.drawn,s.toks))=some (boot_heap w.params,Array.mk [],boot_drawn,boot_toks))
    (hn:∀ w:World,(boot_heap w.params).isNs mainGlobals=true)
    (h:∀ w:World,(fun os=>(trT through (stepOk (boot_heap w.params).objs.size ((boot_heap w.params).nsMap mainGlobals "__annotations__")) (stepT (denote treeTable) p w) N ⟨bT w.params,11,(boot_heap w.params).life,#[],boot_drawn,boot_toks,os⟩ (topStub p)).map
      (fun s=>(staticsOk (importedModules p.main.body) (boot_heap w.params) s.abs.heap && namesBound p s.abs.heap && gensDone s.abs && laidKept (boot_heap w.params) s.abs.heap,openSeen q loose (importedModules p.main.body) Xt true s.abs,Yf s.abs)))
     =fun _=>some (true,openGood q loose,Ya w)):LeftO p q loose Xt Yf Ya N:=fun w=>by
  obtain ⟨⟨hp,gs,d,k,os⟩,e,e'⟩:=Option.map_eq_some_iff.mp (op w)
  obtain ⟨rfl,rfl,rfl,rfl⟩:hp=boot_heap w.params∧gs=#[]∧d=boot_drawn∧k=boot_toks:=by simpa using e'
  obtain ⟨r,hr,hv⟩:=Option.map_eq_some_iff.mp (congrFun (h w) os)
  have hr':=trT_of hr
  have v1:=congrArg Prod.fst hv
  have v2:=congrArg Prod.snd hv
  have ab:SharedT.abs ⟨bT w.params,11,(boot_heap w.params).life,#[],boot_drawn,boot_toks,os⟩=⟨boot_heap w.params,#[],boot_drawn,boot_toks,os⟩:=by
    unfold SharedT.abs; dsimp only; rw [bT_abs]
  rw [ab] at hr'
  have t:topFrom treeTable p w N ⟨boot_heap w.params,#[],boot_drawn,boot_toks,os⟩=some r.abs:=by
    unfold topFrom
    dsimp only
    rw [hn w]
    show (topRun treeTable p w _ _ N _ _).bind _=_
    rw [hr']
    show (match staticsOk (importedModules p.main.body) (boot_heap w.params) r.abs.heap && namesBound p r.abs.heap && gensDone r.abs && laidKept (boot_heap w.params) r.abs.heap with | true=>_ | false=>_)=_
    dsimp only at v1
    rw [v1]
  unfold openEnds
  rw [e]
  show (topFrom treeTable p w N _).map _=_
  rw [t]
  exact congrArg some v2
end MineH
end
section
open PySem PySem.W PyProof.Rows
namespace MineH
noncomputable def ts:List Addr:=[430,447]
noncomputable def hk:Hook:=kmHook frag fas (fun _=>by kernel_rfl) ts
noncomputable def GP (im:type_of% @importedModules) (oS:type_of% @openSeen) (nM:type_of% @Heap.nsMap) (sO:type_of% @stepOk) (sT:type_of% @stepT) (dn:type_of% @denote) (tt:type_of% @treeTable) (dr:type_of% @drecsOf) (lW:type_of% @looseW) (w:World):Prop :=
  (fun os=>(trT through (sO (boot_heap w.params).objs.size (nM (boot_heap w.params) mainGlobals "__annotations__")) (sT (dn tt) pw w) 5414 ⟨bT w.params,11,(boot_heap w.params).life,#[],boot_drawn,boot_toks,os⟩ (topStub pw)).map
    (fun s=>(staticsOk (im pw.main.body) (boot_heap w.params) s.abs.heap && namesBound pw s.abs.heap && gensDone s.abs && laidKept (boot_heap w.params) s.abs.heap,oS vw lo (im pw.main.body) (fun s=>xlAt vw [] s && recOk [] s) true s.abs,fas.map s.abs.heap.get?,ts.map s.abs.heap.get?)))
 =fun _=>some (true,(expectedOf vw,bltViewBooted,true,true,pinGoodD (dr vw),plainGoodE vw (lW vw lo),plainGoodD vw lo,wideGood vw,clsGoodW vw lo),((frag w.params).map fun p=>some p.2),ts.map fun _=>some (tabObj #[]))
theorem g_f (w:World):GP importedModules openSeen Heap.nsMap stepOk stepT denote treeTable drecsOf looseW (w.withFollow "special-get-raises" false):=by
  rw [Fast.te5923862056798008813,Fast.te4187177175401517315,Fast.te6613529449190102663,Fast.te8920871248978507458,Fast.te10156331382660048174,Fast.te11892475500146522536,Fast.te14364793385576792824,Fast.te3247288618530077131,Fast.te821141287760084731]
  delta GP
  kernel_rfl
theorem g_t (w:World):GP importedModules openSeen Heap.nsMap stepOk stepT denote treeTable drecsOf looseW (w.withFollow "special-get-raises" true):=by
  rw [Fast.te5923862056798008813,Fast.te4187177175401517315,Fast.te6613529449190102663,Fast.te8920871248978507458,Fast.te10156331382660048174,Fast.te11892475500146522536,Fast.te14364793385576792824,Fast.te3247288618530077131,Fast.te821141287760084731]
  delta GP
  kernel_rfl
theorem pw_open:∀ w:World,(fencedOpening treeTable pw w 5414).map (fun s=>(s.heap,s.gens,s.drawn,s.toks))=some (boot_heap w.params,Array.mk [],boot_drawn,boot_toks) :=
  boot_open (by kernel_rfl) (by kernel_rfl) (fun s=>by kernel_rfl)
theorem pw_left:LeftO pw vw lo (fun s=>xlAt vw [] s && recOk [] s) hk.obs hk.val 5414 :=
  left_of pw_open (fun w=>by kernel_rfl) (fun w=>byRow2 "special-get-raises" (P:=GP importedModules openSeen Heap.nsMap stepOk stepT denote treeTable drecsOf looseW) g_f g_t w)
theorem well:PySem.Challenge.rw_nt0373_01.wellSaid=true:=by
  rw [Fast.te9446332074065402090]; kernel_rfl
end MineH
end
open PySem PySem.W PyProof.Rows
set_option maxRecDepth 100000 in
set_option maxHeartbeats 8000000 in
theorem PySem.Challenge.cw_nt0373_01_holds : PySem.Challenge.rw_nt0373_01.Holds := by
  (w_on; refine holds_law MineH.well fun said => ?_;
   refine holds_open (q := MineH.vw) (loose := MineH.lo) (Xt := fun s => xlAt MineH.vw [] s && recOk [] s) (XP := XL MineH.vw []) (Yf := Hook.obs MineH.hk) (Ya := Hook.val MineH.hk) (YP := Hook.says MineH.hk) (N := 5414) MineH.pw_left (Hook.of _) (Hook.keeps _) (fun s e => xl_of s (Bool.and_eq_true_iff.mp e).1) XL.keeps (d := ?d) (kwd := ?kwd) ?h1 ?h2 ?h3 (fun s e => recFacts_of (Bool.and_eq_true_iff.mp e).2) rfl said (by decide +kernel) ⟨rfl, rfl, rfl, rfl, rfl, by decide +kernel⟩ ?hw ?hc
   case h1 => rfl
   case h2 => rfl
   case h3 => rfl
   (case hw => w_witness2); w_strict (
    intro w s₀ s₁ mg mb G Y fa o pm cd doc dV kV ho hd hcd hD hmg hg args vals as hpre hlay hrd hwl hlo
    have KX := Y.1
    have hT9 : TabsAt [(434, 430), (449, 447)] s₁.heap := List.forall_mem_cons.mpr ⟨⟨codeHd_of_K (c := 434) (P := 430) KX (by kernel_rfl), Y.2 430 (by simp [MineH.ts])⟩, List.forall_mem_cons.mpr ⟨⟨codeHd_of_K (c := 449) (P := 447) KX (by kernel_rfl), Y.2 447 (by simp [MineH.ts])⟩, fun _ h => nomatch h⟩⟩
    refine Ground.open G ?_
    intro T B D TE TW
    wrow_args hpre hlay hrd hwl hlo
    first | refine callC_kw (enter_call ?_) | refine enter_call ?_
    kn_posts
    refine Mine.law_join ?kf (by kernel_rfl) (by kernel_rfl) KX hT9 T hmg hg (by assumption) (by assumption) (by assumption) (fun _ => rfl) ?hp
    case kf =>
      refine ⟨by kernel_rfl, by kernel_rfl, by kernel_rfl, by kernel_rfl, by kernel_rfl, by kernel_rfl, by kernel_rfl, by kernel_rfl, by kernel_rfl, by kernel_rfl, by kernel_rfl, ⟨"JSFail", "JSFail", [], [], false, none, none, some (.ref 212), none, some (.str "JSFail" 552), some (.str "JSFail" 560), some (.bool true), by kernel_rfl⟩, by kernel_rfl, by kernel_rfl, by kernel_rfl, by kernel_rfl, by kernel_rfl, by kernel_rfl, by kernel_rfl, by kernel_rfl, by kernel_rfl, fun a ha => ?_⟩
      simp only [List.mem_cons, List.not_mem_nil, or_false] at ha
      rcases ha with rfl | rfl
      · show _ = _
        kernel_rfl
      · show _ = _
        kernel_rfl
    case hp => kernel_rfl))
