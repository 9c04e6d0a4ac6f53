import PyProof.Rows.All
import Wide.All
import OpenK.AllK
import Wide.FinOn
import PySem.Builtin.Int.W1All
import PyProof.WalksMore
import PyProof.RulesAssignMore
import KE.KNest
import PySem.Challenge.RW_sj0065_01
set_option Elab.async false
set_option linter.all false
set_option tactic.hygienic false
set_option maxRecDepth 100000
set_option maxHeartbeats 0
set_option genInjectivity false
set_option genSizeOf false
set_option genSizeOfSpec false
namespace Mine
section
theorem aZ {a b c d:Nat} (h:a≤b) (k:c≤d):a+c≤b+d:=Nat.add_le_add h k
theorem lZ {a b e f:Nat} (h:a≤b) (v:e+b≤f+a:=by simp +arith only):e≤f:=Nat.le_of_add_le_add_right (Nat.le_trans v (Nat.add_le_add_left h f))
theorem l0Z {e f:Nat} (v:e≤f:=by simp +arith only):e≤f:=v
theorem e0Z {e f:Nat} (v:e=f:=by simp +arith only):e=f:=v
theorem cI {n:Nat} (h:1≤n):n=n - 1+1:=(Nat.sub_add_cancel h).symm
theorem n2Z {n:Nat} (h:2≤n):n=n - 2+2:=(Nat.sub_add_cancel h).symm
theorem tZ {a b:Nat} (h:a < b):a+1≤b:=h
theorem zZ {n:Nat} (h:n≤0):n=0:=Nat.eq_zero_of_le_zero h
theorem gLMRRZ {a b n c d e f:Nat} (h:d*(e+(f+a))+c≤n) (k:d*(e+(f+b))+c≤n):d*(e+(f+max a b))+c≤n:=(Nat.le_total a b).elim (fun t=>Nat.le_trans (Nat.add_le_add_right (Nat.mul_le_mul_left d (Nat.add_le_add_left (Nat.add_le_add_left (Nat.max_le.mpr ⟨t,Nat.le_refl b⟩) f) e)) c) k) (fun t=>Nat.le_trans (Nat.add_le_add_right (Nat.mul_le_mul_left d (Nat.add_le_add_left (Nat.add_le_add_left (Nat.max_le.mpr ⟨Nat.le_refl a,t⟩) f) e)) c) h)
theorem gLMRZ {a b n c d e:Nat} (h:d*(e+a)+c≤n) (k:d*(e+b)+c≤n):d*(e+max a b)+c≤n:=(Nat.le_total a b).elim (fun t=>Nat.le_trans (Nat.add_le_add_right (Nat.mul_le_mul_left d (Nat.add_le_add_left (Nat.max_le.mpr ⟨t,Nat.le_refl b⟩) e)) c) k) (fun t=>Nat.le_trans (Nat.add_le_add_right (Nat.mul_le_mul_left d (Nat.add_le_add_left (Nat.max_le.mpr ⟨Nat.le_refl a,t⟩) e)) c) h)
theorem gLRRZ {a b n c d e:Nat} (h:d+(e+a)+c≤n) (k:d+(e+b)+c≤n):d+(e+max a b)+c≤n:=(Nat.le_total a b).elim (fun t=>Nat.le_trans (Nat.add_le_add_right (Nat.add_le_add_left (Nat.add_le_add_left (Nat.max_le.mpr ⟨t,Nat.le_refl b⟩) e) d) c) k) (fun t=>Nat.le_trans (Nat.add_le_add_right (Nat.add_le_add_left (Nat.add_le_add_left (Nat.max_le.mpr ⟨Nat.le_refl a,t⟩) e) d) c) h)
theorem gLRZ {a b n c d:Nat} (h:d+a+c≤n) (k:d+b+c≤n):d+max a b+c≤n:=(Nat.le_total a b).elim (fun t=>Nat.le_trans (Nat.add_le_add_right (Nat.add_le_add_left (Nat.max_le.mpr ⟨t,Nat.le_refl b⟩) d) c) k) (fun t=>Nat.le_trans (Nat.add_le_add_right (Nat.add_le_add_left (Nat.max_le.mpr ⟨Nat.le_refl a,t⟩) d) c) h)
theorem gRRZ {a b n c d:Nat} (h:c+(d+a)≤n) (k:c+(d+b)≤n):c+(d+max a b)≤n:=(Nat.le_total a b).elim (fun t=>Nat.le_trans (Nat.add_le_add_left (Nat.add_le_add_left (Nat.max_le.mpr ⟨t,Nat.le_refl b⟩) d) c) k) (fun t=>Nat.le_trans (Nat.add_le_add_left (Nat.add_le_add_left (Nat.max_le.mpr ⟨Nat.le_refl a,t⟩) d) c) h)
theorem gRZ {a b n c:Nat} (h:c+a≤n) (k:c+b≤n):c+max a b≤n:=(Nat.le_total a b).elim (fun t=>Nat.le_trans (Nat.add_le_add_left (Nat.max_le.mpr ⟨t,Nat.le_refl b⟩) c) k) (fun t=>Nat.le_trans (Nat.add_le_add_left (Nat.max_le.mpr ⟨Nat.le_refl a,t⟩) c) h)
theorem gZ {a b n:Nat} (h:a≤n) (k:b≤n):max a b≤n:=(Nat.le_total a b).elim (fun t=>Nat.le_trans (Nat.max_le.mpr ⟨t,Nat.le_refl b⟩) k) (fun t=>Nat.le_trans (Nat.max_le.mpr ⟨Nat.le_refl a,t⟩) h)
theorem rRlZ {a b n c:Nat} (h:n≤c+a):n≤c+max a b:=Nat.le_trans h (Nat.add_le_add_left (Nat.le_max_left a b) c)
theorem rRrZ {a b n c:Nat} (h:n≤c+b):n≤c+max a b:=Nat.le_trans h (Nat.add_le_add_left (Nat.le_max_right a b) c)
theorem rlZ {a b n:Nat} (h:n≤a):n≤max a b:=Nat.le_trans h (Nat.le_max_left a b)
theorem rrZ {a b n:Nat} (h:n≤b):n≤max a b:=Nat.le_trans h (Nat.le_max_right a b)
theorem dD {a b n c d e:Nat} (h:d*(e+max a b)+c≤n):d*(e+a)+c≤n:=Nat.le_trans (Nat.add_le_add_right (Nat.mul_le_mul_left d (Nat.add_le_add_left (Nat.le_max_left a b) e)) c) h
theorem de {a b n c d e:Nat} (h:d*(e+max a b)+c≤n):d*(e+b)+c≤n:=Nat.le_trans (Nat.add_le_add_right (Nat.mul_le_mul_left d (Nat.add_le_add_left (Nat.le_max_right a b) e)) c) h
theorem xLMlZ {a b n c d:Nat} (h:d*max a b+c≤n):d*a+c≤n:=Nat.le_trans (Nat.add_le_add_right (Nat.mul_le_mul_left d (Nat.le_max_left a b)) c) h
theorem xLMrZ {a b n c d:Nat} (h:d*max a b+c≤n):d*b+c≤n:=Nat.le_trans (Nat.add_le_add_right (Nat.mul_le_mul_left d (Nat.le_max_right a b)) c) h
theorem bM {a b n c d:Nat} (h:d+max a b+c≤n):d+a+c≤n:=Nat.le_trans (Nat.add_le_add_right (Nat.add_le_add_left (Nat.le_max_left a b) d) c) h
theorem bZ {a b n c d:Nat} (h:d+max a b+c≤n):d+b+c≤n:=Nat.le_trans (Nat.add_le_add_right (Nat.add_le_add_left (Nat.le_max_right a b) d) c) h
theorem xLlZ {a b n c:Nat} (h:max a b+c≤n):a+c≤n:=Nat.le_trans (Nat.add_le_add_right (Nat.le_max_left a b) c) h
theorem xLrZ {a b n c:Nat} (h:max a b+c≤n):b+c≤n:=Nat.le_trans (Nat.add_le_add_right (Nat.le_max_right a b) c) h
theorem xRRlZ {a b n c d:Nat} (h:c+(d+max a b)≤n):c+(d+a)≤n:=Nat.le_trans (Nat.add_le_add_left (Nat.add_le_add_left (Nat.le_max_left a b) d) c) h
theorem xRRrZ {a b n c d:Nat} (h:c+(d+max a b)≤n):c+(d+b)≤n:=Nat.le_trans (Nat.add_le_add_left (Nat.add_le_add_left (Nat.le_max_right a b) d) c) h
theorem xRlZ {a b n c:Nat} (h:c+max a b≤n):c+a≤n:=Nat.le_trans (Nat.add_le_add_left (Nat.le_max_left a b) c) h
theorem xRrZ {a b n c:Nat} (h:c+max a b≤n):c+b≤n:=Nat.le_trans (Nat.add_le_add_left (Nat.le_max_right a b) c) h
end
section
theorem aY {p0 p1:Prop} {P:Prop} (h:p0∧p1) (k:p0→p1→P):P:=k h.1 h.2
theorem dJ {p0 p1 p2:Prop} {P:Prop} (h:p0∧p1∧p2) (k:p0→p1→p2→P):P:=k h.1 h.2.1 h.2.2
theorem E0A4 {p0 p1 p2 p3:Prop} {P:Prop} (h:p0∧p1∧p2∧p3) (k:p0→p1→p2→p3→P):P:=k h.1 h.2.1 h.2.2.1 h.2.2.2
theorem E0A5 {p0 p1 p2 p3 p4:Prop} {P:Prop} (h:p0∧p1∧p2∧p3∧p4) (k:p0→p1→p2→p3→p4→P):P:=k h.1 h.2.1 h.2.2.1 h.2.2.2.1 h.2.2.2.2
theorem E0A7 {p0 p1 p2 p3 p4 p5 p6:Prop} {P:Prop} (h:p0∧p1∧p2∧p3∧p4∧p5∧p6) (k:p0→p1→p2→p3→p4→p5→p6→P):P:=k h.1 h.2.1 h.2.2.1 h.2.2.2.1 h.2.2.2.2.1 h.2.2.2.2.2.1 h.2.2.2.2.2.2
theorem aN {α:Type} {p0:α→Prop} {P:Prop} (h:∃ a,p0 a) (k:∀ a,p0 a→P):P:=h.elim fun a h=>k a h
theorem aq {α:Type} {p0 p1:α→Prop} {P:Prop} (h:∃ a,p0 a∧p1 a) (k:∀ a,p0 a→p1 a→P):P:=h.elim fun a h=>k a h.1 h.2
theorem ay {α:Type} {p0 p1 p2:α→Prop} {P:Prop} (h:∃ a,p0 a∧p1 a∧p2 a) (k:∀ a,p0 a→p1 a→p2 a→P):P:=h.elim fun a h=>k a h.1 h.2.1 h.2.2
theorem E1A4 {α:Type} {p0 p1 p2 p3:α→Prop} {P:Prop} (h:∃ a,p0 a∧p1 a∧p2 a∧p3 a) (k:∀ a,p0 a→p1 a→p2 a→p3 a→P):P:=h.elim fun a h=>k a h.1 h.2.1 h.2.2.1 h.2.2.2
theorem E2A1 {α β:Type} {p0:α→β→Prop} {P:Prop} (h:∃ a,∃ b,p0 a b) (k:∀ a b,p0 a b→P):P:=h.elim fun a h=>h.elim fun b h=>k a b h
theorem dP {α β:Type} {p0 p1:α→β→Prop} {P:Prop} (h:∃ a,∃ b,p0 a b∧p1 a b) (k:∀ a b,p0 a b→p1 a b→P):P:=h.elim fun a h=>h.elim fun b h=>k a b h.1 h.2
theorem E2A3 {α β:Type} {p0 p1 p2:α→β→Prop} {P:Prop} (h:∃ a,∃ b,p0 a b∧p1 a b∧p2 a b) (k:∀ a b,p0 a b→p1 a b→p2 a b→P):P:=h.elim fun a h=>h.elim fun b h=>k a b h.1 h.2.1 h.2.2
theorem E2A4 {α β:Type} {p0 p1 p2 p3:α→β→Prop} {P:Prop} (h:∃ a,∃ b,p0 a b∧p1 a b∧p2 a b∧p3 a b) (k:∀ a b,p0 a b→p1 a b→p2 a b→p3 a b→P):P:=h.elim fun a h=>h.elim fun b h=>k a b h.1 h.2.1 h.2.2.1 h.2.2.2
theorem E2A5 {α β:Type} {p0 p1 p2 p3 p4:α→β→Prop} {P:Prop} (h:∃ a,∃ b,p0 a b∧p1 a b∧p2 a b∧p3 a b∧p4 a b) (k:∀ a b,p0 a b→p1 a b→p2 a b→p3 a b→p4 a b→P):P:=h.elim fun a h=>h.elim fun b h=>k a b h.1 h.2.1 h.2.2.1 h.2.2.2.1 h.2.2.2.2
theorem E2A6 {α β:Type} {p0 p1 p2 p3 p4 p5:α→β→Prop} {P:Prop} (h:∃ a,∃ b,p0 a b∧p1 a b∧p2 a b∧p3 a b∧p4 a b∧p5 a b) (k:∀ a b,p0 a b→p1 a b→p2 a b→p3 a b→p4 a b→p5 a b→P):P:=h.elim fun a h=>h.elim fun b h=>k a b h.1 h.2.1 h.2.2.1 h.2.2.2.1 h.2.2.2.2.1 h.2.2.2.2.2
theorem E3A1 {α β γ:Type} {p0:α→β→γ→Prop} {P:Prop} (h:∃ a,∃ b,∃ c,p0 a b c) (k:∀ a b c,p0 a b c→P):P:=h.elim fun a h=>h.elim fun b h=>h.elim fun c h=>k a b c h
theorem E3A2 {α β γ:Type} {p0 p1:α→β→γ→Prop} {P:Prop} (h:∃ a,∃ b,∃ c,p0 a b c∧p1 a b c) (k:∀ a b c,p0 a b c→p1 a b c→P):P:=h.elim fun a h=>h.elim fun b h=>h.elim fun c h=>k a b c h.1 h.2
theorem E3A3 {α β γ:Type} {p0 p1 p2:α→β→γ→Prop} {P:Prop} (h:∃ a,∃ b,∃ c,p0 a b c∧p1 a b c∧p2 a b c) (k:∀ a b c,p0 a b c→p1 a b c→p2 a b c→P):P:=h.elim fun a h=>h.elim fun b h=>h.elim fun c h=>k a b c h.1 h.2.1 h.2.2
theorem E3A4 {α β γ:Type} {p0 p1 p2 p3:α→β→γ→Prop} {P:Prop} (h:∃ a,∃ b,∃ c,p0 a b c∧p1 a b c∧p2 a b c∧p3 a b c) (k:∀ a b c,p0 a b c→p1 a b c→p2 a b c→p3 a b c→P):P:=h.elim fun a h=>h.elim fun b h=>h.elim fun c h=>k a b c h.1 h.2.1 h.2.2.1 h.2.2.2
theorem E3A5 {α β γ:Type} {p0 p1 p2 p3 p4:α→β→γ→Prop} {P:Prop} (h:∃ a,∃ b,∃ c,p0 a b c∧p1 a b c∧p2 a b c∧p3 a b c∧p4 a b c) (k:∀ a b c,p0 a b c→p1 a b c→p2 a b c→p3 a b c→p4 a b c→P):P:=h.elim fun a h=>h.elim fun b h=>h.elim fun c h=>k a b c h.1 h.2.1 h.2.2.1 h.2.2.2.1 h.2.2.2.2
theorem E4A1 {α β γ δ:Type} {p0:α→β→γ→δ→Prop} {P:Prop} (h:∃ a,∃ b,∃ c,∃ d,p0 a b c d) (k:∀ a b c d,p0 a b c d→P):P:=h.elim fun a h=>h.elim fun b h=>h.elim fun c h=>h.elim fun d h=>k a b c d h
theorem E4A4 {α β γ δ:Type} {p0 p1 p2 p3:α→β→γ→δ→Prop} {P:Prop} (h:∃ a,∃ b,∃ c,∃ d,p0 a b c d∧p1 a b c d∧p2 a b c d∧p3 a b c d) (k:∀ a b c d,p0 a b c d→p1 a b c d→p2 a b c d→p3 a b c d→P):P:=h.elim fun a h=>h.elim fun b h=>h.elim fun c h=>h.elim fun d h=>k a b c d h.1 h.2.1 h.2.2.1 h.2.2.2
theorem E5A4 {α β γ δ ε:Type} {p0 p1 p2 p3:α→β→γ→δ→ε→Prop} {P:Prop} (h:∃ a,∃ b,∃ c,∃ d,∃ e,p0 a b c d e∧p1 a b c d e∧p2 a b c d e∧p3 a b c d e) (k:∀ a b c d e,p0 a b c d e→p1 a b c d e→p2 a b c d e→p3 a b c d e→P):P:=h.elim fun a h=>h.elim fun b h=>h.elim fun c h=>h.elim fun d h=>h.elim fun e h=>k a b c d e h.1 h.2.1 h.2.2.1 h.2.2.2
theorem E6A3 {α β γ δ ε ζ:Type} {p0 p1 p2:α→β→γ→δ→ε→ζ→Prop} {P:Prop} (h:∃ a,∃ b,∃ c,∃ d,∃ e,∃ f,p0 a b c d e f∧p1 a b c d e f∧p2 a b c d e f) (k:∀ a b c d e f,p0 a b c d e f→p1 a b c d e f→p2 a b c d e f→P):P:=h.elim fun a h=>h.elim fun b h=>h.elim fun c h=>h.elim fun d h=>h.elim fun e h=>h.elim fun f h=>k a b c d e f h.1 h.2.1 h.2.2
theorem E6A5 {α β γ δ ε ζ:Type} {p0 p1 p2 p3 p4:α→β→γ→δ→ε→ζ→Prop} {P:Prop} (h:∃ a,∃ b,∃ c,∃ d,∃ e,∃ f,p0 a b c d e f∧p1 a b c d e f∧p2 a b c d e f∧p3 a b c d e f∧p4 a b c d e f) (k:∀ a b c d e f,p0 a b c d e f→p1 a b c d e f→p2 a b c d e f→p3 a b c d e f→p4 a b c d e f→P):P:=h.elim fun a h=>h.elim fun b h=>h.elim fun c h=>h.elim fun d h=>h.elim fun e h=>h.elim fun f h=>k a b c d e f h.1 h.2.1 h.2.2.1 h.2.2.2.1 h.2.2.2.2
@[elab_as_elim] theorem ag {α:Sort _} {a b:α} {motive:α→Prop} (h:a=b) (k:motive b):motive a:=h▸k
@[elab_as_elim] theorem cw {α:Sort _} {a b:α} {motive:α→Prop} (h:b=a) (k:motive b):motive a:=h▸k
theorem aI {α:Type} {p0 p1:α→Prop} (a:α) (h0:p0 a) (h1:p1 a):∃ a,p0 a∧p1 a:=⟨a,h0,h1⟩
theorem aT {α:Type} {p0 p1 p2:α→Prop} (a:α) (h0:p0 a) (h1:p1 a) (h2:p2 a):∃ a,p0 a∧p1 a∧p2 a:=⟨a,h0,h1,h2⟩
theorem I1A4 {α:Type} {p0 p1 p2 p3:α→Prop} (a:α) (h0:p0 a) (h1:p1 a) (h2:p2 a) (h3:p3 a):∃ a,p0 a∧p1 a∧p2 a∧p3 a:=⟨a,h0,h1,h2,h3⟩
theorem I2A2 {α β:Type} {p0 p1:α→β→Prop} (a:α) (b:β) (h0:p0 a b) (h1:p1 a b):∃ a,∃ b,p0 a b∧p1 a b:=⟨a,b,h0,h1⟩
theorem I2A3 {α β:Type} {p0 p1 p2:α→β→Prop} (a:α) (b:β) (h0:p0 a b) (h1:p1 a b) (h2:p2 a b):∃ a,∃ b,p0 a b∧p1 a b∧p2 a b:=⟨a,b,h0,h1,h2⟩
theorem I2A4 {α β:Type} {p0 p1 p2 p3:α→β→Prop} (a:α) (b:β) (h0:p0 a b) (h1:p1 a b) (h2:p2 a b) (h3:p3 a b):∃ a,∃ b,p0 a b∧p1 a b∧p2 a b∧p3 a b:=⟨a,b,h0,h1,h2,h3⟩
theorem I2A5 {α β:Type} {p0 p1 p2 p3 p4:α→β→Prop} (a:α) (b:β) (h0:p0 a b) (h1:p1 a b) (h2:p2 a b) (h3:p3 a b) (h4:p4 a b):∃ a,∃ b,p0 a b∧p1 a b∧p2 a b∧p3 a b∧p4 a b:=⟨a,b,h0,h1,h2,h3,h4⟩
theorem I2A6 {α β:Type} {p0 p1 p2 p3 p4 p5:α→β→Prop} (a:α) (b:β) (h0:p0 a b) (h1:p1 a b) (h2:p2 a b) (h3:p3 a b) (h4:p4 a b) (h5:p5 a b):∃ a,∃ b,p0 a b∧p1 a b∧p2 a b∧p3 a b∧p4 a b∧p5 a b:=⟨a,b,h0,h1,h2,h3,h4,h5⟩
theorem I3A2 {α β γ:Type} {p0 p1:α→β→γ→Prop} (a:α) (b:β) (c:γ) (h0:p0 a b c) (h1:p1 a b c):∃ a,∃ b,∃ c,p0 a b c∧p1 a b c:=⟨a,b,c,h0,h1⟩
theorem I3A3 {α β γ:Type} {p0 p1 p2:α→β→γ→Prop} (a:α) (b:β) (c:γ) (h0:p0 a b c) (h1:p1 a b c) (h2:p2 a b c):∃ a,∃ b,∃ c,p0 a b c∧p1 a b c∧p2 a b c:=⟨a,b,c,h0,h1,h2⟩
theorem I3A4 {α β γ:Type} {p0 p1 p2 p3:α→β→γ→Prop} (a:α) (b:β) (c:γ) (h0:p0 a b c) (h1:p1 a b c) (h2:p2 a b c) (h3:p3 a b c):∃ a,∃ b,∃ c,p0 a b c∧p1 a b c∧p2 a b c∧p3 a b c:=⟨a,b,c,h0,h1,h2,h3⟩
theorem I3A5 {α β γ:Type} {p0 p1 p2 p3 p4:α→β→γ→Prop} (a:α) (b:β) (c:γ) (h0:p0 a b c) (h1:p1 a b c) (h2:p2 a b c) (h3:p3 a b c) (h4:p4 a b c):∃ a,∃ b,∃ c,p0 a b c∧p1 a b c∧p2 a b c∧p3 a b c∧p4 a b c:=⟨a,b,c,h0,h1,h2,h3,h4⟩
theorem nilS {α:Type} {Y:List α}:∀ a,a∈([]:List α)→a∈Y:=fun _ h=>nomatch h
theorem nilM {α:Type} {a:α}:a∉([]:List α):=fun h=>nomatch h
@[elab_as_elim] theorem bx {α β:Type} {a c:α} {b d:β} (e:some (a,b)=some (c,d)) {G:α→β→Prop} (k:G a b):G c d:=by cases e;exact k
@[elab_as_elim] theorem someT {α β γ:Type} {a a':α} {b b':β} {c c':γ} (e:some (a,b,c)=some (a',b',c')) {G:α→β→γ→Prop} (k:G a b c):G a' b' c':=by cases e;exact k
@[elab_as_elim] theorem someO {α:Type} {a c:α} (e:some a=some c) {G:α→Prop} (k:G a):G c:=by cases e;exact k
theorem iteP {α:Type} {c:Prop} [Decidable c] {x y:α} {P:α→Prop} (h:c→P x) (k:¬c→P y):P (if c then x else y):=by split <;> rename_i q;exact h q;exact k q
end
section
open PySem
inductive V where
  | ai | none | bool (b:Bool) | int (i:Int) | str (s:Nat)
  | tup (l:List V) | lst (l:List V) | obj (n:Nat) | fn (k:Nat) | rng (n:Int)
inductive AO where
  | lst (l:List V) | cN (l:List (Int×V)) | inst (c:Nat) (fs:List (Nat×V))
noncomputable abbrev St:=List AO
inductive Op where | add | sub | mul | fdiv | mod | shl | shr | and | or | xor
  deriving DecidableEq
inductive Cm where | eq | ne | lt | le | gt | ge | is | isn | isin
  deriving DecidableEq
inductive Bl where | max2 | min2 | maxL | abs | int | len | range | list | sorted
  deriving DecidableEq
inductive XE where
  | none | bool (b:Bool) | int (i:Int) | str (s:Nat)
  | loc (i:Nat) | gl (i:Nat)
  | and (l:List XE) | or (l:List XE)
  | bin (o:Op) (a b:XE) | neg (a:XE) | not (a:XE)
  | ite (t a b:XE)
  | tup (l:List XE) | lst (m:Bool) (l:List XE) | dict0
  | comp (m:Bool) (elt iter:XE) (cond:Option XE)
  | cmp (o:Cm) (a b:XE) | cmp2 (a:XE) (o:Cm) (b:XE) (o':Cm) (c:XE)
  | call (k:Nat) (l:List XE) | new (c:Nat) (l:List XE) | blt (b:Bl) (l:List XE)
  | aV (o:XE) (a:Nat) (l:List XE)
  | attr (o:XE) (a:Nat)
  | idx (o i:XE)
  | sliceTo (m:Bool) (o:XE) (k:Nat) | sliceFrom (m:Bool) (o:XE) (k:Nat)
inductive XT where
  | loc (i:Nat) | tup (l:List Nat) | attr (o:XE) (a:Nat) | idx (o i:XE)
inductive XS where
  | expr (e:XE) | pass | cont | ret (e:XE) | ret0
  | asg (t:XT) (e:XE) | aug (t:XT) (o:Op) (e:XE)
  | ite (t:XE) (a b:List XS) | while (t:XE) (b:List XS) | for (t:XT) (it:XE) (b:List XS)
  | raise | tryf (b f:List XS)
structure bV where
  np:Nat
  bG:Nat
  body:List XS
  free:List V:=[]
structure Tab where
  fn:Nat→Option bV
  aV:Nat→Nat→Option Nat
  init:Nat→Option Nat
  gl:Nat→V
  fld:Nat→Nat→Bool
  dyn:Nat→Nat→Bool
inductive Fl where | aL | cnt | ret (v:V)
noncomputable def small (a:Int):Bool:=decide (a.natAbs < 18446744073709551616)
noncomputable def idxOk (a:Int):Bool:=decide (a.natAbs < 1000000)
@[elab_as_elim] theorem f2 {P:Fin 2→Prop} (k:Fin 2) (h0:P 0) (h1:P 1):P k:=(fun i=>Fin.cases (motive:=P) h0 (fun i=>Fin.cases (motive:=fun i=>P i.succ) h1 (fun i=>Fin.elim0 i) i) i) k
@[elab_as_elim] theorem f3 {P:Fin 3→Prop} (k:Fin 3) (h0:P 0) (h1:P 1) (h2:P 2):P k:=(fun i=>Fin.cases (motive:=P) h0 (fun i=>Fin.cases (motive:=fun i=>P i.succ) h1 (fun i=>Fin.cases (motive:=fun i=>P i.succ.succ) h2 (fun i=>Fin.elim0 i) i) i) i) k
@[elab_as_elim] theorem f4 {P:Fin 4→Prop} (k:Fin 4) (h0:P 0) (h1:P 1) (h2:P 2) (h3:P 3):P k:=(fun i=>Fin.cases (motive:=P) h0 (fun i=>Fin.cases (motive:=fun i=>P i.succ) h1 (fun i=>Fin.cases (motive:=fun i=>P i.succ.succ) h2 (fun i=>Fin.cases (motive:=fun i=>P i.succ.succ.succ) h3 (fun i=>Fin.elim0 i) i) i) i) i) k
@[elab_as_elim] theorem f5 {P:Fin 5→Prop} (k:Fin 5) (h0:P 0) (h1:P 1) (h2:P 2) (h3:P 3) (h4:P 4):P k:=(fun i=>Fin.cases (motive:=P) h0 (fun i=>Fin.cases (motive:=fun i=>P i.succ) h1 (fun i=>Fin.cases (motive:=fun i=>P i.succ.succ) h2 (fun i=>Fin.cases (motive:=fun i=>P i.succ.succ.succ) h3 (fun i=>Fin.cases (motive:=fun i=>P i.succ.succ.succ.succ) h4 (fun i=>Fin.elim0 i) i) i) i) i) i) k
@[elab_as_elim] theorem F8 {P:Fin 8→Prop} (k:Fin 8) (h0:P 0) (h1:P 1) (h2:P 2) (h3:P 3) (h4:P 4) (h5:P 5) (h6:P 6) (h7:P 7):P k:=(fun i=>Fin.cases (motive:=P) h0 (fun i=>Fin.cases (motive:=fun i=>P i.succ) h1 (fun i=>Fin.cases (motive:=fun i=>P i.succ.succ) h2 (fun i=>Fin.cases (motive:=fun i=>P i.succ.succ.succ) h3 (fun i=>Fin.cases (motive:=fun i=>P i.succ.succ.succ.succ) h4 (fun i=>Fin.cases (motive:=fun i=>P i.succ.succ.succ.succ.succ) h5 (fun i=>Fin.cases (motive:=fun i=>P i.succ.succ.succ.succ.succ.succ) h6 (fun i=>Fin.cases (motive:=fun i=>P i.succ.succ.succ.succ.succ.succ.succ) h7 (fun i=>Fin.elim0 i) i) i) i) i) i) i) i) i) k
@[elab_as_elim] theorem n3 {P:Nat→Prop} {i:Nat} (hi:i < 3) (h0:P 0) (h1:P 1) (h2:P 2):P i:=f3 (P:=fun k=>P k.val) ⟨i,hi⟩ h0 h1 h2
noncomputable def onI {β:Type} (v:V) (f:Int→Option β):Option β:=match v with
  | .int i=>f i
  | _=>.none
noncomputable def onL {β:Type} (v:V) (f:List V→Option β):Option β:=match v with
  | .lst l=>f l
  | _=>.none
noncomputable def onT {β:Type} (v:V) (f:List V→Option β):Option β:=match v with
  | .tup l=>f l
  | _=>.none
noncomputable def onO {β:Type} (v:V) (f:Nat→Option β):Option β:=match v with
  | .obj l=>f l
  | _=>.none
noncomputable def onSv {β:Type} (v:V) (f:Nat→Option β):Option β:=match v with
  | .str l=>f l
  | _=>.none
noncomputable def onN {β:Type} (v:V) (f:Option β):Option β:=match v with
  | .none=>f
  | _=>.none
theorem onI_ok {β:Type} {v:V} {f:Int→Option β} {w} (h:onI v f=some w):∃ i,v=.int i∧f i=some w:=by cases v <;> first | exact ⟨_,rfl,h⟩ | cases h
theorem onL_ok {β:Type} {v:V} {f:List V→Option β} {w} (h:onL v f=some w):∃ i,v=.lst i∧f i=some w:=by cases v <;> first | exact ⟨_,rfl,h⟩ | cases h
theorem onT_ok {β:Type} {v:V} {f:List V→Option β} {w} (h:onT v f=some w):∃ i,v=.tup i∧f i=some w:=by cases v <;> first | exact ⟨_,rfl,h⟩ | cases h
theorem onO_ok {β:Type} {v:V} {f:Nat→Option β} {w} (h:onO v f=some w):∃ i,v=.obj i∧f i=some w:=by cases v <;> first | exact ⟨_,rfl,h⟩ | cases h
theorem onSv_ok {β:Type} {v:V} {f:Nat→Option β} {w} (h:onSv v f=some w):∃ i,v=.str i∧f i=some w:=by cases v <;> first | exact ⟨_,rfl,h⟩ | cases h
theorem onN_ok {β:Type} {v:V} {f:Option β} {w} (h:onN v f=some w):v=.none∧f=some w:=by cases v <;> first | exact ⟨rfl,h⟩ | cases h
noncomputable def v1 {β:Type} (l:List V) (f:V→Option β):Option β:=match l with
  | []=>.none
  | x :: t=>if t.isEmpty then f x else .none
noncomputable def v2 {β:Type} (l:List V) (f:V→V→Option β):Option β:=match l with
  | []=>.none
  | x :: t=>v1 t (f x)
theorem ck {β:Type} {b:Prop} [Decidable b] {x:Option β} {w} (h:(if b then x else .none)=some w):b∧x=some w:=by
  by_cases q:b
  · rw [if_pos q] at h;exact ⟨q,h⟩
  · rw [if_neg q] at h;cases h
theorem ite_el {β:Type} {b:Prop} [Decidable b] {x:Option β} {w} {P:Prop} (h:(if b then x else .none)=some w) (k:b→x=some w→P):P:=k (ck h).1 (ck h).2
theorem v1_ok {β:Type} {l:List V} {f:V→Option β} {w} (h:v1 l f=some w):∃ x,l=[x]∧f x=some w:=by
  cases l with
  | nil=>cases h
  | cons x t=>obtain ⟨h1,h⟩:=ck h;exact ⟨x,by rw [List.isEmpty_iff.mp h1],h⟩
theorem v2_ok {β:Type} {l:List V} {f:V→V→Option β} {w} (h:v2 l f=some w):∃ x y,l=[x,y]∧f x y=some w:=by
  cases l with
  | nil=>cases h
  | cons x t=>obtain ⟨y,e,h⟩:=v1_ok h;exact ⟨x,y,by rw [e],h⟩
noncomputable def intOp (o:Op) (a b:Int):Option V:=match o with
  | .add=>some (.int (a+b))
  | .sub=>some (.int (a - b))
  | .mul=>if small a || small b then some (.int (a*b)) else .none
  | .fdiv=>if small b && b !=0 then some (.int (a.fdiv b)) else .none
  | .mod=>if small b && b !=0 then some (.int (a.fmod b)) else .none
  | .shl=>if small a && decide (0≤b) && decide (b≤1000000) then some (.int (a*2 ^ b.toNat)) else .none
  | .shr=>if decide (0≤b) then some (.int (a.fdiv (2 ^ b.toNat))) else .none
  | .and=>some (.int (Builtin.bitAnd a b))
  | .or=>some (.int (Builtin.bitOr a b))
  | .xor=>some (.int (Builtin.bitXor a b))
noncomputable def isAdd (o:Op):Bool:=match o with
  | .add=>true
  | _=>false
noncomputable def catV (a b:List V):Option V:=if a.length+b.length < 1000 then some (.lst (a++b)) else .none
noncomputable def binV (o:Op) (x y:V):Option V:=match x with
  | .int a=>onI y (intOp o a)
  | .lst a=>if isAdd o then onL y (catV a) else .none
  | _=>.none
theorem binV_ok {o:Op} {x y v:V} (h:binV o x y=some v):(∃ a b,x=.int a∧y=.int b∧intOp o a b=some v)∨(o=.add∧∃ a b,x=.lst a∧y=.lst b∧catV a b=some v):=by
  cases x <;> first | (cases h;done) | skip
  · replace h:=onI_ok h;obtain ⟨b,rfl,h⟩:=h;exact .inl ⟨_,b,rfl,rfl,h⟩
  · replace h:=ck h;obtain ⟨h1,h⟩:=h;replace h:=onL_ok h;obtain ⟨b,rfl,h⟩:=h
    cases o <;> first | (cases h1;done) | exact .inr ⟨rfl,_,b,rfl,rfl,h⟩
noncomputable def augI (o:Op) (a b:Int):Option V:=match o with
  | .add=>some (.int (a+b))
  | .sub=>some (.int (a - b))
  | _=>.none
noncomputable def augV (o:Op) (x y:V):Option V:=onI x fun a=>onI y (augI o a)
noncomputable def plain:Nat→V→Bool
  | _,.none=>true
  | _,.int _=>true
  | n+1,.tup l=>l.all (plain n)
  | n+1,.lst l=>l.all (plain n)
  | _,_=>false
noncomputable def eqL (f:V→V→Bool):List V→List V→Bool
  | [],[]=>true
  | a :: l,b :: m=>f a b && eqL f l m
  | _,_=>false
noncomputable def eqB:Nat→V→V→Bool
  | _,.none,.none=>true
  | _,.int a,.int b=>a ==b
  | n+1,.tup l,.tup m=>eqL (eqB n) l m
  | n+1,.lst l,.lst m=>eqL (eqB n) l m
  | _,_,_=>false
noncomputable def strEq (x y:Nat):Option Bool:=if decide (x < 60) && decide (y < 60) then some (x ==y) else .none
noncomputable def datEq (a b:V):Option Bool:=if plain 4 a && plain 4 b then some (eqB 4 a b) else .none
noncomputable def eqV (a b:V):Option Bool:=
  match a with
  | .str x=>onSv b (strEq x)
  | .int x=>onI b fun y=>some (x ==y)
  | .tup l=>onT b fun m=>datEq (.tup l) (.tup m)
  | .lst l=>onL b fun m=>datEq (.lst l) (.lst m)
  | _=>.none
noncomputable def isNoneV:V→Option Bool
  | .ai=>.none
  | .none=>some true
  | _=>some false
noncomputable def scal (x y:V):Option Bool:=
  match x with
  | .int a=>onI y fun b=>some (a ==b)
  | .str x=>onSv y (strEq x)
  | _=>.none
noncomputable def inL (x:V):List V→Option Bool
  | []=>some false
  | y :: l=>(scal y x).bind fun a=>(inL x l).map fun b=>a || b
noncomputable def bF (σ:St):V→V
  | .obj n=>match σ[n]? with
    | some (.lst l)=>.lst l
    | _=>.obj n
  | v=>v
noncomputable def inV (a b:V):Option Bool:=match b with
  | .tup l=>inL a l
  | .lst l=>inL a l
  | _=>.none
noncomputable def ordI (a b:V) (f:Int→Int→Bool):Option Bool:=onI a fun x=>onI b fun y=>some (f x y)
noncomputable def cmpV (σ:St) (o:Cm) (a b:V):Option Bool:=match o with
  | .eq=>eqV (bF σ a) (bF σ b)
  | .ne=>(eqV (bF σ a) (bF σ b)).map (!·)
  | .lt=>onI a fun x=>onI b fun y=>some (decide (x < y))
  | .le=>onI a fun x=>onI b fun y=>some (decide (x≤y))
  | .gt=>onI a fun x=>onI b fun y=>some (decide (y < x))
  | .ge=>onI a fun x=>onI b fun y=>some (decide (y≤x))
  | .is=>onN b (isNoneV a)
  | .isn=>onN b ((isNoneV a).map (!·))
  | .isin=>inV a b
noncomputable def truth:V→Option Bool
  | .none=>some false
  | .bool b=>some b
  | .int i=>some (i !=0)
  | _=>.none
noncomputable def bk (σ:St):V→Option (List V)
  | .tup l=>some l
  | .lst l=>some l
  | .obj n=>match σ[n]? with
    | some (.lst l)=>some l
    | _=>.none
  | _=>.none
noncomputable def idxL (l:List V) (i:Int):Option V:=
  if 0≤i then l[i.toNat]? else if -(l.length:Int)≤i then l[(l.length+i).toNat]? else .none
noncomputable def intsOf:List V→Option (List Int)
  | []=>some []
  | .int i :: l=>(intsOf l).map (i :: ·)
  | _ :: _=>.none
noncomputable def maxI:List Int→Option Int
  | []=>.none
  | a :: l=>some (l.foldl max a)
noncomputable def insertI (a:Int):List Int→List Int
  | []=>[a]
  | b :: l=>if a≤b then a :: b :: l else b :: insertI a l
noncomputable def sortI:List Int→List Int
  | []=>[]
  | a :: l=>insertI a (sortI l)
noncomputable def newL (m:Bool) (l:List V) (σ:St):Option (V×St):=
  if l.length < 1000 then (if m then some (.obj σ.length,σ++[.lst l]) else some (.lst l,σ)) else .none
noncomputable def maxB (l:List V) (σ:St):Option (V×St):=(intsOf l).bind fun ns=>(maxI ns).map fun n=>(.int n,σ)
noncomputable def lenB (l:List V) (σ:St):Option (V×St):=if l.length < 1000 then some (.int l.length,σ) else .none
noncomputable def sortB (o:Option AO) (σ:St):Option (V×St):=match o with
  | some (.cN l)=>if l.length < 60 then some (.lst ((sortI (l.map (·.1))).map .int),σ) else .none
  | _=>.none
noncomputable def bltV (b:Bl) (vs:List V) (σ:St):Option (V×St):=
  match b with
  | .max2=>v2 vs fun x y=>onI x fun a=>onI y fun b=>some (.int (max a b),σ)
  | .min2=>v2 vs fun x y=>onI x fun a=>onI y fun b=>some (.int (min a b),σ)
  | .maxL=>v1 vs fun x=>match x with
    | .tup l=>maxB l σ
    | .lst l=>maxB l σ
    | _=>.none
  | .abs=>v1 vs fun x=>onI x fun a=>some (.int (if a < 0 then -a else a),σ)
  | .int=>v1 vs fun x=>match x with
    | .int a=>some (.int a,σ)
    | .bool b=>some (.int (if b then 1 else 0),σ)
    | _=>.none
  | .len=>v1 vs fun x=>(bk σ x).bind fun l=>lenB l σ
  | .range=>v1 vs fun x=>onI x fun n=>if idxOk n then some (.rng n,σ) else .none
  | .list=>v1 vs fun x=>onL x fun l=>if l.length < 1000 then some (.lst l,σ) else .none
  | .sorted=>v1 vs fun x=>onO x fun n=>sortB σ[n]? σ
noncomputable def putF (a:Nat) (v:V):List (Nat×V)→List (Nat×V)
  | []=>[(a,v)]
  | (b,w) :: l=>if b=a then (b,v) :: l else (b,w) :: putF a v l
noncomputable def cn (a:Nat):List (Nat×V)→Option V
  | []=>.none
  | (b,w) :: l=>if b=a then some w else cn a l
noncomputable def putD (a:Int) (v:V):List (Int×V)→List (Int×V)
  | []=>[(a,v)]
  | (b,w) :: l=>if b=a then (b,v) :: l else (b,w) :: putD a v l
noncomputable def getD (a:Int):List (Int×V)→Option V
  | []=>.none
  | (b,w) :: l=>if b=a then some w else getD a l
noncomputable def getA (T:Tab) (σ:St) (o:V) (a:Nat):Option V:=
  match o with
  | .obj n=>match σ[n]? with
    | some (.inst c fs)=>if T.fld c a then cn a fs else .none
    | _=>.none
  | _=>.none
noncomputable def setA (T:Tab) (σ:St) (o:V) (a:Nat) (v:V):Option St:=
  match o with
  | .obj n=>match σ[n]? with
    | some (.inst c fs)=>if T.fld c a && decide (fs.length < 100) then some (σ.set n (.inst c (putF a v fs))) else .none
    | _=>.none
  | _=>.none
noncomputable def getI (σ:St) (o i:V):Option V:=
  match bk σ o,i with
  | some l,.int k=>if idxOk k then idxL l k else .none
  | _,_=>.none
noncomputable def setI (σ:St) (o i v:V):Option St:=
  match o,i with
  | .obj n,.int k=>match σ[n]? with
    | some (.lst l)=>if 0≤k && decide (k < l.length) && decide (l.length < 1000) then some (σ.set n (.lst (l.set k.toNat v))) else .none
    | some (.cN l)=>if l.length < 60 then some (σ.set n (.cN (putD k v l))) else .none
    | _=>.none
  | _,_=>.none
inductive Callee where | own (k:Nat) (self:List V) | lst (n:Nat) | cN (n:Nat)
noncomputable def dB (T:Tab) (σ:St) (o:V) (a:Nat):Option Callee:=
  match o with
  | .obj n=>match σ[n]? with
    | some (.inst c fs)=>match cn a fs with
      | some (.fn k)=>if T.dyn c a then some (.own k []) else .none
      | some _=>.none
      | .none=>(T.aV c a).map fun k=>.own k [.obj n]
    | some (.lst _)=>some (.lst n)
    | some (.cN _)=>some (.cN n)
    | .none=>.none
  | _=>.none
noncomputable def lstMeth (n a:Nat) (vs:List V) (σ:St):Option (V×St):=
  match σ[n]? with
  | some (.lst l)=>match a,vs with
    | 0,[x]=>if l.length < 1000 then some (.none,σ.set n (.lst (l++[x]))) else .none
    | 1,[.int i]=>if 0≤i && decide (i < 1000) && decide (l.length < 1000) then (l[i.toNat]?).map fun v=>(v,σ.set n (.lst (l.eraseIdx i.toNat))) else .none
    | _,_=>.none
  | _=>.none
noncomputable def dctMeth (n a:Nat) (vs:List V) (σ:St):Option (V×St):=
  match σ[n]? with
  | some (.cN l)=>match a,vs with
    | 2,[.int k]=>some ((getD k l).getD .none,σ)
    | _,_=>.none
  | _=>.none
noncomputable def a9 (src:V) (i:Nat) (σ:St):Option (Option V):=
  match src with
  | .tup l=>some l[i]?
  | .lst l=>some l[i]?
  | .rng n=>if idxOk n then some (if (i:Int) < n then some (.int i) else .none) else .none
  | .obj n=>match σ[n]? with
    | some (.lst l)=>some l[i]?
    | _=>.none
  | _=>.none
noncomputable def cP (src:V) (σ:St):Bool:=(a9 src 0 σ).isSome
noncomputable abbrev aw:=Nat→List V→St→Option (V×St)
noncomputable def bU (ρ:List V) (i:Nat):Option V:=
  match ρ[i]? with
  | some .ai=>.none
  | some v=>some v
  | .none=>.none
noncomputable def cK {α β:Type} (r:Option (α×St)) (f:α→St→Option β):Option β:=match r with
  | some (v,σ)=>f v σ
  | .none=>.none
noncomputable def bn3 {β:Type} (r:Option (Fl×List V×St)) (f:Fl→List V→St→Option β):Option β:=match r with
  | some (g,ρ,σ)=>f g ρ σ
  | .none=>.none
noncomputable def bo {α β:Type} (r:Option α) (f:α→Option β):Option β:=match r with
  | some p=>f p
  | .none=>.none
theorem bnd_ok {α β:Type} {r:Option (α×St)} {f:α→St→Option β} {w} (h:cK r f=some w):∃ v σ,r=some (v,σ)∧f v σ=some w:=by
  cases r with
  | none=>cases h
  | some p=>exact ⟨p.1,p.2,rfl,h⟩
theorem bn3_ok {β:Type} {r:Option (Fl×List V×St)} {f:Fl→List V→St→Option β} {w} (h:bn3 r f=some w):∃ g ρ σ,r=some (g,ρ,σ)∧f g ρ σ=some w:=by
  cases r with
  | none=>cases h
  | some p=>exact ⟨p.1,p.2.1,p.2.2,rfl,h⟩
theorem bo_ok {α β:Type} {r:Option α} {f:α→Option β} {w} (h:bo r f=some w):∃ v,r=some v∧f v=some w:=by
  cases r with
  | none=>cases h
  | some p=>exact ⟨p,rfl,h⟩
theorem aF {α β:Type} {r:Option (α×St)} {f:α→St→Option β} {w} {P:Prop} (h:cK r f=some w) (k:∀ v σ,r=some (v,σ)→f v σ=some w→P):P:=by
  cases r with
  | none=>cases h
  | some p=>exact k p.1 p.2 rfl h
theorem bn3_el {β:Type} {r:Option (Fl×List V×St)} {f:Fl→List V→St→Option β} {w} {P:Prop} (h:bn3 r f=some w) (k:∀ g ρ σ,r=some (g,ρ,σ)→f g ρ σ=some w→P):P:=by
  cases r with
  | none=>cases h
  | some p=>exact k p.1 p.2.1 p.2.2 rfl h
theorem bo_el {α β:Type} {r:Option α} {f:α→Option β} {w} {P:Prop} (h:bo r f=some w) (k:∀ v,r=some v→f v=some w→P):P:=by
  cases r with
  | none=>cases h
  | some p=>exact k p rfl h
theorem map_el {α β γ:Type} {r:Option α} {f:α→β×γ} {a b} {P:Prop} (h:r.map f=some (a,b)) (k:∀ v,r=some v→(f v).1=a→(f v).2=b→P):P:=by
  cases r with
  | none=>cases h
  | some p=>have h:=Option.some.inj h;exact k p rfl (congrArg Prod.fst h) (congrArg Prod.snd h)
theorem ak {α β:Type} {r:Option (α×St)} {f:α→St→Option β} {v σ w} (h:r=some (v,σ)) (k:f v σ=w):cK r f=w:=by rw [h];exact k
theorem cS {β:Type} {r:Option (Fl×List V×St)} {f:Fl→List V→St→Option β} {g ρ σ w} (h:r=some (g,ρ,σ)) (k:f g ρ σ=w):bn3 r f=w:=by rw [h];exact k
theorem ba {α β:Type} {r:Option α} {f:α→Option β} {v w} (h:r=some v) (k:f v=w):bo r f=w:=by rw [h];exact k
theorem map_eq {α β:Type} {r:Option α} {f:α→β} {v} (h:r=some v):r.map f=some (f v):=by rw [h];rfl
theorem bA {α:Type} {c:Prop} [Decidable c] {x y:Option α} {w} (h:c) (k:x=w):(if c then x else y)=w:=by rw [if_pos h];exact k
noncomputable def isTup:V→Bool
  | .tup _=>true
  | _=>false
noncomputable def isNB:V→Bool
  | .none=>true
  | .bool _=>true
  | _=>false
noncomputable def isNxt:Fl→Bool
  | .aL=>true
  | _=>false
noncomputable def seqF (fl:Fl) (ρ:List V) (σ:St) (k:Option (Fl×List V×St)):Option (Fl×List V×St):=match fl with
  | .aL=>k
  | .cnt=>some (.cnt,ρ,σ)
  | .ret v=>some (.ret v,ρ,σ)
noncomputable def onF (fl:Fl) (ρ:List V) (σ:St) (k:Option (Fl×List V×St)):Option (Fl×List V×St):=match fl with
  | .aL=>k
  | .cnt=>k
  | .ret v=>some (.ret v,ρ,σ)
noncomputable def callF (C:aw) (f:Callee) (a:Nat) (vs:List V) (σ:St):Option (V×St):=match f with
  | .own k self=>C k (self++vs) σ
  | .lst n=>lstMeth n a vs σ
  | .cN n=>dctMeth n a vs σ
noncomputable def compX (elt:V→St→Option (Option V×St)) (src:V):Nat→Nat→List V→St→Option (List V×St)
  | 0,_,_,_=>.none
  | f+1,i,acc,σ=>bo (a9 src i σ) fun o=>match o with
    | .none=>some (acc,σ)
    | some v=>cK (elt v σ) fun r σ=>match r with
      | some w=>if acc.length < 1000 then compX elt src f (i+1) (acc++[w]) σ else .none
      | .none=>compX elt src f (i+1) acc σ
mutual
noncomputable def ae (T:Tab) (C:aw):XE→List V→St→Option (V×St)
  | .none,_,σ=>some (.none,σ)
  | .bool b,_,σ=>some (.bool b,σ)
  | .int i,_,σ=>some (.int i,σ)
  | .str s,_,σ=>some (.str s,σ)
  | .loc i,ρ,σ=>(bU ρ i).map fun v=>(v,σ)
  | .gl i,_,σ=>some (T.gl i,σ)
  | .and l,ρ,σ=>andX T C l ρ σ
  | .or l,ρ,σ=>orX T C l ρ σ
  | .bin o a b,ρ,σ=>cK (ae T C a ρ σ) fun x σ=>cK (ae T C b ρ σ) fun y σ=>(binV o x y).map fun v=>(v,σ)
  | .neg a,ρ,σ=>cK (ae T C a ρ σ) fun x σ=>onI x fun i=>some (.int (-i),σ)
  | .not a,ρ,σ=>cK (ae T C a ρ σ) fun x σ=>(truth x).map fun b=>(.bool !b,σ)
  | .ite t a b,ρ,σ=>cK (ae T C t ρ σ) fun x σ=>bo (truth x) fun r=>bif r then ae T C a ρ σ else ae T C b ρ σ
  | .tup l,ρ,σ=>cK (bp T C l ρ σ) fun vs σ=>if vs.length < 1000 then some (.tup vs,σ) else .none
  | .lst m l,ρ,σ=>cK (bp T C l ρ σ) fun vs σ=>newL m vs σ
  | .dict0,_,σ=>some (.obj σ.length,σ++[.cN []])
  | .comp m elt iter cond,ρ,σ=>cK (ae T C iter ρ σ) fun src σ=>if cP src σ=true then
      cK (compX (fun v σ=>cK (condX T C cond (ρ++[v]) σ) fun b σ=>bif b then cK (ae T C elt (ρ++[v]) σ) fun w σ=>some (some w,σ) else some (.none,σ)) src 64 0 [] σ) fun l σ=>newL m l σ
      else .none
  | .cmp o a b,ρ,σ=>cK (ae T C a ρ σ) fun x σ=>cK (ae T C b ρ σ) fun y σ=>(cmpV σ o x y).map fun v=>(.bool v,σ)
  | .cmp2 a o b o' c,ρ,σ=>cK (ae T C a ρ σ) fun x σ=>cK (ae T C b ρ σ) fun y σ=>bo (cmpV σ o x y) fun q=>
      bif q then cK (ae T C c ρ σ) fun z σ=>(cmpV σ o' y z).map fun v=>(.bool v,σ) else some (.bool false,σ)
  | .call k l,ρ,σ=>cK (bp T C l ρ σ) fun vs σ=>C k vs σ
  | .new c l,ρ,σ=>cK (bp T C l ρ σ) fun vs σ=>bo (T.init c) fun k=>cK (C k (.obj σ.length :: vs) (σ++[.inst c []])) fun r σ'=>onN r (some (.obj σ.length,σ'))
  | .blt b l,ρ,σ=>cK (bp T C l ρ σ) fun vs σ=>bltV b vs σ
  | .aV o a l,ρ,σ=>cK (ae T C o ρ σ) fun x σ=>bo (dB T σ x a) fun f=>cK (bp T C l ρ σ) fun vs σ=>callF C f a vs σ
  | .attr o a,ρ,σ=>cK (ae T C o ρ σ) fun x σ=>(getA T σ x a).map fun v=>(v,σ)
  | .idx o i,ρ,σ=>cK (ae T C o ρ σ) fun x σ=>cK (ae T C i ρ σ) fun y σ=>(getI σ x y).map fun v=>(v,σ)
  | .sliceTo m o k,ρ,σ=>cK (ae T C o ρ σ) fun x σ=>if isTup x=false then bo (bk σ x) fun l=>if l.length < 1000 then newL m (l.take k) σ else .none else .none
  | .sliceFrom m o k,ρ,σ=>cK (ae T C o ρ σ) fun x σ=>bif isTup x
      then onT x fun l=>if m=false∧1≤k∧k≤l.length∧l.length < 1000 then some (.tup (l.drop k),σ) else .none
      else bo (bk σ x) fun l=>if l.length < 1000 then newL m (l.drop k) σ else .none
noncomputable def bp (T:Tab) (C:aw):List XE→List V→St→Option (List V×St)
  | [],_,σ=>some ([],σ)
  | e :: l,ρ,σ=>cK (ae T C e ρ σ) fun v σ=>cK (bp T C l ρ σ) fun vs σ=>some (v :: vs,σ)
noncomputable def andX (T:Tab) (C:aw):List XE→List V→St→Option (V×St)
  | [],_,_=>.none
  | e :: l,ρ,σ=>cK (ae T C e ρ σ) fun v σ=>match l with
    | []=>some (v,σ)
    | _ :: _=>bo (truth v) fun r=>bif r then andX T C l ρ σ else some (v,σ)
noncomputable def orX (T:Tab) (C:aw):List XE→List V→St→Option (V×St)
  | [],_,_=>.none
  | e :: l,ρ,σ=>cK (ae T C e ρ σ) fun v σ=>match l with
    | []=>some (v,σ)
    | _ :: _=>bo (truth v) fun r=>bif r then some (v,σ) else orX T C l ρ σ
noncomputable def condX (T:Tab) (C:aw):Option XE→List V→St→Option (Bool×St)
  | .none,_,σ=>some (true,σ)
  | some e,ρ,σ=>cK (ae T C e ρ σ) fun v σ=>(truth v).map fun b=>(b,σ)
end
noncomputable def eltX (T:Tab) (C:aw) (elt:XE) (cond:Option XE) (ρ:List V) (v:V) (σ:St):Option (Option V×St):=
  cK (condX T C cond (ρ++[v]) σ) fun b σ=>bif b then cK (ae T C elt (ρ++[v]) σ) fun w σ=>some (some w,σ) else some (.none,σ)
noncomputable def setSlots (ρ:List V):List Nat→List V→List V
  | i :: is,v :: vs=>setSlots (ρ.set i v) is vs
  | _,_=>ρ
noncomputable def asgX (T:Tab) (C:aw) (t:XT) (v:V) (ρ:List V) (σ:St):Option (List V×St):=
  match t with
  | .loc i=>if i < ρ.length then some (ρ.set i v,σ) else .none
  | .tup is=>onT v fun l=>if l.length=is.length∧is.all (· < ρ.length)=true then some (setSlots ρ is l,σ) else .none
  | .attr o a=>cK (ae T C o ρ σ) fun x σ=>(setA T σ x a v).map fun σ=>(ρ,σ)
  | .idx o i=>cK (ae T C o ρ σ) fun x σ=>cK (ae T C i ρ σ) fun y σ=>(setI σ x y v).map fun σ=>(ρ,σ)
noncomputable def augX (T:Tab) (C:aw) (t:XT) (op:Op) (e:XE) (ρ:List V) (σ:St):Option (List V×St):=
  match t with
  | .loc i=>bo (bU ρ i) fun x=>cK (ae T C e ρ σ) fun y σ=>(augV op x y).map fun v=>(ρ.set i v,σ)
  | .tup _=>.none
  | .attr o a=>cK (ae T C o ρ σ) fun x σ=>bo (getA T σ x a) fun old=>cK (ae T C e ρ σ) fun y σ=>bo (augV op old y) fun v=>(setA T σ x a v).map fun σ=>(ρ,σ)
  | .idx o i=>cK (ae T C o ρ σ) fun x σ=>cK (ae T C i ρ σ) fun k σ=>bo (getI σ x k) fun old=>cK (ae T C e ρ σ) fun y σ=>bo (augV op old y) fun v=>(setI σ x k v).map fun σ=>(ρ,σ)
noncomputable def loopX (turn:V→List V→St→Option (Fl×List V×St)) (src:V):Nat→Nat→List V→St→Option (Fl×List V×St)
  | 0,_,_,_=>.none
  | f+1,i,ρ,σ=>bo (a9 src i σ) fun o=>match o with
    | .none=>some (.aL,ρ,σ)
    | some v=>bn3 (turn v ρ σ) fun fl ρ σ=>onF fl ρ σ (loopX turn src f (i+1) ρ σ)
noncomputable def whileX (test:List V→St→Option (V×St)) (body:List V→St→Option (Fl×List V×St)):Nat→List V→St→Option (Fl×List V×St)
  | 0,_,_=>.none
  | f+1,ρ,σ=>cK (test ρ σ) fun x σ=>bo (truth x) fun r=>bif r then bn3 (body ρ σ) fun fl ρ σ=>onF fl ρ σ (whileX test body f ρ σ) else some (.aL,ρ,σ)
mutual
noncomputable def bP (T:Tab) (C:aw):XS→List V→St→Option (Fl×List V×St)
  | .expr e,ρ,σ=>cK (ae T C e ρ σ) fun v σ=>if isNB v=true then some (.aL,ρ,σ) else .none
  | .pass,ρ,σ=>some (.aL,ρ,σ)
  | .cont,ρ,σ=>some (.cnt,ρ,σ)
  | .ret e,ρ,σ=>cK (ae T C e ρ σ) fun v σ=>some (.ret v,ρ,σ)
  | .ret0,ρ,σ=>some (.ret .none,ρ,σ)
  | .asg t e,ρ,σ=>cK (ae T C e ρ σ) fun v σ=>cK (asgX T C t v ρ σ) fun ρ σ=>some (.aL,ρ,σ)
  | .aug t o e,ρ,σ=>cK (augX T C t o e ρ σ) fun ρ σ=>some (.aL,ρ,σ)
  | .ite t a b,ρ,σ=>cK (ae T C t ρ σ) fun x σ=>bo (truth x) fun r=>bif r then aE T C a ρ σ else aE T C b ρ σ
  | .while t b,ρ,σ=>whileX (fun ρ σ=>ae T C t ρ σ) (fun ρ σ=>aE T C b ρ σ) 64 ρ σ
  | .for t it b,ρ,σ=>cK (ae T C it ρ σ) fun src σ=>if cP src σ=true then loopX (fun v ρ σ=>cK (asgX T C t v ρ σ) fun ρ σ=>aE T C b ρ σ) src 64 0 ρ σ else .none
  | .raise,_,_=>.none
  | .tryf b f,ρ,σ=>bn3 (aE T C b ρ σ) fun r ρ σ=>bn3 (aE T C f ρ σ) fun g ρ σ=>if isNxt g=true then some (r,ρ,σ) else .none
noncomputable def aE (T:Tab) (C:aw):List XS→List V→St→Option (Fl×List V×St)
  | [],ρ,σ=>some (.aL,ρ,σ)
  | s :: l,ρ,σ=>bn3 (bP T C s ρ σ) fun fl ρ σ=>seqF fl ρ σ (aE T C l ρ σ)
end
noncomputable def turnX (T:Tab) (C:aw) (t:XT) (b:List XS) (v:V) (ρ:List V) (σ:St):Option (Fl×List V×St):=cK (asgX T C t v ρ σ) fun ρ σ=>aE T C b ρ σ
section
variable {T:Tab} {C:aw} {ρ:List V} {σ:St} {v:V}
theorem x_cond {e}:condX T C (some e) ρ σ=cK (ae T C e ρ σ) fun v σ=>(truth v).map fun b=>(b,σ):=rfl
theorem x_asgT {is}:asgX T C (.tup is) v ρ σ=onT v fun l=>if l.length=is.length∧is.all (· < ρ.length)=true then some (setSlots ρ is l,σ) else .none:=rfl
theorem x_asgA {o a}:asgX T C (.attr o a) v ρ σ=cK (ae T C o ρ σ) fun x σ=>(setA T σ x a v).map fun σ=>(ρ,σ):=rfl
theorem x_asgI {o i}:asgX T C (.idx o i) v ρ σ=cK (ae T C o ρ σ) fun x σ=>cK (ae T C i ρ σ) fun y σ=>(setI σ x y v).map fun σ=>(ρ,σ):=rfl
theorem x_augL {i op e}:augX T C (.loc i) op e ρ σ=bo (bU ρ i) fun x=>cK (ae T C e ρ σ) fun y σ=>(augV op x y).map fun v=>(ρ.set i v,σ):=rfl
theorem x_augA {o a op e}:augX T C (.attr o a) op e ρ σ=cK (ae T C o ρ σ) fun x σ=>bo (getA T σ x a) fun old=>cK (ae T C e ρ σ) fun y σ=>bo (augV op old y) fun v=>(setA T σ x a v).map fun σ=>(ρ,σ):=rfl
theorem x_augI {o i op e}:augX T C (.idx o i) op e ρ σ=cK (ae T C o ρ σ) fun x σ=>cK (ae T C i ρ σ) fun k σ=>bo (getI σ x k) fun old=>cK (ae T C e ρ σ) fun y σ=>bo (augV op old y) fun v=>(setI σ x k v).map fun σ=>(ρ,σ):=rfl
theorem x_expr {e}:bP T C (.expr e) ρ σ=cK (ae T C e ρ σ) fun v σ=>if isNB v=true then some (.aL,ρ,σ) else .none:=rfl
theorem x_ret {e}:bP T C (.ret e) ρ σ=cK (ae T C e ρ σ) fun v σ=>some (.ret v,ρ,σ):=rfl
theorem x_asg {t e}:bP T C (.asg t e) ρ σ=cK (ae T C e ρ σ) fun v σ=>cK (asgX T C t v ρ σ) fun ρ σ=>some (.aL,ρ,σ):=rfl
theorem x_aug {t o e}:bP T C (.aug t o e) ρ σ=cK (augX T C t o e ρ σ) fun ρ σ=>some (.aL,ρ,σ):=rfl
theorem x_ite {t a b}:bP T C (.ite t a b) ρ σ=cK (ae T C t ρ σ) fun x σ=>bo (truth x) fun r=>bif r then aE T C a ρ σ else aE T C b ρ σ:=rfl
theorem x_while {t b}:bP T C (.while t b) ρ σ=whileX (fun ρ σ=>ae T C t ρ σ) (fun ρ σ=>aE T C b ρ σ) 64 ρ σ:=rfl
theorem x_for {t it b}:bP T C (.for t it b) ρ σ=cK (ae T C it ρ σ) fun src σ=>if cP src σ=true then loopX (turnX T C t b) src 64 0 ρ σ else .none:=rfl
theorem x_try {b f}:bP T C (.tryf b f) ρ σ=bn3 (aE T C b ρ σ) fun r ρ σ=>bn3 (aE T C f ρ σ) fun g ρ σ=>if isNxt g=true then some (r,ρ,σ) else .none:=rfl
theorem x_seq {s l}:aE T C (s :: l) ρ σ=bn3 (bP T C s ρ σ) fun fl ρ σ=>seqF fl ρ σ (aE T C l ρ σ):=rfl
end
noncomputable def endF (fl:Fl) (σ:St):Option (V×St):=match fl with
  | .ret v=>some (v,σ)
  | .aL=>some (.none,σ)
  | .cnt=>.none
noncomputable def runF (T:Tab) (C:aw) (f:bV) (vs:List V) (σ:St):Option (V×St):=
  if vs.length=f.np then bn3 (aE T C f.body (vs++f.free++List.replicate (f.bG - f.np - f.free.length) .ai) σ) fun fl zz σ=>endF fl σ else .none
noncomputable def ab (T:Tab):Nat→aw
  | 0=>fun zz zz zz=>.none
  | n+1=>fun k vs σ=>bo (T.fn k) fun f=>runF T (ab T n) f vs σ
end
section
noncomputable def x_mask:bV:={ np:=1,bG:=1,body:=[
  .ret (.bin .sub (.bin .shl (.int 1) (.loc 0)) (.int 1))] }
noncomputable def x_vec:bV:={ np:=3,bG:=4,body:=[
  .asg (.loc 3) (.call 2 [.loc 0]),
  .ret (.tup [.loc 0,.bin .and (.loc 1) (.loc 3),.bin .and (.loc 2) (.loc 3)])] }
noncomputable def x_all_x:bV:={ np:=1,bG:=2,body:=[
  .asg (.loc 1) (.call 2 [.loc 0]),
  .ret (.tup [.loc 0,.loc 1,.loc 1])] }
noncomputable def x_from_int:bV:={ np:=2,bG:=2,body:=[
  .ret (.tup [.loc 0,.bin .and (.loc 1) (.call 2 [.loc 0]),.int 0])] }
noncomputable def x_is_known:bV:={ np:=1,bG:=1,body:=[
  .ret (.cmp .eq (.idx (.loc 0) (.int 2)) (.int 0))] }
noncomputable def x_to_int:bV:={ np:=2,bG:=5,body:=[
  .asg (.tup [2,3,4]) (.loc 0),
  .ite (.cmp .ne (.loc 4) (.int 0)) [.ret (.none)] [],
  .ite (.and [.loc 1,.cmp .eq (.bin .shr (.loc 3) (.bin .sub (.loc 2) (.int 1))) (.int 1)]) [.ret (.bin .sub (.loc 3) (.bin .shl (.int 1) (.loc 2)))] [],
  .ret (.loc 3)] }
noncomputable def x_slice_vec:bV:={ np:=3,bG:=10,body:=[
  .asg (.loc 3) (.blt .max2 [.loc 1,.int 0]),
  .asg (.loc 4) (.blt .min2 [.bin .add (.loc 1) (.loc 2),.idx (.loc 0) (.int 0)]),
  .ite (.cmp .le (.loc 4) (.loc 3)) [.raise] [],
  .asg (.loc 5) (.call 2 [.bin .sub (.loc 4) (.loc 3)]),
  .asg (.loc 6) (.bin .sub (.loc 3) (.loc 1)),
  .asg (.loc 7) (.bin .xor (.call 2 [.loc 2]) (.bin .shl (.loc 5) (.loc 6))),
  .asg (.loc 8) (.bin .shl (.bin .and (.bin .shr (.idx (.loc 0) (.int 1)) (.loc 3)) (.loc 5)) (.loc 6)),
  .asg (.loc 9) (.bin .shl (.bin .and (.bin .shr (.idx (.loc 0) (.int 2)) (.loc 3)) (.loc 5)) (.loc 6)),
  .ret (.tup [.loc 2,.bin .or (.loc 8) (.loc 7),.bin .or (.loc 9) (.loc 7)])] }
noncomputable def x_put_slice:bV:={ np:=3,bG:=10,body:=[
  .asg (.loc 3) (.blt .max2 [.loc 1,.int 0]),
  .asg (.loc 4) (.blt .min2 [.bin .add (.loc 1) (.idx (.loc 2) (.int 0)),.idx (.loc 0) (.int 0)]),
  .ite (.cmp .le (.loc 4) (.loc 3)) [.raise] [],
  .asg (.loc 5) (.call 2 [.bin .sub (.loc 4) (.loc 3)]),
  .asg (.loc 6) (.bin .sub (.loc 3) (.loc 1)),
  .asg (.loc 7) (.bin .xor (.call 2 [.idx (.loc 0) (.int 0)]) (.bin .shl (.loc 5) (.loc 3))),
  .asg (.loc 8) (.bin .or (.bin .and (.idx (.loc 0) (.int 1)) (.loc 7)) (.bin .shl (.bin .and (.bin .shr (.idx (.loc 2) (.int 1)) (.loc 6)) (.loc 5)) (.loc 3))),
  .asg (.loc 9) (.bin .or (.bin .and (.idx (.loc 0) (.int 2)) (.loc 7)) (.bin .shl (.bin .and (.bin .shr (.idx (.loc 2) (.int 2)) (.loc 6)) (.loc 5)) (.loc 3))),
  .ret (.tup [.idx (.loc 0) (.int 0),.loc 8,.loc 9])] }
noncomputable def x_extend:bV:={ np:=3,bG:=7,body:=[
  .ite (.cmp .le (.loc 1) (.idx (.loc 0) (.int 0))) [.ret (.call 3 [.loc 1,.idx (.loc 0) (.int 1),.idx (.loc 0) (.int 2)])] [],
  .ite (.not (.loc 2)) [.ret (.tup [.loc 1,.idx (.loc 0) (.int 1),.idx (.loc 0) (.int 2)])] [],
  .raise,
  .raise,
  .raise,
  .raise,
  .raise] }
noncomputable def x_z_to_x:bV:={ np:=1,bG:=1,body:=[
  .ret (.tup [.idx (.loc 0) (.int 0),.bin .or (.idx (.loc 0) (.int 1)) (.idx (.loc 0) (.int 2)),.idx (.loc 0) (.int 2)])] }
noncomputable def x_truth:bV:={ np:=1,bG:=1,body:=[
  .ite (.cmp .ne (.bin .and (.idx (.loc 0) (.int 1)) (.bin .xor (.idx (.loc 0) (.int 2)) (.call 2 [.idx (.loc 0) (.int 0)]))) (.int 0)) [.ret (.int 1)] [],
  .ite (.and [.cmp .eq (.idx (.loc 0) (.int 1)) (.int 0),.cmp .eq (.idx (.loc 0) (.int 2)) (.int 0)]) [.ret (.int 0)] [],
  .ret (.int 3)] }
noncomputable def x_add:bV:={ np:=2,bG:=2,body:=[
  .ite (.or [.not (.call 9 [.loc 0]),.not (.call 9 [.loc 1])]) [.ret (.call 6 [.idx (.loc 0) (.int 0)])] [],
  .ret (.call 8 [.idx (.loc 0) (.int 0),.bin .add (.idx (.loc 0) (.int 1)) (.idx (.loc 1) (.int 1))])] }
noncomputable def x_ordered:bV:={ np:=3,bG:=5,body:=[
  .asg (.loc 3) (.call 10 [.loc 0,.loc 2]),
  .asg (.loc 4) (.call 10 [.loc 1,.loc 2]),
  .ite (.or [.cmp .is (.loc 3) (.none),.cmp .is (.loc 4) (.none)]) [.ret (.none)] [],
  .ite (.cmp .eq (.loc 3) (.loc 4)) [.ret (.int 0)] [],
  .ret (.ite (.cmp .lt (.loc 3) (.loc 4)) (.neg (.int 1)) (.int 1))] }
noncomputable def x_less:bV:={ np:=3,bG:=4,body:=[
  .asg (.loc 3) (.call 30 [.loc 0,.loc 1,.loc 2]),
  .ite (.cmp .is (.loc 3) (.none)) [.ret (.call 6 [.int 1])] [],
  .ret (.tup [.int 1,.ite (.cmp .lt (.loc 3) (.int 0)) (.int 1) (.int 0),.int 0])] }
noncomputable def x_one_bit:bV:={ np:=1,bG:=1,body:=[
  .ret (.tup [.int 1,.bin .and (.loc 0) (.int 1),.bin .shr (.loc 0) (.int 1)])] }
noncomputable def x_bit_and:bV:={ np:=2,bG:=8,body:=[
  .asg (.tup [2,3,4]) (.call 16 [.loc 0]),
  .asg (.tup [5,6]) (.sliceFrom false (.call 16 [.loc 1]) 1),
  .asg (.loc 7) (.bin .and (.loc 3) (.loc 5)),
  .ret (.tup [.loc 2,.loc 7,.bin .and (.loc 7) (.bin .or (.loc 4) (.loc 6))])] }
noncomputable def x_bit_xor:bV:={ np:=2,bG:=3,body:=[
  .asg (.loc 2) (.bin .or (.idx (.loc 0) (.int 2)) (.idx (.loc 1) (.int 2))),
  .ret (.tup [.idx (.loc 0) (.int 0),.bin .or (.bin .xor (.idx (.loc 0) (.int 1)) (.idx (.loc 1) (.int 1))) (.loc 2),.loc 2])] }
noncomputable def x_logic_and:bV:={ np:=2,bG:=2,body:=[
  .ret (.call 37 [.call 35 [.call 17 [.loc 0]],.call 35 [.call 17 [.loc 1]]])] }
noncomputable def x_matches:bV:={ np:=3,bG:=5,body:=[
  .asg (.loc 3) (.int 0),
  .ite (.cmp .eq (.loc 0) (.str 0)) [.asg (.loc 3) (.bin .or (.bin .and (.idx (.loc 1) (.int 2)) (.bin .xor (.idx (.loc 1) (.int 2)) (.idx (.loc 1) (.int 1)))) (.bin .and (.idx (.loc 2) (.int 2)) (.bin .xor (.idx (.loc 2) (.int 2)) (.idx (.loc 2) (.int 1)))))] [.ite (.cmp .eq (.loc 0) (.str 1)) [.asg (.loc 3) (.bin .or (.idx (.loc 1) (.int 2)) (.idx (.loc 2) (.int 2)))] []],
  .asg (.loc 4) (.bin .xor (.call 2 [.idx (.loc 1) (.int 0)]) (.loc 3)),
  .ret (.and [.cmp .eq (.bin .and (.bin .xor (.idx (.loc 1) (.int 1)) (.idx (.loc 2) (.int 1))) (.loc 4)) (.int 0),.cmp .eq (.bin .and (.bin .xor (.idx (.loc 1) (.int 2)) (.idx (.loc 2) (.int 2))) (.loc 4)) (.int 0)])] }
noncomputable def x_choose:bV:={ np:=3,bG:=7,body:=[
  .asg (.loc 3) (.call 17 [.loc 0]),
  .ite (.cmp .eq (.loc 3) (.int 1)) [.raise] [],
  .ite (.cmp .eq (.loc 3) (.int 0)) [.raise] [],
  .asg (.loc 4) (.idx (.loc 1) (.int 0)),
  .asg (.loc 5) (.bin .xor (.call 2 [.loc 4]) (.bin .or (.bin .or (.bin .xor (.idx (.loc 1) (.int 1)) (.idx (.loc 2) (.int 1))) (.idx (.loc 1) (.int 2))) (.idx (.loc 2) (.int 2)))),
  .asg (.loc 6) (.bin .xor (.call 2 [.loc 4]) (.loc 5)),
  .ret (.tup [.loc 4,.bin .or (.bin .and (.idx (.loc 1) (.int 1)) (.loc 5)) (.loc 6),.loc 6])] }
noncomputable def x_arithmetic:bV:={ np:=4,bG:=4,body:=[
  .ite (.cmp .eq (.loc 0) (.str 2)) [.ret (.call 18 [.loc 1,.loc 2])] [],
  .ite (.cmp .eq (.loc 0) (.str 3)) [.raise] [],
  .ite (.cmp .eq (.loc 0) (.str 4)) [.raise] [],
  .ite (.cmp .eq (.loc 0) (.str 5)) [.raise] [],
  .ite (.cmp .eq (.loc 0) (.str 6)) [.raise] [],
  .ite (.or [.cmp .eq (.loc 0) (.str 7),.cmp .eq (.loc 0) (.str 8)]) [.raise] [],
  .ite (.cmp .eq (.loc 0) (.str 9)) [.raise] [],
  .ite (.cmp .eq (.loc 0) (.str 10)) [.raise] [],
  .ret (.none)] }
noncomputable def x_comparison:bV:={ np:=4,bG:=4,body:=[
  .ite (.cmp .eq (.loc 0) (.str 11)) [.ret (.call 31 [.loc 1,.loc 2,.loc 3])] [],
  .ite (.cmp .eq (.loc 0) (.str 12)) [.raise] [],
  .ite (.cmp .eq (.loc 0) (.str 13)) [.raise] [],
  .ite (.cmp .eq (.loc 0) (.str 14)) [.raise] [],
  .ite (.cmp .eq (.loc 0) (.str 15)) [.raise] [],
  .ite (.cmp .eq (.loc 0) (.str 16)) [.raise] [],
  .ite (.cmp .eq (.loc 0) (.str 17)) [.raise] [],
  .ite (.cmp .eq (.loc 0) (.str 18)) [.raise] [],
  .ret (.none)] }
noncomputable def x_bitwise:bV:={ np:=3,bG:=3,body:=[
  .ite (.cmp .eq (.loc 0) (.str 19)) [.raise] [],
  .ite (.cmp .eq (.loc 0) (.str 20)) [.raise] [],
  .ite (.cmp .eq (.loc 0) (.str 21)) [.ret (.call 39 [.loc 1,.loc 2])] [],
  .ite (.cmp .eq (.loc 0) (.str 22)) [.raise] [],
  .ite (.cmp .eq (.loc 0) (.str 23)) [.ret (.call 48 [.loc 1,.loc 2])] [],
  .raise,
  .raise] }
noncomputable def x_binary:bV:={ np:=4,bG:=5,body:=[
  .asg (.loc 4) (.call 57 [.loc 0,.loc 1,.loc 2,.loc 3]),
  .ite (.cmp .is (.loc 4) (.none)) [.asg (.loc 4) (.call 58 [.loc 0,.loc 1,.loc 2,.loc 3])] [],
  .ite (.cmp .is (.loc 4) (.none)) [.asg (.loc 4) (.call 59 [.loc 0,.loc 1,.loc 2])] [],
  .ite (.cmp .is (.loc 4) (.none)) [.raise] [],
  .ret (.loc 4)] }
noncomputable def x_whole_of:bV:={ np:=3,bG:=3,body:=[
  .ret (.call 10 [.call 67 [.loc 0,.loc 2],.loc 1])] }
noncomputable def x_conditional:bV:={ np:=2,bG:=4,body:=[
  .asg (.loc 2) (.call 67 [.idx (.loc 0) (.int 2),.loc 1]),
  .asg (.loc 3) (.call 17 [.loc 2]),
  .ite (.cmp .eq (.loc 3) (.int 1)) [.ret (.call 67 [.idx (.loc 0) (.int 3),.loc 1])] [],
  .ite (.cmp .eq (.loc 3) (.int 0)) [.ret (.call 67 [.idx (.loc 0) (.int 4),.loc 1])] [],
  .ret (.call 55 [.loc 2,.call 67 [.idx (.loc 0) (.int 3),.loc 1],.call 67 [.idx (.loc 0) (.int 4),.loc 1]])] }
noncomputable def br:bV:={ np:=2,bG:=3,body:=[
  .asg (.loc 2) (.idx (.loc 0) (.int 0)),
  .ite (.cmp .eq (.loc 2) (.str 24)) [.ret (.tup [.idx (.loc 0) (.int 1),.idx (.loc 0) (.int 2),.idx (.loc 0) (.int 3)])] [],
  .ite (.cmp .eq (.loc 2) (.str 25)) [.ret (.aV (.attr (.loc 1) 3) 2 [.idx (.loc 0) (.int 2)])] [],
  .ite (.cmp .eq (.loc 2) (.str 26)) [.ret (.idx (.attr (.loc 1) 4) (.idx (.loc 0) (.int 2)))] [],
  .ite (.cmp .eq (.loc 2) (.str 27)) [.ret (.call 60 [.idx (.loc 0) (.int 2),.call 67 [.idx (.loc 0) (.int 3),.loc 1],.call 67 [.idx (.loc 0) (.int 4),.loc 1],.idx (.loc 0) (.int 5)])] [],
  .ite (.cmp .eq (.loc 2) (.str 28)) [.raise] [],
  .ite (.cmp .eq (.loc 2) (.str 29)) [.ret (.call 15 [.call 67 [.idx (.loc 0) (.int 2),.loc 1],.idx (.loc 0) (.int 1),.idx (.loc 0) (.int 3)])] [],
  .ite (.cmp .eq (.loc 2) (.str 30)) [.ret (.call 12 [.call 67 [.idx (.loc 0) (.int 2),.loc 1],.idx (.loc 0) (.int 3),.idx (.loc 0) (.int 1)])] [],
  .ite (.cmp .eq (.loc 2) (.str 31)) [.raise] [],
  .ite (.cmp .eq (.loc 2) (.str 32)) [.raise] [],
  .ite (.cmp .eq (.loc 2) (.str 33)) [.ret (.call 64 [.loc 0,.loc 1])] [],
  .ite (.cmp .eq (.loc 2) (.str 34)) [.raise] [],
  .ite (.cmp .eq (.loc 2) (.str 35)) [.raise] [],
  .ite (.cmp .eq (.loc 2) (.str 36)) [.ret (.aV (.loc 1) 5 [.idx (.loc 0) (.int 2),.comp false (.call 67 [.loc 3,.loc 1]) (.idx (.loc 0) (.int 3)) .none])] [],
  .raise,
  .raise] }
noncomputable def x_locate:bV:={ np:=2,bG:=3,body:=[
  .ite (.cmp .eq (.idx (.loc 0) (.int 0)) (.str 37)) [.ret (.idx (.loc 0) (.int 1))] [],
  .asg (.loc 2) (.call 61 [.idx (.loc 0) (.int 1),.idx (.loc 0) (.int 2),.loc 1]),
  .ite (.cmp .is (.loc 2) (.none)) [.ret (.none)] [],
  .ret (.bin .mul (.bin .sub (.loc 2) (.idx (.loc 0) (.int 3))) (.idx (.loc 0) (.int 4)))] }
noncomputable def x_holder_width:bV:={ np:=2,bG:=2,body:=[
  .ite (.cmp .eq (.idx (.loc 0) (.int 0)) (.str 25)) [.ret (.attr (.idx (.attr (.attr (.loc 1) 3) 6) (.idx (.loc 0) (.int 2))) 7)] [],
  .ret (.idx (.idx (.attr (.loc 1) 4) (.idx (.loc 0) (.int 2))) (.int 0))] }
noncomputable def x_resolve_target:bV:={ np:=2,bG:=13,body:=[
  .asg (.loc 2) (.lst true []),
  .asg (.loc 3) (.idx (.loc 0) (.int 1)),
  .for (.loc 4) (.idx (.loc 0) (.int 2)) [.asg (.tup [5,6,7,8,9]) (.loc 4),.aug (.loc 3) .sub (.loc 6),.asg (.loc 10) (.none),.ite (.cmp .isn (.loc 8) (.none)) [.raise] [],.asg (.loc 12) (.call 68 [.loc 9,.loc 1]),.ite (.or [.cmp .is (.loc 12) (.none),.cmp .le (.bin .add (.loc 12) (.loc 6)) (.int 0),.cmp .ge (.loc 12) (.call 69 [.loc 4,.loc 1])]) [.cont] [],.expr (.aV (.loc 2) 0 [.tup [.loc 5,.loc 7,.loc 10,.loc 12,.loc 6,.loc 3]])],
  .ret (.loc 2)] }
noncomputable def x_store_rows:bV:={ np:=3,bG:=11,body:=[
  .asg (.loc 3) (.dict0),
  .for (.tup [4,5,6,7,8,9]) (.loc 0) [.asg (.loc 10) (.call 12 [.loc 1,.loc 9,.loc 8]),.ite (.cmp .eq (.loc 4) (.str 25)) [.ite (.aV (.attr (.loc 2) 3) 8 [.loc 5,.loc 6,.loc 7,.loc 10]) [.asg (.idx (.loc 3) (.loc 5)) (.bool true)] []] [.asg (.idx (.attr (.loc 2) 4) (.loc 5)) (.call 13 [.idx (.attr (.loc 2) 4) (.loc 5),.loc 7,.loc 10])]],
  .ret (.blt .sorted [.loc 3])] }
noncomputable def x_Store___init__:bV:={ np:=2,bG:=2,body:=[
  .asg (.attr (.loc 0) 6) (.loc 1),
  .asg (.attr (.loc 0) 9) (.dict0),
  .asg (.attr (.loc 0) 10) (.dict0),
  .asg (.attr (.loc 0) 11) (.int 1)] }
noncomputable def x_Store_get:bV:={ np:=2,bG:=4,body:=[
  .asg (.loc 2) (.aV (.attr (.loc 0) 9) 2 [.loc 1]),
  .ite (.cmp .isn (.loc 2) (.none)) [.ret (.loc 2)] [],
  .asg (.loc 3) (.idx (.attr (.loc 0) 6) (.loc 1)),
  .ite (.aV (.loc 3) 12 []) [.raise] [],
  .ret (.call 6 [.attr (.loc 3) 7])] }
noncomputable def x_Store_set_bits:bV:={ np:=5,bG:=7,body:=[
  .ite (.cmp .is (.loc 2) (.none)) [.asg (.loc 5) (.aV (.loc 0) 2 [.loc 1]),.asg (.loc 6) (.call 13 [.loc 5,.loc 3,.loc 4]),.ite (.cmp .eq (.loc 6) (.loc 5)) [.ret (.bool false)] [],.asg (.idx (.attr (.loc 0) 9) (.loc 1)) (.loc 6),.ret (.bool true)] [],
  .raise,
  .raise,
  .raise,
  .raise,
  .raise,
  .raise,
  .raise] }
noncomputable def x_Context___init__:bV:={ np:=4,bG:=4,body:=[
  .asg (.attr (.loc 0) 3) (.loc 1),
  .asg (.attr (.loc 0) 4) (.loc 2),
  .asg (.attr (.loc 0) 13) (.loc 3)] }
noncomputable def cO:bV:={ np:=6,bG:=6,body:=[
  .expr (.call 76 [.loc 0,.loc 2,.loc 3,.loc 4]),
  .asg (.attr (.loc 0) 14) (.loc 1),
  .asg (.attr (.loc 0) 15) (.loc 5),
  .asg (.attr (.loc 0) 16) (.int 0),
  .asg (.attr (.loc 0) 17) (.dict0)] }
noncomputable def dR:bV:={ np:=3,bG:=6,body:=[
  .ite (.cmp .ge (.attr (.loc 0) 16) (.gl 0)) [.raise] [],
  .asg (.loc 3) (.aV (.attr (.loc 0) 14) 18 [.loc 1]),
  .asg (.loc 4) (.attr (.loc 0) 4),
  .asg (.attr (.loc 0) 4) (.aV (.loc 0) 19 [.loc 3,.loc 2]),
  .aug (.attr (.loc 0) 16) .add (.int 1),
  .tryf [.expr (.call 91 [.attr (.loc 3) 20,.loc 0]),.asg (.loc 5) (.idx (.attr (.loc 0) 4) (.int 0))] [.asg (.attr (.loc 0) 4) (.loc 4),.aug (.attr (.loc 0) 16) .sub (.int 1)],
  .ret (.loc 5)] }
noncomputable def cL:bV:={ np:=3,bG:=10,body:=[
  .asg (.loc 3) (.comp true (.call 6 [.loc 10]) (.attr (.loc 1) 21) .none),
  .asg (.loc 4) (.int 0),
  .for (.tup [5,6,7,8,9]) (.attr (.loc 1) 22) [.ite (.and [.cmp .eq (.loc 5) (.str 38),.cmp .lt (.loc 4) (.blt .len [.loc 2])]) [.ite (.cmp .eq (.loc 8) (.str 26)) [.asg (.idx (.loc 3) (.loc 9)) (.call 15 [.idx (.loc 2) (.loc 4),.loc 6,.loc 7])] [.ite (.aV (.attr (.loc 0) 3) 8 [.loc 9,.none,.int 0,.call 15 [.idx (.loc 2) (.loc 4),.loc 6,.loc 7]]) [.asg (.idx (.attr (.loc 0) 17) (.loc 9)) (.bool true)] []],.aug (.loc 4) .add (.int 1)] []],
  .ret (.loc 3)] }
noncomputable def dS:bV:={ np:=1,bG:=1,body:=[
  .ite (.cmp .le (.attr (.loc 0) 15) (.int 0)) [.raise] [],
  .aug (.attr (.loc 0) 15) .sub (.int 1)] }
noncomputable def cY:bV:={ np:=2,bG:=2,body:=[
  .ret (.cmp .eq (.call 17 [.call 67 [.loc 1,.loc 0]]) (.int 1))] }
noncomputable def x_run_block:bV:={ np:=2,bG:=4,body:=[
  .for (.loc 2) (.idx (.loc 0) (.int 1)) [.asg (.loc 3) (.call 91 [.loc 2,.loc 1]),.ite (.cmp .isn (.loc 3) (.none)) [.raise] []],
  .ret (.none)] }
noncomputable def x_run_set:bV:={ np:=2,bG:=4,body:=[
  .ite (.cmp .isn (.idx (.loc 0) (.int 3)) (.none)) [.raise] [],
  .asg (.loc 2) (.call 67 [.idx (.loc 0) (.int 2),.loc 1]),
  .for (.loc 3) (.call 71 [.call 70 [.idx (.loc 0) (.int 1),.loc 1],.loc 2,.loc 1]) [.asg (.idx (.attr (.loc 1) 17) (.loc 3)) (.bool true)],
  .ret (.none)] }
noncomputable def x_run_case:bV:={ np:=2,bG:=7,body:=[
  .asg (.loc 2) (.call 67 [.idx (.loc 0) (.int 2),.loc 1]),
  .asg (.loc 3) (.none),
  .for (.tup [4,5]) (.idx (.loc 0) (.int 3)) [.ite (.cmp .is (.loc 4) (.none)) [.asg (.loc 3) (.loc 5),.cont] [],.for (.loc 6) (.loc 4) [.ite (.call 54 [.idx (.loc 0) (.int 1),.loc 2,.call 67 [.loc 6,.loc 1]]) [.ret (.call 91 [.loc 5,.loc 1])] []]],
  .ret (.call 91 [.loc 3,.loc 1])] }
noncomputable def x_run_while:bV:={ np:=4,bG:=5,body:=[
  .while (.or [.cmp .is (.loc 0) (.none),.aV (.loc 3) 23 [.loc 0]]) [.expr (.aV (.loc 3) 24 []),.asg (.loc 4) (.call 91 [.loc 1,.loc 3]),.ite (.cmp .isn (.loc 4) (.none)) [.raise] [],.expr (.call 91 [.loc 2,.loc 3])],
  .ret (.none)] }
noncomputable def x_run_repeat:bV:={ np:=2,bG:=4,body:=[
  .asg (.loc 2) (.call 10 [.call 67 [.idx (.loc 0) (.int 1),.loc 1],.idx (.loc 0) (.int 2)]),
  .ite (.cmp .is (.loc 2) (.none)) [.ret (.none)] [],
  .while (.cmp .gt (.loc 2) (.int 0)) [.aug (.loc 2) .sub (.int 1),.expr (.aV (.loc 1) 24 []),.asg (.loc 3) (.call 91 [.idx (.loc 0) (.int 3),.loc 1]),.ite (.cmp .isn (.loc 3) (.none)) [.raise] []],
  .ret (.none)] }
noncomputable def x_run_for:bV:={ np:=2,bG:=2,body:=[
  .expr (.call 91 [.idx (.loc 0) (.int 1),.loc 1]),
  .ret (.call 88 [.idx (.loc 0) (.int 2),.idx (.loc 0) (.int 4),.idx (.loc 0) (.int 3),.loc 1])] }
noncomputable def dA:bV:={ np:=2,bG:=3,body:=[
  .ite (.cmp .is (.loc 0) (.none)) [.ret (.none)] [],
  .expr (.aV (.loc 1) 24 []),
  .while (.cmp .eq (.idx (.loc 0) (.int 0)) (.str 39)) [.asg (.loc 0) (.ite (.aV (.loc 1) 23 [.idx (.loc 0) (.int 1)]) (.idx (.loc 0) (.int 2)) (.idx (.loc 0) (.int 3))),.ite (.cmp .is (.loc 0) (.none)) [.ret (.none)] [],.expr (.aV (.loc 1) 24 [])],
  .asg (.loc 2) (.idx (.loc 0) (.int 0)),
  .ite (.cmp .eq (.loc 2) (.str 40)) [.ret (.call 86 [.loc 0,.loc 1])] [],
  .ite (.cmp .eq (.loc 2) (.str 41)) [.ret (.call 85 [.loc 0,.loc 1])] [],
  .ite (.cmp .eq (.loc 2) (.str 42)) [.ret (.call 87 [.loc 0,.loc 1])] [],
  .ite (.cmp .eq (.loc 2) (.str 43)) [.ret (.call 90 [.loc 0,.loc 1])] [],
  .ite (.cmp .eq (.loc 2) (.str 44)) [.raise] [],
  .ite (.cmp .eq (.loc 2) (.str 45)) [.ret (.call 89 [.loc 0,.loc 1])] [],
  .raise,
  .raise,
  .raise] }
noncomputable def x_net_kinds:bV:={ np:=0,bG:=0,body:=[
  .ret (.tup [.str 46,.str 47,.str 48,.str 49,.str 50,.str 51,.str 52,.str 53,.str 54])] }
noncomputable def x_Signal___init__:bV:={ np:=8,bG:=8,body:=[
  .asg (.attr (.loc 0) 25) (.loc 1),
  .asg (.attr (.loc 0) 26) (.loc 2),
  .asg (.attr (.loc 0) 27) (.loc 3),
  .asg (.attr (.loc 0) 7) (.loc 4),
  .asg (.attr (.loc 0) 28) (.loc 5),
  .asg (.attr (.loc 0) 29) (.loc 6),
  .asg (.attr (.loc 0) 30) (.loc 7),
  .asg (.attr (.loc 0) 31) (.none),
  .asg (.attr (.loc 0) 32) (.none),
  .asg (.attr (.loc 0) 33) (.none),
  .asg (.attr (.loc 0) 34) (.neg (.int 1)),
  .asg (.attr (.loc 0) 35) (.bool false)] }
noncomputable def x_Signal_is_net:bV:={ np:=1,bG:=1,body:=[
  .ret (.cmp .isin (.attr (.loc 0) 27) (.call 92 []))] }
noncomputable def x_Thread___init__:bV:={ np:=6,bG:=6,body:=[
  .asg (.attr (.loc 0) 36) (.loc 1),
  .asg (.attr (.loc 0) 37) (.loc 2),
  .asg (.attr (.loc 0) 38) (.loc 3),
  .asg (.attr (.loc 0) 4) (.loc 4),
  .asg (.attr (.loc 0) 26) (.loc 5),
  .asg (.attr (.loc 0) 39) (.lst false []),
  .asg (.attr (.loc 0) 40) (.lst false []),
  .asg (.attr (.loc 0) 41) (.neg (.int 1)),
  .asg (.attr (.loc 0) 42) (.dict0),
  .asg (.attr (.loc 0) 43) (.bool false),
  .asg (.attr (.loc 0) 44) (.none),
  .asg (.attr (.loc 0) 45) (.int 0),
  .asg (.attr (.loc 0) 46) (.bool false),
  .asg (.attr (.loc 0) 47) (.bool false)] }
noncomputable def x__law_bag:bV:={ np:=1,bG:=3,body:=[
  .asg (.loc 1) (.lst true [.int 0,.int 1]),
  .for (.loc 2) (.sliceTo false (.blt .list [.loc 0]) 20) [.expr (.aV (.loc 1) 0 [.blt .int [.loc 2]]),.asg (.idx (.loc 1) (.int 1)) (.bin .mod (.bin .add (.bin .add (.bin .mul (.idx (.loc 1) (.int 1)) (.int 31)) (.bin .mod (.blt .int [.loc 2]) (.int 9973))) (.int 1)) (.int 1000003))],
  .ret (.loc 1)] }
noncomputable def x__law_pull:bV:={ np:=2,bG:=4,body:=[
  .ite (.cmp .eq (.idx (.loc 0) (.int 0)) (.int 0)) [.ite (.cmp .gt (.blt .len [.loc 0]) (.int 2)) [.asg (.loc 2) (.aV (.loc 0) 1 [.int 2]),.asg (.idx (.loc 0) (.int 0)) (.ite (.cmp .ge (.loc 2) (.int 0)) (.bin .mul (.int 2) (.loc 2)) (.bin .sub (.bin .mul (.neg (.int 2)) (.loc 2)) (.int 1)))] [.asg (.idx (.loc 0) (.int 1)) (.bin .mod (.bin .add (.bin .mul (.idx (.loc 0) (.int 1)) (.int 69069)) (.int 12345)) (.int 4294967296)),.asg (.idx (.loc 0) (.int 0)) (.bin .fdiv (.idx (.loc 0) (.int 1)) (.int 16))]] [],
  .asg (.loc 3) (.bin .mod (.blt .int [.idx (.loc 0) (.int 0)]) (.loc 1)),
  .asg (.idx (.loc 0) (.int 0)) (.bin .fdiv (.idx (.loc 0) (.int 0)) (.loc 1)),
  .ret (.loc 3)] }
noncomputable def x__law_constant:bV:={ np:=1,bG:=2,body:=[
  .asg (.loc 1) (.ite (.cmp .eq (.call 101 [.loc 0,.int 5]) (.int 0)) (.call 101 [.loc 0,.int 8]) (.int 0)),
  .ret (.tup [.str 24,.int 3,.call 101 [.loc 0,.int 8],.loc 1])] }
noncomputable def bD:bV:={ np:=4,bG:=8,body:=[
  .ite (.cmp .eq (.idx (.loc 3) (.int 1)) (.int 0)) [.ret (.tup [.str 26,.int 3,.int 0])] [],
  .aug (.idx (.loc 3) (.int 1)) .sub (.int 1),
  .asg (.loc 4) (.call 101 [.loc 0,.int 8]),
  .ite (.cmp .eq (.loc 1) (.int 0)) [.asg (.loc 4) (.bin .mod (.loc 4) (.int 3))] [],
  .ite (.cmp .eq (.loc 4) (.int 0)) [.ret (.call 102 [.loc 0])] [],
  .ite (.cmp .eq (.loc 4) (.int 1)) [.ret (.tup [.str 25,.int 3,.call 101 [.loc 0,.int 4]])] [],
  .ite (.or [.cmp .eq (.loc 4) (.int 2),.and [.cmp .lt (.loc 4) (.int 5),.cmp .eq (.idx (.loc 3) (.int 0)) (.int 0)]]) [.ret (.tup [.str 26,.int 3,.call 101 [.loc 0,.int 2]])] [],
  .ite (.cmp .lt (.loc 4) (.int 5)) [.aug (.idx (.loc 3) (.int 0)) .sub (.int 1),.asg (.loc 5) (.call 101 [.loc 0,.loc 2]),.ret (.tup [.str 36,.int 3,.loc 5,.tup [.call 103 [.loc 0,.bin .sub (.loc 1) (.int 1),.loc 2,.loc 3]]])] [],
  .asg (.loc 6) (.call 103 [.loc 0,.bin .sub (.loc 1) (.int 1),.loc 2,.loc 3]),
  .asg (.loc 7) (.call 103 [.loc 0,.bin .sub (.loc 1) (.int 1),.loc 2,.loc 3]),
  .ite (.cmp .eq (.loc 4) (.int 5)) [.ret (.tup [.str 27,.int 3,.idx (.tup [.str 2,.str 21]) (.call 101 [.loc 0,.int 2]),.loc 6,.loc 7,.bool false])] [],
  .ite (.cmp .eq (.loc 4) (.int 6)) [.ret (.tup [.str 33,.int 3,.call 103 [.loc 0,.bin .sub (.loc 1) (.int 1),.loc 2,.loc 3],.loc 6,.loc 7])] [],
  .ret (.tup [.str 29,.int 3,.tup [.str 27,.int 1,.str 23,.loc 6,.loc 7,.bool false],.bool false])] }
noncomputable def x__law_to:bV:={ np:=2,bG:=2,body:=[
  .ret (.tup [.str 55,.int 3,.tup [.tup [.loc 0,.int 3,.loc 1,.none,.tup [.str 37,.int 0]]]])] }
noncomputable def x__law_store:bV:={ np:=2,bG:=6,body:=[
  .asg (.loc 2) (.call 103 [.loc 0,.int 2,.int 2,.loc 1]),
  .asg (.loc 3) (.call 101 [.loc 0,.int 3]),
  .ite (.cmp .eq (.loc 3) (.int 0)) [.ret (.tup [.str 40,.call 104 [.str 26,.int 0],.loc 2,.none])] [],
  .ite (.cmp .eq (.loc 3) (.int 1)) [.ret (.tup [.str 40,.call 104 [.str 25,.call 101 [.loc 0,.int 4]],.loc 2,.none])] [],
  .asg (.loc 4) (.call 103 [.loc 0,.int 1,.int 2,.loc 1]),
  .asg (.loc 5) (.tup [.str 31,.loc 4,.cmp .eq (.call 101 [.loc 0,.int 2]) (.int 0),.call 101 [.loc 0,.int 3],.bin .sub (.int 1) (.bin .mul (.int 2) (.call 101 [.loc 0,.int 2]))]),
  .ret (.tup [.str 40,.tup [.str 55,.int 3,.tup [.tup [.str 25,.int 3,.call 101 [.loc 0,.int 4],.none,.loc 5]]],.loc 2,.none])] }
noncomputable def cU:bV:={ np:=3,bG:=13,body:=[
  .ite (.cmp .eq (.idx (.loc 2) (.int 2)) (.int 0)) [.ret (.none)] [],
  .aug (.idx (.loc 2) (.int 2)) .sub (.int 1),
  .asg (.loc 3) (.call 101 [.loc 0,.int 8]),
  .ite (.or [.cmp .eq (.loc 1) (.int 0),.cmp .lt (.loc 3) (.int 2)]) [.ret (.ite (.cmp .eq (.loc 3) (.int 7)) (.none) (.call 105 [.loc 0,.loc 2]))] [],
  .ite (.cmp .eq (.loc 3) (.int 2)) [.asg (.loc 4) (.call 106 [.loc 0,.bin .sub (.loc 1) (.int 1),.loc 2]),.ret (.tup [.str 41,.tup [.loc 4,.call 106 [.loc 0,.bin .sub (.loc 1) (.int 1),.loc 2]],.neg (.int 1)])] [],
  .ite (.cmp .lt (.loc 3) (.int 5)) [.asg (.loc 5) (.call 103 [.loc 0,.int 2,.int 2,.loc 2]),.asg (.loc 4) (.call 106 [.loc 0,.bin .sub (.loc 1) (.int 1),.loc 2]),.ret (.tup [.str 39,.loc 5,.loc 4,.call 106 [.loc 0,.bin .sub (.loc 1) (.int 1),.loc 2]])] [],
  .ite (.cmp .eq (.loc 3) (.int 5)) [.asg (.loc 5) (.call 103 [.loc 0,.int 1,.int 2,.loc 2]),.asg (.loc 6) (.tup [.call 103 [.loc 0,.int 1,.int 2,.loc 2],.call 103 [.loc 0,.int 1,.int 2,.loc 2]]),.asg (.loc 4) (.tup [.loc 6,.call 106 [.loc 0,.bin .sub (.loc 1) (.int 1),.loc 2]]),.asg (.loc 7) (.tup [.tup [.call 103 [.loc 0,.int 1,.int 2,.loc 2]],.call 106 [.loc 0,.bin .sub (.loc 1) (.int 1),.loc 2]]),.asg (.loc 8) (.tup [.loc 4,.tup [.none,.call 106 [.loc 0,.bin .sub (.loc 1) (.int 1),.loc 2]],.loc 7]),.ret (.tup [.str 42,.idx (.tup [.str 42,.str 0,.str 1]) (.call 101 [.loc 0,.int 3]),.loc 5,.loc 8])] [],
  .ite (.or [.cmp .eq (.loc 3) (.int 6),.cmp .eq (.loc 1) (.int 1)]) [.asg (.loc 5) (.tup [.str 30,.int 2,.call 103 [.loc 0,.int 1,.int 2,.loc 2],.int 0]),.ret (.tup [.str 45,.loc 5,.cmp .eq (.call 101 [.loc 0,.int 2]) (.int 0),.call 105 [.loc 0,.lst true [.int 0,.int 3,.int 0]]])] [],
  .asg (.loc 9) (.tup [.str 26,.int 3,.int 1]),
  .asg (.loc 10) (.tup [.str 27,.int 1,.str 11,.loc 9,.tup [.str 24,.int 3,.bin .add (.int 1) (.call 101 [.loc 0,.int 2]),.int 0],.bool false]),
  .asg (.loc 11) (.tup [.str 40,.call 104 [.str 26,.int 1],.tup [.str 27,.int 3,.str 2,.loc 9,.tup [.str 24,.int 3,.int 1,.int 0],.bool false],.none]),
  .asg (.loc 12) (.tup [.str 40,.call 104 [.str 26,.int 1],.tup [.str 24,.int 3,.int 0,.int 0],.none]),
  .ret (.tup [.str 43,.loc 12,.loc 10,.loc 11,.call 106 [.loc 0,.int 0,.loc 2]])] }
noncomputable def x__law_fixed:bV:={ np:=0,bG:=2,body:=[
  .asg (.loc 0) (.tup [.str 36,.int 3,.int 0,.tup [.tup [.str 24,.int 3,.int 0,.int 0]]]),
  .asg (.loc 1) (.tup [.str 33,.int 3,.tup [.str 24,.int 3,.int 2,.int 2],.loc 0,.loc 0]),
  .ret (.tup [.str 41,.tup [.tup [.str 40,.call 104 [.str 25,.int 0],.tup [.str 24,.int 3,.int 2,.int 0],.none],.tup [.str 39,.tup [.str 27,.int 1,.str 23,.tup [.str 24,.int 3,.int 0,.int 0],.loc 0,.bool false],.none,.none],.tup [.str 40,.call 104 [.str 25,.int 1],.tup [.str 27,.int 3,.str 21,.tup [.str 25,.int 3,.int 0],.loc 1,.bool false],.none]],.neg (.int 1)])] }
noncomputable def x__law_function:bV:={ np:=5,bG:=6,body:=[
  .asg (.loc 5) (.new 7 [.int 0,.lst false [],.int 0,.lst false [],.str 56]),
  .asg (.attr (.loc 5) 21) (.lst false [.int 3,.int 3]),
  .asg (.attr (.loc 5) 22) (.lst false [.tup [.str 38,.int 3,.bool false,.loc 0,.loc 1]]),
  .asg (.attr (.loc 5) 20) (.tup [.str 41,.tup [.tup [.str 40,.call 104 [.str 25,.loc 2],.loc 3,.none],.tup [.str 40,.call 104 [.str 26,.int 0],.loc 4,.none]],.neg (.int 1)]),
  .ret (.loc 5)] }
noncomputable def x__law_functions:bV:={ np:=1,bG:=9,body:=[
  .asg (.loc 1) (.tup [.str 27,.int 3,.str 2,.tup [.str 25,.int 3,.int 0],.tup [.str 24,.int 3,.int 1,.int 0],.bool false]),
  .asg (.loc 2) (.tup [.str 27,.int 3,.str 21,.tup [.str 25,.int 3,.int 0],.tup [.str 26,.int 3,.int 1],.bool false]),
  .asg (.loc 3) (.lst true [.int 1,.int 6,.int 0]),
  .asg (.loc 4) (.call 101 [.loc 0,.int 5]),
  .asg (.loc 5) (.call 101 [.loc 0,.int 4]),
  .asg (.loc 6) (.call 103 [.loc 0,.int 1,.int 1,.loc 3]),
  .asg (.loc 7) (.call 103 [.loc 0,.int 1,.int 1,.loc 3]),
  .asg (.loc 8) (.call 108 [.ite (.cmp .eq (.loc 4) (.int 4)) (.str 26) (.str 25),.ite (.cmp .eq (.loc 4) (.int 4)) (.int 1) (.loc 4),.loc 5,.loc 6,.loc 7]),
  .ret (.lst false [.call 108 [.str 26,.int 1,.int 0,.loc 1,.loc 2],.loc 8])] }
noncomputable def x__law_true:bV:={ np:=1,bG:=1,body:=[
  .ite (.cmp .isin (.int 1) (.loc 0)) [.ret (.int 1)] [],
  .ret (.ite (.cmp .gt (.blt .maxL [.loc 0]) (.int 1)) (.int 3) (.int 0))] }
noncomputable def dq:bV:={ np:=2,bG:=4,body:=[
  .ite (.cmp .gt (.blt .maxL [.loc 0]) (.int 1)) [.ret (.none)] [],
  .asg (.loc 2) (.int 0),
  .for (.loc 3) (.blt .range [.blt .len [.loc 0]]) [.aug (.loc 2) .add (.bin .shl (.idx (.loc 0) (.loc 3)) (.loc 3))],
  .ite (.and [.loc 1,.cmp .eq (.idx (.loc 0) (.neg (.int 1))) (.int 1)]) [.aug (.loc 2) .sub (.bin .shl (.int 1) (.blt .len [.loc 0]))] [],
  .ret (.loc 2)] }
noncomputable def x__law_pair:bV:={ np:=3,bG:=6,body:=[
  .ite (.cmp .eq (.loc 0) (.str 21)) [.ret (.comp false (.ite (.cmp .gt (.blt .max2 [.idx (.loc 1) (.loc 6),.idx (.loc 2) (.loc 6)]) (.int 1)) (.int 3) (.bin .xor (.idx (.loc 1) (.loc 6)) (.idx (.loc 2) (.loc 6)))) (.blt .range [.int 3]) .none)] [],
  .ite (.cmp .eq (.loc 0) (.str 23)) [.asg (.loc 3) (.tup [.call 110 [.loc 1],.call 110 [.loc 2]]),.ret (.lst false [.ite (.cmp .isin (.int 0) (.loc 3)) (.int 0) (.blt .maxL [.loc 3])])] [],
  .asg (.loc 4) (.call 111 [.loc 1,.bool false]),
  .asg (.loc 5) (.call 111 [.loc 2,.bool false]),
  .ite (.cmp .eq (.loc 0) (.str 11)) [.ret (.lst false [.ite (.or [.cmp .is (.loc 4) (.none),.cmp .is (.loc 5) (.none)]) (.int 3) (.blt .int [.cmp .lt (.loc 4) (.loc 5)])])] [],
  .ite (.or [.cmp .is (.loc 4) (.none),.cmp .is (.loc 5) (.none)]) [.ret (.lst false [.int 3,.int 3,.int 3])] [],
  .ret (.comp false (.bin .mod (.blt .int [.bin .shr (.bin .add (.loc 4) (.loc 5)) (.loc 6)]) (.int 2)) (.blt .range [.int 3]) .none)] }
noncomputable def x__law_call:bV:={ np:=5,bG:=9,body:=[
  .asg (.loc 5) (.call 114 [.idx (.idx (.loc 0) (.int 3)) (.int 0),.loc 1,.loc 2,.loc 3,.loc 4]),
  .asg (.loc 6) (.idx (.loc 3) (.idx (.loc 0) (.int 2))),
  .asg (.loc 7) (.lst true [.lst false [.int 3,.int 3,.int 3],.lst false [.int 3,.int 3,.int 3]]),
  .asg (.loc 8) (.idx (.attr (.loc 6) 22) (.int 0)),
  .ite (.cmp .eq (.idx (.loc 8) (.int 3)) (.str 26)) [.asg (.idx (.loc 7) (.int 1)) (.loc 5)] [.ite (.cmp .ne (.idx (.loc 1) (.idx (.loc 8) (.int 4))) (.loc 5)) [.asg (.idx (.loc 1) (.idx (.loc 8) (.int 4))) (.loc 5),.expr (.aV (.loc 4) 0 [.idx (.loc 8) (.int 4)])] []],
  .expr (.call 118 [.attr (.loc 6) 20,.loc 1,.loc 7,.loc 3,.loc 4]),
  .ret (.idx (.loc 7) (.int 0))] }
noncomputable def aR:bV:={ np:=5,bG:=9,body:=[
  .asg (.loc 5) (.idx (.loc 0) (.int 0)),
  .ite (.cmp .eq (.loc 5) (.str 24)) [.ret (.comp false (.bin .add (.bin .mod (.blt .int [.bin .shr (.idx (.loc 0) (.int 2)) (.loc 9)]) (.int 2)) (.bin .mul (.int 2) (.bin .mod (.blt .int [.bin .shr (.idx (.loc 0) (.int 3)) (.loc 9)]) (.int 2)))) (.blt .range [.idx (.loc 0) (.int 1)]) .none)] [],
  .ite (.cmp .eq (.loc 5) (.str 25)) [.ret (.blt .list [.idx (.loc 1) (.idx (.loc 0) (.int 2))])] [],
  .ite (.cmp .eq (.loc 5) (.str 26)) [.ret (.blt .list [.idx (.loc 2) (.idx (.loc 0) (.int 2))])] [],
  .ite (.cmp .eq (.loc 5) (.str 36)) [.ret (.call 113 [.loc 0,.loc 1,.loc 2,.loc 3,.loc 4])] [],
  .ite (.cmp .eq (.loc 5) (.str 29)) [.ret (.bin .add (.call 114 [.idx (.loc 0) (.int 2),.loc 1,.loc 2,.loc 3,.loc 4]) (.lst false [.int 0,.int 0]))] [],
  .ite (.cmp .eq (.loc 5) (.str 30)) [.ret (.sliceTo false (.call 114 [.idx (.loc 0) (.int 2),.loc 1,.loc 2,.loc 3,.loc 4]) 2)] [],
  .ite (.cmp .eq (.loc 5) (.str 27)) [.asg (.loc 6) (.call 114 [.idx (.loc 0) (.int 3),.loc 1,.loc 2,.loc 3,.loc 4]),.ret (.call 112 [.idx (.loc 0) (.int 2),.loc 6,.call 114 [.idx (.loc 0) (.int 4),.loc 1,.loc 2,.loc 3,.loc 4]])] [],
  .asg (.loc 7) (.call 110 [.call 114 [.idx (.loc 0) (.int 2),.loc 1,.loc 2,.loc 3,.loc 4]]),
  .ite (.cmp .lt (.loc 7) (.int 2)) [.ret (.call 114 [.ite (.cmp .eq (.loc 7) (.int 1)) (.idx (.loc 0) (.int 3)) (.idx (.loc 0) (.int 4)),.loc 1,.loc 2,.loc 3,.loc 4])] [],
  .asg (.loc 6) (.call 114 [.idx (.loc 0) (.int 3),.loc 1,.loc 2,.loc 3,.loc 4]),
  .asg (.loc 8) (.call 114 [.idx (.loc 0) (.int 4),.loc 1,.loc 2,.loc 3,.loc 4]),
  .ret (.comp false (.ite (.and [.cmp .eq (.idx (.loc 6) (.loc 9)) (.idx (.loc 8) (.loc 9)),.cmp .lt (.idx (.loc 6) (.loc 9)) (.int 2)]) (.idx (.loc 6) (.loc 9)) (.int 3)) (.blt .range [.int 3]) .none)] }
noncomputable def x__law_meets:bV:={ np:=3,bG:=5,body:=[
  .for (.loc 3) (.blt .range [.int 3]) [.asg (.loc 4) (.and [.cmp .eq (.loc 0) (.str 1),.cmp .gt (.blt .max2 [.idx (.loc 1) (.loc 3),.idx (.loc 2) (.loc 3)]) (.int 1)]),.asg (.loc 4) (.or [.loc 4,.and [.cmp .eq (.loc 0) (.str 0),.cmp .isin (.int 2) (.tup [.idx (.loc 1) (.loc 3),.idx (.loc 2) (.loc 3)])]]),.ite (.and [.not (.loc 4),.cmp .ne (.idx (.loc 1) (.loc 3)) (.idx (.loc 2) (.loc 3))]) [.ret (.bool false)] []],
  .ret (.bool true)] }
noncomputable def x__law_set:bV:={ np:=5,bG:=15,body:=[
  .asg (.loc 5) (.call 114 [.idx (.loc 0) (.int 2),.loc 1,.loc 2,.loc 3,.loc 4]),
  .asg (.tup [6,7,8,9,10]) (.idx (.idx (.idx (.loc 0) (.int 1)) (.int 2)) (.int 0)),
  .asg (.loc 11) (.int 0),
  .ite (.cmp .eq (.idx (.loc 10) (.int 0)) (.str 31)) [.asg (.loc 12) (.call 111 [.call 114 [.idx (.loc 10) (.int 1),.loc 1,.loc 2,.loc 3,.loc 4],.idx (.loc 10) (.int 2)]),.asg (.loc 11) (.ite (.cmp .is (.loc 12) (.none)) (.int 9) (.bin .mul (.bin .sub (.loc 12) (.idx (.loc 10) (.int 3))) (.idx (.loc 10) (.int 4))))] [],
  .asg (.loc 13) (.ite (.cmp .eq (.loc 6) (.str 25)) (.idx (.loc 1) (.loc 8)) (.idx (.loc 2) (.loc 8))),
  .asg (.loc 14) (.comp false (.ite (.cmp2 (.int 0) .le (.bin .sub (.loc 15) (.loc 11)) .lt (.int 3)) (.idx (.loc 5) (.bin .sub (.loc 15) (.loc 11))) (.idx (.loc 13) (.loc 15))) (.blt .range [.int 3]) .none),
  .ite (.cmp .eq (.loc 6) (.str 26)) [.asg (.idx (.loc 2) (.loc 8)) (.loc 14)] [.ite (.cmp .ne (.loc 14) (.loc 13)) [.asg (.idx (.loc 1) (.loc 8)) (.loc 14),.expr (.aV (.loc 4) 0 [.loc 8])] []]] }
noncomputable def x__law_picked:bV:={ np:=5,bG:=10,body:=[
  .asg (.loc 5) (.call 114 [.idx (.loc 0) (.int 2),.loc 1,.loc 2,.loc 3,.loc 4]),
  .asg (.loc 6) (.none),
  .for (.tup [7,8]) (.idx (.loc 0) (.int 3)) [.ite (.cmp .is (.loc 7) (.none)) [.asg (.loc 6) (.loc 8),.cont] [],.for (.loc 9) (.loc 7) [.ite (.call 115 [.idx (.loc 0) (.int 1),.loc 5,.call 114 [.loc 9,.loc 1,.loc 2,.loc 3,.loc 4]]) [.ret (.loc 8)] []]],
  .ret (.loc 6)] }
noncomputable def x__law_run:bV:={ np:=5,bG:=10,body:=[
  .ite (.cmp .is (.loc 0) (.none)) [.ret0] [],
  .aug (.idx (.loc 4) (.int 0)) .add (.int 1),
  .asg (.loc 5) (.idx (.loc 0) (.int 0)),
  .ite (.cmp .eq (.loc 5) (.str 40)) [.expr (.call 116 [.loc 0,.loc 1,.loc 2,.loc 3,.loc 4])] [.ite (.cmp .eq (.loc 5) (.str 41)) [.for (.loc 6) (.idx (.loc 0) (.int 1)) [.expr (.call 118 [.loc 6,.loc 1,.loc 2,.loc 3,.loc 4])]] [.ite (.cmp .eq (.loc 5) (.str 39)) [.asg (.loc 7) (.call 110 [.call 114 [.idx (.loc 0) (.int 1),.loc 1,.loc 2,.loc 3,.loc 4]]),.expr (.call 118 [.ite (.cmp .eq (.loc 7) (.int 1)) (.idx (.loc 0) (.int 2)) (.idx (.loc 0) (.int 3)),.loc 1,.loc 2,.loc 3,.loc 4])] [.ite (.cmp .eq (.loc 5) (.str 42)) [.expr (.call 118 [.call 117 [.loc 0,.loc 1,.loc 2,.loc 3,.loc 4],.loc 1,.loc 2,.loc 3,.loc 4])] [.ite (.cmp .eq (.loc 5) (.str 45)) [.asg (.loc 8) (.call 111 [.call 114 [.idx (.loc 0) (.int 1),.loc 1,.loc 2,.loc 3,.loc 4],.idx (.loc 0) (.int 2)]),.for (.loc 9) (.blt .range [.ite (.cmp .is (.loc 8) (.none)) (.int 0) (.loc 8)]) [.aug (.idx (.loc 4) (.int 0)) .add (.int 1),.expr (.call 118 [.idx (.loc 0) (.int 3),.loc 1,.loc 2,.loc 3,.loc 4])]] [.expr (.call 118 [.idx (.loc 0) (.int 1),.loc 1,.loc 2,.loc 3,.loc 4]),.while (.cmp .eq (.call 110 [.call 114 [.idx (.loc 0) (.int 2),.loc 1,.loc 2,.loc 3,.loc 4]]) (.int 1)) [.aug (.idx (.loc 4) (.int 0)) .add (.int 1),.expr (.call 118 [.idx (.loc 0) (.int 4),.loc 1,.loc 2,.loc 3,.loc 4]),.expr (.call 118 [.idx (.loc 0) (.int 3),.loc 1,.loc 2,.loc 3,.loc 4])]]]]]]] }
noncomputable def x__law_vector:bV:={ np:=1,bG:=4,body:=[
  .asg (.loc 1) (.int 0),
  .asg (.loc 2) (.int 0),
  .for (.loc 3) (.blt .range [.int 3]) [.aug (.loc 1) .add (.bin .shl (.bin .mod (.blt .int [.idx (.loc 0) (.loc 3)]) (.int 2)) (.loc 3)),.aug (.loc 2) .add (.bin .shl (.bin .fdiv (.idx (.loc 0) (.loc 3)) (.int 2)) (.loc 3))],
  .ret (.tup [.int 3,.loc 1,.loc 2])] }
noncomputable def x_law1:List XS:=[
  .asg (.loc 1) (.call 100 [.loc 0]),
  .asg (.loc 2) (.lst true []),
  .for (.loc 3) (.blt .range [.int 6]) [.asg (.loc 4) (.cmp .eq (.call 101 [.loc 1,.int 3]) (.int 0)),.expr (.aV (.loc 2) 0 [.comp false (.call 101 [.loc 1,.ite (.loc 4) (.int 4) (.int 2)]) (.blt .range [.int 3]) .none])],
  .asg (.loc 5) (.call 109 [.loc 1]),
  .asg (.loc 6) (.lst true [.int 2,.int 10,.int 4]),
  .asg (.loc 7) (.call 106 [.loc 1,.int 2,.loc 6]),
  .asg (.loc 8) (.tup [.str 41,.tup [.call 107 [],.loc 7,.call 106 [.loc 1,.int 2,.loc 6]],.neg (.int 1)]),
  .asg (.loc 9) (.comp false (.new 6 [.loc 19,.str 57,.str 58,.int 3,.bool false,.int 2,.int 0]) (.blt .range [.int 4]) .none),
  .asg (.loc 10) (.new 3 [.loc 9]),
  .for (.loc 11) (.blt .range [.int 4]) [.expr (.aV (.loc 10) 8 [.loc 11,.none,.int 0,.call 119 [.idx (.loc 2) (.loc 11)]])]]
noncomputable def x_law2:List XS:=[
  .asg (.loc 13) (.new 7 [.int 0,.lst false [],.int 0,.lst false [],.str 59]),
  .asg (.attr (.loc 13) 18) (.loc 12),
  .asg (.loc 14) (.new 5 [.loc 13,.loc 10,.lst true [.call 119 [.idx (.loc 2) (.int 4)],.call 119 [.idx (.loc 2) (.int 5)]],.int 0,.int 5000]),
  .asg (.loc 15) (.call 91 [.loc 8,.loc 14]),
  .asg (.loc 16) (.sliceTo true (.loc 2) 4),
  .asg (.loc 17) (.sliceFrom true (.loc 2) 4),
  .asg (.loc 18) (.lst true [.int 0]),
  .expr (.call 118 [.loc 8,.loc 16,.loc 17,.loc 5,.loc 18]),
  .ite (.or [.cmp .isn (.loc 15) (.none),.cmp .ne (.attr (.loc 14) 16) (.int 0),.cmp .ne (.attr (.loc 14) 15) (.bin .sub (.int 5000) (.idx (.loc 18) (.int 0)))]) [.raise] [],
  .ite (.cmp .ne (.comp false (.aV (.loc 10) 2 [.loc 19]) (.blt .range [.int 4]) .none) (.comp false (.call 119 [.loc 19]) (.loc 16) .none)) [.raise] [],
  .ite (.cmp .ne (.attr (.loc 14) 4) (.comp false (.call 119 [.loc 19]) (.loc 17) .none)) [.raise] [],
  .ret (.cmp .eq (.blt .sorted [.attr (.loc 14) 17]) (.comp false (.loc 19) (.blt .range [.int 4]) (some (.cmp .isin (.loc 19) (.sliceFrom false (.loc 18) 1)))))]
noncomputable def a0 (fs:V):bV:={ np:=1,bG:=2,body:=[.ret (.idx (.loc 1) (.loc 0))],free:=[fs] }
noncomputable def lk {α:Type} (k:Nat):List (Nat×α)→Option α
  | []=>none
  | (a,b) :: t=>bif a.beq k then some b else lk k t
noncomputable def in2 (k a:Nat):List (Nat×Nat)→Bool
  | []=>false
  | (x,y) :: t=>(x.beq k && y.beq a) || in2 k a t
theorem lk_mem {α:Type} {k:Nat} {b:α}:∀ {l:List (Nat×α)},lk k l=some b→(k,b)∈l
  | (a,c) :: t,h=>by
    unfold lk at h
    cases q:a.beq k with
    | true=>rw [q] at h;cases h;rw [Nat.eq_of_beq_eq_true q];exact .head _
    | false=>rw [q] at h;exact .tail _ (lk_mem h)
theorem in2_mem {k a:Nat}:∀ {l:List (Nat×Nat)},in2 k a l=true→(k,a)∈l
  | (x,y) :: t,h=>by
    rcases (Bool.or_eq_true _ _).mp h with h | h
    · obtain ⟨h1,h2⟩:=(Bool.and_eq_true _ _).mp h;rw [Nat.eq_of_beq_eq_true h1,Nat.eq_of_beq_eq_true h2];exact .head _
    · exact .tail _ (in2_mem h)
noncomputable def fnL:List (Nat×bV):=[(2,x_mask),(3,x_vec),(6,x_all_x),(8,x_from_int),(9,x_is_known),(10,x_to_int),(12,x_slice_vec),(13,x_put_slice),(15,x_extend),(16,x_z_to_x),(17,x_truth),(18,x_add),(30,x_ordered),(31,x_less),(35,x_one_bit),(37,x_bit_and),(39,x_bit_xor),(48,x_logic_and),(54,x_matches),(55,x_choose),(57,x_arithmetic),(58,x_comparison),(59,x_bitwise),(60,x_binary),(61,x_whole_of),(64,x_conditional),(67,br),(68,x_locate),(69,x_holder_width),(70,x_resolve_target),(71,x_store_rows),(72,x_Store___init__),(73,x_Store_get),(75,x_Store_set_bits),(76,x_Context___init__),(80,cO),(81,dR),(82,cL),(83,dS),(84,cY),(85,x_run_block),(86,x_run_set),(87,x_run_case),(88,x_run_while),(89,x_run_repeat),(90,x_run_for),(91,dA),(92,x_net_kinds),(93,x_Signal___init__),(94,x_Signal_is_net),(99,x_Thread___init__),(100,x__law_bag),(101,x__law_pull),(102,x__law_constant),(103,bD),(104,x__law_to),(105,x__law_store),(106,cU),(107,x__law_fixed),(108,x__law_function),(109,x__law_functions),(110,x__law_true),(111,dq),(112,x__law_pair),(113,x__law_call),(114,aR),(115,x__law_meets),(116,x__law_set),(117,x__law_picked),(118,x__law_run),(119,x__law_vector)]
noncomputable def fnTab (k:Nat):Option bV:=lk k fnL
noncomputable def methL:List (Nat×Nat×Nat):=[(3,2,73),(3,8,75),(5,5,81),(5,19,82),(5,24,83),(5,23,84),(6,12,94)]
noncomputable def lk2 (k a:Nat):List (Nat×Nat×Nat)→Option Nat
  | []=>none
  | (x,y,f) :: t=>bif x.beq k && y.beq a then some f else lk2 k a t
theorem lk2_mem {k a f:Nat}:∀ {l:List (Nat×Nat×Nat)},lk2 k a l=some f→(k,a,f)∈l
  | (x,y,g) :: t,h=>by
    unfold lk2 at h
    cases q:(x.beq k && y.beq a) with
    | true=>rw [q] at h;cases h;obtain ⟨h1,h2⟩:=(Bool.and_eq_true _ _).mp q;rw [Nat.eq_of_beq_eq_true h1,Nat.eq_of_beq_eq_true h2];exact .head _
    | false=>rw [q] at h;exact .tail _ (lk2_mem h)
noncomputable def methTab (k a:Nat):Option Nat:=lk2 k a methL
noncomputable def initL:List (Nat×Nat):=[(3,72),(4,76),(5,80),(6,93),(7,99)]
noncomputable def initTab (k:Nat):Option Nat:=lk k initL
noncomputable def fldL:List (Nat×Nat):=[(3,6),(3,9),(3,10),(3,11),(5,3),(5,4),(5,13),(5,14),(5,15),(5,16),(5,17),(6,7),(6,25),(6,26),(6,27),(6,28),(6,29),(6,30),(6,31),(6,32),(6,33),(6,34),(6,35),(7,4),(7,18),(7,20),(7,21),(7,22),(7,26),(7,36),(7,37),(7,38),(7,39),(7,40),(7,41),(7,42),(7,43),(7,44),(7,45),(7,46),(7,47)]
noncomputable def fldTab (k a:Nat):Bool:=in2 k a fldL
noncomputable def dynTab (k a:Nat):Bool:=in2 k a [(7,18)]
noncomputable def bE:Tab:={ fn:=fnTab,aV:=methTab,init:=initTab,gl:=fun _=>.int 24,fld:=fldTab,dyn:=dynTab }
noncomputable def tab2 (fs:V):Tab:={ fn:=fun k=>if k=900 then some (a0 fs) else fnTab k,aV:=methTab,init:=initTab,gl:=fun _=>.int 24,fld:=fldTab,dyn:=dynTab }
noncomputable def strTab:List String:=["casez", "casex", "+", "-", "*", "/", "%", "<<", "<<<", ">>", ">>>", "<", "<=", ">", ">=", "==", "!=", "===", "!==", "&", "|", "^", "~^", "&&", "const", "sig", "local", "bin", "un", "ext", "slice", "pick", "word", "cond", "cat", "pow", "call", "at", "input", "if", "set", "block", "case", "for", "while", "repeat", "wire", "tri", "wand", "wor", "tri0", "tri1", "trireg", "supply0", "supply1", "lv", "f", "s", "reg", "design"]
noncomputable def attrTab:List String:=["append", "pop", "get", "store", "frame", "call", "signals", "width", "set_bits", "values", "memories", "random_seed", "is_net", "now", "design", "fuel", "depth", "written", "routine", "new_frame", "body", "slots", "ports", "is_true", "burn", "key", "path", "kind", "signed", "msb", "lsb", "first", "last", "init", "at", "scalar", "number", "code", "pc", "calls", "scopes", "parent", "children", "done", "wait", "stamp", "looking", "again"]
noncomputable def slotTab:List (Nat×List String):=[(2,["w"]),
  (3,["w", "a", "b", "full"]),
  (6,["w", "full"]),
  (8,["w", "n"]),
  (9,["v"]),
  (10,["v", "signed", "w", "a", "b"]),
  (12,["v", "lo", "w", "first", "last", "inner", "shift", "outside", "a", "b"]),
  (13,["v", "lo", "part", "first", "last", "inner", "skip", "keep", "a", "b"]),
  (15,["v", "w", "signed", "fill", "top", "a", "b"]),
  (16,["v"]),
  (17,["v"]),
  (18,["u", "v"]),
  (30,["u", "v", "signed", "m", "n"]),
  (31,["u", "v", "signed", "sign"]),
  (35,["c"]),
  (37,["u", "v", "w", "a", "b", "c", "d", "both"]),
  (39,["u", "v", "b"]),
  (48,["u", "v"]),
  (54,["kind", "u", "v", "free", "care"]),
  (55,["c", "t", "f", "found", "w", "same", "unknown"]),
  (57,["op", "u", "v", "signed"]),
  (58,["op", "u", "v", "signed"]),
  (59,["op", "u", "v"]),
  (60,["op", "u", "v", "signed", "value"]),
  (61,["e", "signed", "ctx"]),
  (64,["e", "ctx", "condition", "known"]),
  (67,["e", "ctx", "tag"]),
  (68,["where", "ctx", "index"]),
  (69,["part", "ctx"]),
  (70,["lv", "ctx", "rows", "take", "part", "kind", "w", "ref", "word", "where", "place", "index", "lo"]),
  (71,["rows", "value", "ctx", "changed", "kind", "ref", "place", "lo", "w", "take", "piece"]),
  (72,["self", "signals"]),
  (73,["self", "key", "value", "signal"]),
  (75,["self", "key", "place", "lo", "value", "old", "new"]),
  (76,["self", "store", "frame", "now"]),
  (80,["self", "design", "store", "frame", "now", "fuel"]),
  (81,["self", "number", "args", "routine", "caller", "value"]),
  (82,["self", "routine", "args", "frame", "at", "direction", "w", "signed", "kind", "ref"]),
  (83,["self"]),
  (84,["self", "e"]),
  (85,["s", "ctx", "inner", "disabled"]),
  (86,["s", "ctx", "value", "key"]),
  (87,["s", "ctx", "value", "default", "labels", "inner", "label"]),
  (88,["condition", "body", "step", "ctx", "disabled"]),
  (89,["s", "ctx", "count", "disabled"]),
  (90,["s", "ctx"]),
  (91,["s", "ctx", "tag"]),
  (92,[]),
  (93,["self", "key", "path", "kind", "width", "signed", "msb", "lsb"]),
  (94,["self"]),
  (99,["self", "number", "code", "pc", "frame", "path"]),
  (100,["script", "bag", "cell"]),
  (101,["bag", "many", "cell", "got"]),
  (102,["bag", "b"]),
  (103,["bag", "depth", "callable_ones", "shop", "pick", "number", "first", "second"]),
  (104,["kind", "ref"]),
  (105,["bag", "shop", "e", "pick", "index", "where"]),
  (106,["bag", "depth", "shop", "pick", "first", "e", "labels", "second", "rows", "turn", "test", "step", "begin"]),
  (107,["one", "both"]),
  (108,["port", "ref", "first", "second", "result", "one"]),
  (109,["bag", "more", "give", "shop", "spot", "first", "second", "result", "drawn"]),
  (110,["row"]),
  (111,["row", "signed", "total", "i"]),
  (112,["op", "first", "second", "both", "a", "b"]),
  (113,["e", "sigs", "frame", "functions", "told", "row", "one", "inner", "port"]),
  (114,["e", "sigs", "frame", "functions", "told", "tag", "first", "known", "second"]),
  (115,["kind", "first", "second", "i", "free"]),
  (116,["s", "sigs", "frame", "functions", "told", "row", "kind", "w", "ref", "word", "where", "lo", "number", "holder", "now"]),
  (117,["s", "sigs", "frame", "functions", "told", "row", "other", "labels", "body", "label"]),
  (118,["s", "sigs", "frame", "functions", "told", "tag", "part", "known", "number", "turn"]),
  (119,["row", "a", "b", "i"])]
end
section
section
variable {T:Tab} {C:aw} {ρ ρ':List V} {σ σ':St} {v:V}
theorem bifT {β:Type} {a b:Option β} {w} (h:(bif true then a else b)=some w):a=some w:=h
theorem noTup {x:V} (h:isTup x=false) (l:List V):x≠.tup l:=fun e=>by subst e;cases h
theorem isNB_ok {x:V} (h:isNB x=true):x=.none∨∃ b,x=.bool b:=by cases x <;> first | (cases h;done) | exact .inl rfl | exact .inr ⟨_,rfl⟩
theorem isNxt_ok {g:Fl} (h:isNxt g=true):g=.aL:=by cases g <;> first | rfl | cases h
theorem onF_ok {fl g:Fl} {ρ ρ':List V} {σ σ':St} {k:Option (Fl×List V×St)} (h:onF fl ρ σ k=some (g,ρ',σ')):(∃ w,fl=.ret w∧g=.ret w∧ρ'=ρ∧σ'=σ)∨((∀ w,fl≠.ret w)∧k=some (g,ρ',σ')):=by
  cases fl with
  | aL=>exact .inr ⟨nofun,h⟩
  | cnt=>exact .inr ⟨nofun,h⟩
  | ret v=>refine someT h ?_;exact .inl (I1A4 v rfl rfl rfl rfl)
theorem i_loc {i} (h:ae T C (.loc i) ρ σ=some (v,σ')):bU ρ i=some v∧σ'=σ:=by
  refine aq (Option.map_eq_some_iff.mp h) fun w hw e=>?_
  clear h;cases e
  exact ⟨hw,rfl⟩
theorem i_bin {o a b} (h:ae T C (.bin o a b) ρ σ=some (v,σ')):∃ x σ1 y,ae T C a ρ σ=some (x,σ1)∧ae T C b ρ σ1=some (y,σ')∧binV o x y=some v:=by
  refine aF h fun x σ1 ea h=>?_;rename_i zz;clear zz
  refine aF h fun y σ2 eb h=>?_;rename_i zz;clear zz
  refine map_el h fun w hw e1 e2=>?_;clear h
  subst e1 e2
  exact I3A3 x σ1 y ea eb hw
theorem i_neg {a} (h:ae T C (.neg a) ρ σ=some (v,σ')):∃ i,ae T C a ρ σ=some (.int i,σ')∧v=.int (-i):=by
  refine aF h fun x σ1 ea h=>?_;rename_i zz;clear zz
  refine aq (onI_ok h) fun i e h=>?_
  refine bx h ?_
  exact aI i (e▸ea) rfl
theorem i_not {a} (h:ae T C (.not a) ρ σ=some (v,σ')):∃ x b,ae T C a ρ σ=some (x,σ')∧truth x=some b∧v=.bool (!b):=by
  refine aF h fun x σ1 ea h=>?_;rename_i zz;clear zz
  refine map_el h fun w hw e1 e2=>?_;clear h
  subst e1 e2
  exact I2A3 x w ea hw rfl
theorem i_ite {t a b} (h:ae T C (.ite t a b) ρ σ=some (v,σ')):∃ x σ1 r,ae T C t ρ σ=some (x,σ1)∧truth x=some r∧ae T C (if r=true then a else b) ρ σ1=some (v,σ'):=by
  refine aF h fun x σ1 ea h=>?_;rename_i zz;clear zz
  refine bo_el h fun r tr h=>?_;rename_i zz;clear zz
  refine I3A3 x σ1 r ea tr ?_
  cases r <;> exact h
theorem j_tup {l} (h:ae T C (.tup l) ρ σ=some (v,σ')):∃ vs,bp T C l ρ σ=some (vs,σ')∧vs.length < 1000∧v=.tup vs:=by
  refine aF h fun x σ1 ea h=>?_;rename_i zz;clear zz
  refine ite_el h fun q h=>?_;rename_i zz;clear zz
  refine bx h ?_
  exact aT x ea q rfl
theorem j_lst {m l} (h:ae T C (.lst m l) ρ σ=some (v,σ')):∃ vs σ1,bp T C l ρ σ=some (vs,σ1)∧newL m vs σ1=some (v,σ'):=by
  refine aF h fun x σ1 ea h=>?_;rename_i zz;clear zz
  exact I2A2 x σ1 ea h
theorem newL_len {m l} (h:newL m l σ=some (v,σ')):l.length < 1000:=(ck h).1
theorem i_elt {elt:XE} {cond:Option XE} {x:V} {r:Option V} (h:eltX T C elt cond ρ x σ=some (r,σ')):∃ b σ1,condX T C cond (ρ++[x]) σ=some (b,σ1)∧((b=true∧∃ w,ae T C elt (ρ++[x]) σ1=some (w,σ')∧r=some w)∨(b=false∧r=.none∧σ'=σ1)):=by
  refine aF h fun b σ1 hc h=>?_;rename_i zz;clear zz
  cases b with
  | true=>
    refine aF (bifT h) fun w σ2 hv h=>?_;rename_i zz;clear zz
    refine bx h ?_
    exact ⟨_,_,hc,.inl ⟨rfl,_,hv,rfl⟩⟩
  | false=>
    refine bx h ?_
    exact I2A2 _ _ hc (.inr ⟨rfl,rfl,rfl⟩)
theorem i_comp {m elt iter cond} (h:ae T C (.comp m elt iter cond) ρ σ=some (v,σ')):∃ src σ1 l σ2,ae T C iter ρ σ=some (src,σ1)∧cP src σ1=true∧compX (eltX T C elt cond ρ) src 64 0 [] σ1=some (l,σ2)∧newL m l σ2=some (v,σ'):=by
  refine aF h fun x σ1 ei h=>?_;rename_i zz;clear zz
  refine ite_el h fun q h=>?_;rename_i zz;clear zz
  refine aF h fun l σ2 ec h=>?_;rename_i zz;clear zz
  exact ⟨x,σ1,l,σ2,ei,q,ec,h⟩
theorem i_cmp {o a b} (h:ae T C (.cmp o a b) ρ σ=some (v,σ')):∃ x σ1 y r,ae T C a ρ σ=some (x,σ1)∧ae T C b ρ σ1=some (y,σ')∧cmpV σ' o x y=some r∧v=.bool r:=by
  refine aF h fun x σ1 ea h=>?_;rename_i zz;clear zz
  refine aF h fun y σ2 eb h=>?_;rename_i zz;clear zz
  refine map_el h fun w hw e1 e2=>?_;clear h
  subst e1 e2
  exact ⟨x,σ1,y,w,ea,eb,hw,rfl⟩
theorem i_cmp2 {a o b o' d} (h:ae T C (.cmp2 a o b o' d) ρ σ=some (v,σ')):∃ x σ1 y σ2 q r,ae T C a ρ σ=some (x,σ1)∧ae T C b ρ σ1=some (y,σ2)∧cmpV σ2 o x y=some q∧v=.bool r∧
    ((q=true∧∃ z,ae T C d ρ σ2=some (z,σ')∧cmpV σ' o' y z=some r)∨(q=false∧r=false∧σ'=σ2)):=by
  refine aF h fun x σ1 ea h=>?_;rename_i zz;clear zz
  refine aF h fun y σ2 eb h=>?_;rename_i zz;clear zz
  refine bo_el h fun q eq h=>?_;rename_i zz;clear zz
  cases q with
  | true=>
    refine aF (bifT h) fun z σ3 ed h=>?_;rename_i zz;clear zz
    refine map_el h fun w hw e1 e2=>?_;clear h
    subst e1 e2
    exact ⟨x,σ1,y,σ2,true,w,ea,eb,eq,rfl,.inl ⟨rfl,z,ed,hw⟩⟩
  | false=>
    refine bx h ?_
    exact ⟨x,σ1,y,_,false,false,ea,eb,eq,rfl,.inr ⟨rfl,rfl,rfl⟩⟩
theorem i_call {k l} (h:ae T C (.call k l) ρ σ=some (v,σ')):∃ vs σ1,bp T C l ρ σ=some (vs,σ1)∧C k vs σ1=some (v,σ'):=bnd_ok h
theorem i_blt {b l} (h:ae T C (.blt b l) ρ σ=some (v,σ')):∃ vs σ1,bp T C l ρ σ=some (vs,σ1)∧bltV b vs σ1=some (v,σ'):=bnd_ok h
theorem i_new {c l} (h:ae T C (.new c l) ρ σ=some (v,σ')):∃ vs σ1 i,bp T C l ρ σ=some (vs,σ1)∧T.init c=some i∧C i (.obj σ1.length :: vs) (σ1++[.inst c []])=some (.none,σ')∧v=.obj σ1.length:=by
  refine aF h fun x σ1 ea h=>?_;rename_i zz;clear zz
  refine bo_el h fun i hi h=>?_;rename_i zz;clear zz
  refine aF h fun r σ2 hc h=>?_;rename_i zz;clear zz
  refine aY (onN_ok h) fun e h=>?_
  refine bx h ?_
  exact I3A4 x σ1 i ea hi (e▸hc) rfl
theorem i_meth {o a l} (h:ae T C (.aV o a l) ρ σ=some (v,σ')):∃ x σ1 f vs σ2,ae T C o ρ σ=some (x,σ1)∧dB T σ1 x a=some f∧bp T C l ρ σ1=some (vs,σ2)∧callF C f a vs σ2=some (v,σ'):=by
  refine aF h fun x σ1 ea h=>?_;rename_i zz;clear zz
  refine bo_el h fun f hf h=>?_;rename_i zz;clear zz
  refine aF h fun vs σ2 el h=>?_;rename_i zz;clear zz
  exact ⟨x,σ1,f,vs,σ2,ea,hf,el,h⟩
theorem i_attr {o a} (h:ae T C (.attr o a) ρ σ=some (v,σ')):∃ x,ae T C o ρ σ=some (x,σ')∧getA T σ' x a=some v:=by
  refine aF h fun x σ1 ea h=>?_;rename_i zz;clear zz
  refine map_el h fun w hw e1 e2=>?_;clear h
  subst e1 e2
  exact aI x ea hw
theorem i_idx {o i} (h:ae T C (.idx o i) ρ σ=some (v,σ')):∃ x σ1 y,ae T C o ρ σ=some (x,σ1)∧ae T C i ρ σ1=some (y,σ')∧getI σ' x y=some v:=by
  refine aF h fun x σ1 ea h=>?_;rename_i zz;clear zz
  refine aF h fun y σ2 eb h=>?_;rename_i zz;clear zz
  refine map_el h fun w hw e1 e2=>?_;clear h
  subst e1 e2
  exact I3A3 x σ1 y ea eb hw
theorem i_sliceTo {m o j} (h:ae T C (.sliceTo m o j) ρ σ=some (v,σ')):∃ x σ1 l,(∀ l,x≠.tup l)∧ae T C o ρ σ=some (x,σ1)∧bk σ1 x=some l∧l.length < 1000∧newL m (l.take j) σ1=some (v,σ'):=by
  refine aF h fun x σ1 ea h=>?_;rename_i zz;clear zz
  refine ite_el h fun t h=>?_;rename_i zz;clear zz
  refine bo_el h fun l hl h=>?_;rename_i zz;clear zz
  refine ite_el h fun q h=>?_;rename_i zz;clear zz
  exact I3A5 x σ1 l (noTup t) ea hl q h
theorem i_sliceFrom {m o j} (h:ae T C (.sliceFrom m o j) ρ σ=some (v,σ')):(∃ l,ae T C o ρ σ=some (.tup l,σ')∧1≤j∧j≤l.length∧l.length < 1000∧v=.tup (l.drop j))∨
    ∃ x σ1 l,(∀ l,x≠.tup l)∧ae T C o ρ σ=some (x,σ1)∧bk σ1 x=some l∧l.length < 1000∧newL m (l.drop j) σ1=some (v,σ'):=by
  refine aF h fun x σ1 ea h=>?_;rename_i zz;clear zz
  cases t:isTup x with
  | true=>
    rw [t] at h
    refine aq (onT_ok h) fun l e h=>?_
    refine ite_el h fun q h=>?_;rename_i zz;clear zz
    refine bx h ?_
    exact .inl ⟨l,e▸ea,q.2.1,q.2.2.1,q.2.2.2,rfl⟩
  | false=>
    rw [t] at h
    refine bo_el h fun l hl h=>?_;rename_i zz;clear zz
    refine ite_el h fun q h=>?_;rename_i zz;clear zz
    exact .inr (I3A5 x σ1 l (noTup t) ea hl q h)
theorem i_cons {x:XE} {l:List XE} {vs:List V} (h:bp T C (x :: l) ρ σ=some (vs,σ')):∃ w σ1 ws,ae T C x ρ σ=some (w,σ1)∧bp T C l ρ σ1=some (ws,σ')∧vs=w :: ws:=by
  refine aF h fun x σ1 ea h=>?_;rename_i zz;clear zz
  refine aF h fun y σ2 eb h=>?_;rename_i zz;clear zz
  refine bx h ?_
  exact I3A3 x σ1 y ea eb rfl
theorem i_one {x:XE} {r:V×St} (h:(cK (ae T C x ρ σ) fun v σ=>some (v,σ))=some r):ae T C x ρ σ=some r:=by
  cases q:ae T C x ρ σ with
  | none=>replace h:=q▸h;cases h
  | some p=>replace h:=q▸h;exact h
theorem i_and {x y:XE} {l:List XE} (h:andX T C (x :: y :: l) ρ σ=some (v,σ')):∃ w σ1 r,ae T C x ρ σ=some (w,σ1)∧truth w=some r∧((r=true∧andX T C (y :: l) ρ σ1=some (v,σ'))∨(r=false∧v=w∧σ'=σ1)):=by
  refine aF h fun w σ1 ex h=>?_;rename_i zz;clear zz
  refine bo_el h fun r tr h=>?_;rename_i zz;clear zz
  cases r with
  | true=>
    exact ⟨w,σ1,true,ex,tr,.inl ⟨rfl,h⟩⟩
  | false=>
    refine bx h ?_
    exact I3A3 _ _ false ex tr (.inr ⟨rfl,rfl,rfl⟩)
theorem i_or {x y:XE} {l:List XE} (h:orX T C (x :: y :: l) ρ σ=some (v,σ')):∃ w σ1 r,ae T C x ρ σ=some (w,σ1)∧truth w=some r∧((r=true∧v=w∧σ'=σ1)∨(r=false∧orX T C (y :: l) ρ σ1=some (v,σ'))):=by
  refine aF h fun w σ1 ex h=>?_;rename_i zz;clear zz
  refine bo_el h fun r tr h=>?_;rename_i zz;clear zz
  cases r with
  | true=>
    refine bx h ?_
    exact ⟨_,_,true,ex,tr,.inl ⟨rfl,rfl,rfl⟩⟩
  | false=>
    exact I3A3 w σ1 false ex tr (.inr ⟨rfl,h⟩)
theorem i_cond {x:XE} {b:Bool} (h:condX T C (some x) ρ σ=some (b,σ')):∃ w,ae T C x ρ σ=some (w,σ')∧truth w=some b:=by
  replace h:=x_cond.symm.trans h
  refine aF h fun w σ1 ew h=>?_;rename_i zz;clear zz
  refine map_el h fun r hr e1 e2=>?_;clear h
  subst e1 e2
  exact aI w ew hr
theorem i_compX {elt:V→St→Option (Option V×St)} {src:V} {f i:Nat} {acc l:List V} (h:compX elt src (f+1) i acc σ=some (l,σ')):∃ o,a9 src i σ=some o∧
    match o with
    | .none=>l=acc∧σ'=σ
    | some x=>∃ r σ1,elt x σ=some (r,σ1)∧(match r with
      | some w=>acc.length < 1000∧compX elt src f (i+1) (acc++[w]) σ1=some (l,σ')
      | .none=>compX elt src f (i+1) acc σ1=some (l,σ')):=by
  refine bo_el h fun o hn h=>?_;rename_i zz;clear zz
  cases o with
  | none=>
    refine bx h ?_
    exact ⟨_,hn,rfl,rfl⟩
  | some x=>
    refine aF h fun r σ1 he h=>?_;rename_i zz;clear zz
    cases r with
    | none=>
      exact ⟨_,hn,_,_,he,h⟩
    | some w=>
      exact ⟨_,hn,_,_,he,ck h⟩
variable {fl:Fl}
theorem i_asgL {i} (h:asgX T C (.loc i) v ρ σ=some (ρ',σ')):i < ρ.length∧ρ'=ρ.set i v∧σ'=σ:=by
  refine aY (ck h) fun q h=>?_
  refine bx h ?_
  exact ⟨q,rfl,rfl⟩
theorem i_asgT {is} (h:asgX T C (.tup is) v ρ σ=some (ρ',σ')):∃ l,v=.tup l∧l.length=is.length∧ρ'=setSlots ρ is l∧σ'=σ:=by
  replace h:=x_asgT.symm.trans h
  refine aq (onT_ok h) fun l e h=>?_
  refine ite_el h fun q h=>?_;rename_i zz;clear zz
  refine bx h ?_
  exact I1A4 l e q.1 rfl rfl
theorem i_asgA {o a} (h:asgX T C (.attr o a) v ρ σ=some (ρ',σ')):∃ x σ1,ae T C o ρ σ=some (x,σ1)∧setA T σ1 x a v=some σ'∧ρ'=ρ:=by
  replace h:=x_asgA.symm.trans h
  refine aF h fun x σ1 ea h=>?_;rename_i zz;clear zz
  refine map_el h fun w hw e1 e2=>?_;clear h
  subst e1 e2
  exact I2A3 x σ1 ea hw rfl
theorem i_asgI {o i} (h:asgX T C (.idx o i) v ρ σ=some (ρ',σ')):∃ x σ1 y σ2,ae T C o ρ σ=some (x,σ1)∧ae T C i ρ σ1=some (y,σ2)∧setI σ2 x y v=some σ'∧ρ'=ρ:=by
  replace h:=x_asgI.symm.trans h
  refine aF h fun x σ1 ea h=>?_;rename_i zz;clear zz
  refine aF h fun y σ2 eb h=>?_;rename_i zz;clear zz
  refine map_el h fun w hw e1 e2=>?_;clear h
  subst e1 e2
  exact ⟨x,σ1,y,σ2,ea,eb,hw,rfl⟩
theorem i_augL {i o e} (h:bP T C (.aug (.loc i) o e) ρ σ=some (fl,ρ',σ')):fl=.aL∧∃ x y w,bU ρ i=some x∧ae T C e ρ σ=some (y,σ')∧augV o x y=some w∧ρ'=ρ.set i w:=by
  replace h:=x_aug.symm.trans h
  refine aF h fun ρ1 σ1 hh h=>?_;rename_i zz;clear zz
  refine someT h ?_
  refine bo_el (x_augL.symm.trans hh) fun x hx h=>?_;clear hh
  refine aF h fun y σ2 ey h=>?_;rename_i zz;clear zz
  refine map_el h fun w hw e1 e2=>?_;clear h
  subst e1 e2
  exact ⟨rfl,x,y,w,hx,ey,hw,rfl⟩
theorem i_augA {ob a o e} (h:bP T C (.aug (.attr ob a) o e) ρ σ=some (fl,ρ',σ')):fl=.aL∧∃ x σ1 old y σ2 w,ae T C ob ρ σ=some (x,σ1)∧getA T σ1 x a=some old∧ae T C e ρ σ1=some (y,σ2)∧augV o old y=some w∧setA T σ2 x a w=some σ'∧ρ'=ρ:=by
  replace h:=x_aug.symm.trans h
  refine aF h fun ρ1 σ1 hh h=>?_;rename_i zz;clear zz
  refine someT h ?_
  refine aF (x_augA.symm.trans hh) fun x σ1 eo h=>?_;clear hh
  refine bo_el h fun old hg h=>?_;rename_i zz;clear zz
  refine aF h fun y σ2 ey h=>?_;rename_i zz;clear zz
  refine bo_el h fun w hv h=>?_;rename_i zz;clear zz
  refine map_el h fun s hw e1 e2=>?_;clear h
  subst e1 e2
  exact ⟨rfl,x,σ1,old,y,σ2,w,eo,hg,ey,hv,hw,rfl⟩
theorem i_augI {ob i o e} (h:bP T C (.aug (.idx ob i) o e) ρ σ=some (fl,ρ',σ')):fl=.aL∧∃ x σ1 k σ2 old y σ3 w,ae T C ob ρ σ=some (x,σ1)∧ae T C i ρ σ1=some (k,σ2)∧getI σ2 x k=some old∧ae T C e ρ σ2=some (y,σ3)∧augV o old y=some w∧setI σ3 x k w=some σ'∧ρ'=ρ:=by
  replace h:=x_aug.symm.trans h
  refine aF h fun ρ1 σ1 hh h=>?_;rename_i zz;clear zz
  refine someT h ?_
  refine aF (x_augI.symm.trans hh) fun x σ1 eo h=>?_;clear hh
  refine aF h fun k σ2 ei h=>?_;rename_i zz;clear zz
  refine bo_el h fun old hg h=>?_;rename_i zz;clear zz
  refine aF h fun y σ3 ey h=>?_;rename_i zz;clear zz
  refine bo_el h fun w hv h=>?_;rename_i zz;clear zz
  refine map_el h fun s hw e1 e2=>?_;clear h
  subst e1 e2
  exact ⟨rfl,x,σ1,k,σ2,old,y,σ3,w,eo,ei,hg,ey,hv,hw,rfl⟩
theorem i_asg {t e} (h:bP T C (.asg t e) ρ σ=some (fl,ρ',σ')):fl=.aL∧∃ x σ1,ae T C e ρ σ=some (x,σ1)∧asgX T C t x ρ σ1=some (ρ',σ'):=by
  replace h:=x_asg.symm.trans h
  refine aF h fun x σ1 ev h=>?_;rename_i zz;clear zz
  refine aF h fun ρ1 σ2 ea h=>?_;rename_i zz;clear zz
  refine bx h ?_
  exact ⟨rfl,x,σ1,ev,ea⟩
theorem i_ret {e} (h:bP T C (.ret e) ρ σ=some (fl,ρ',σ')):∃ x,fl=.ret x∧ae T C e ρ σ=some (x,σ')∧ρ'=ρ:=by
  replace h:=x_ret.symm.trans h
  refine aF h fun x σ1 ev h=>?_;rename_i zz;clear zz
  refine someT h ?_
  exact aT x rfl ev rfl
theorem i_expr {e} (h:bP T C (.expr e) ρ σ=some (fl,ρ',σ')):fl=.aL∧∃ x,ae T C e ρ σ=some (x,σ')∧ρ'=ρ∧(x=.none∨∃ b,x=.bool b):=by
  replace h:=x_expr.symm.trans h
  refine aF h fun x σ1 ev h=>?_;rename_i zz;clear zz
  refine ite_el h fun q h=>?_;rename_i zz;clear zz
  refine someT h ?_
  exact ⟨rfl,x,ev,rfl,isNB_ok q⟩
theorem i_sIte {t a b} (h:bP T C (.ite t a b) ρ σ=some (fl,ρ',σ')):∃ x σ1 r,ae T C t ρ σ=some (x,σ1)∧truth x=some r∧aE T C (if r=true then a else b) ρ σ1=some (fl,ρ',σ'):=by
  replace h:=x_ite.symm.trans h
  refine aF h fun x σ1 ea h=>?_;rename_i zz;clear zz
  refine bo_el h fun r tr h=>?_;rename_i zz;clear zz
  refine I3A3 x σ1 r ea tr ?_
  clear tr ea x;cases r <;> exact h
theorem i_while {test:List V→St→Option (V×St)} {body:List V→St→Option (Fl×List V×St)} {f:Nat} (h:whileX test body (f+1) ρ σ=some (fl,ρ',σ')):∃ x σ1 r,test ρ σ=some (x,σ1)∧truth x=some r∧
    ((r=false∧fl=.aL∧ρ'=ρ∧σ'=σ1)∨(r=true∧∃ g ρ2 σ2,body ρ σ1=some (g,ρ2,σ2)∧((∃ w,g=.ret w∧fl=.ret w∧ρ'=ρ2∧σ'=σ2)∨((∀ w,g≠.ret w)∧whileX test body f ρ2 σ2=some (fl,ρ',σ'))))):=by
  refine aF h fun x σ1 ev h=>?_;rename_i zz;clear zz
  refine bo_el h fun r tr h=>?_;rename_i zz;clear zz
  cases r with
  | true=>
    refine bn3_el (bifT h) fun g ρ2 σ2 eb h=>?_;rename_i zz;clear zz
    exact ⟨x,σ1,true,ev,tr,.inr ⟨rfl,g,ρ2,σ2,eb,onF_ok h⟩⟩
  | false=>
    refine someT h ?_
    exact I3A3 x _ false ev tr (.inl ⟨rfl,rfl,rfl,rfl⟩)
theorem i_loop {turn:V→List V→St→Option (Fl×List V×St)} {src:V} {f i:Nat} (h:loopX turn src (f+1) i ρ σ=some (fl,ρ',σ')):∃ o,a9 src i σ=some o∧
    match o with
    | .none=>fl=.aL∧ρ'=ρ∧σ'=σ
    | some x=>∃ g ρ2 σ2,turn x ρ σ=some (g,ρ2,σ2)∧((∃ w,g=.ret w∧fl=.ret w∧ρ'=ρ2∧σ'=σ2)∨((∀ w,g≠.ret w)∧loopX turn src f (i+1) ρ2 σ2=some (fl,ρ',σ'))):=by
  refine bo_el h fun o hn h=>?_;rename_i zz;clear zz
  cases o with
  | none=>
    refine someT h ?_
    exact ⟨_,hn,rfl,rfl,rfl⟩
  | some x=>
    refine bn3_el h fun g ρ2 σ2 eb h=>?_;rename_i zz;clear zz
    exact ⟨_,hn,g,ρ2,σ2,eb,onF_ok h⟩
theorem i_turn {t b} (h:turnX T C t b v ρ σ=some (fl,ρ',σ')):∃ ρ1 σ1,asgX T C t v ρ σ=some (ρ1,σ1)∧aE T C b ρ1 σ1=some (fl,ρ',σ'):=bnd_ok h
theorem i_for {t it b} (h:bP T C (.for t it b) ρ σ=some (fl,ρ',σ')):∃ src σ1,ae T C it ρ σ=some (src,σ1)∧cP src σ1=true∧loopX (turnX T C t b) src 64 0 ρ σ1=some (fl,ρ',σ'):=by
  replace h:=x_for.symm.trans h
  refine aF h fun x σ1 ei h=>?_;rename_i zz;clear zz
  refine ite_el h fun q h=>?_;rename_i zz;clear zz
  exact I2A3 x σ1 ei q h
theorem i_try {b f} (h:bP T C (.tryf b f) ρ σ=some (fl,ρ',σ')):∃ ρ1 σ1,aE T C b ρ σ=some (fl,ρ1,σ1)∧aE T C f ρ1 σ1=some (.aL,ρ',σ'):=by
  replace h:=x_try.symm.trans h
  refine bn3_el h fun g ρ1 σ1 eb h=>?_;rename_i zz;clear zz
  refine bn3_el h fun g2 ρ2 σ2 ef h=>?_;rename_i zz;clear zz
  refine ite_el h fun q h=>?_;rename_i zz;clear zz
  refine bx h ?_
  exact I2A2 ρ1 σ1 eb (isNxt_ok q▸ef)
theorem i_seq {x l} (h:aE T C (x :: l) ρ σ=some (fl,ρ',σ')):∃ g ρ1 σ1,bP T C x ρ σ=some (g,ρ1,σ1)∧((g=.aL∧aE T C l ρ1 σ1=some (fl,ρ',σ'))∨(g≠.aL∧fl=g∧ρ'=ρ1∧σ'=σ1)):=by
  replace h:=x_seq.symm.trans h
  refine bn3_el h fun g ρ1 σ1 hx h=>?_;rename_i zz;clear zz
  cases g with
  | aL=>
    exact ⟨_,_,_,hx,.inl ⟨rfl,h⟩⟩
  | cnt=>
    refine someT h ?_
    exact ⟨_,_,_,hx,.inr ⟨nofun,rfl,rfl,rfl⟩⟩
  | ret v=>
    refine someT h ?_
    exact I3A2 _ _ _ hx (.inr ⟨nofun,rfl,rfl,rfl⟩)
end
end
section
open PySem PySem.W PyProof.Rows
noncomputable def strOf (i:Nat):PySem.Str:=PySem.Str.ofString (strTab.getD i "")
noncomputable def aH (i:Nat):PySem.Str:=PySem.Str.ofString (attrTab.getD i "")
structure Mu where
  l:List (Addr×Addr)
  z:List Addr
noncomputable def aM (μ:Mu):List Addr:=μ.l.map (·.2)++μ.z
noncomputable def chg (μ:Mu):List Addr:=μ.l.map (·.2)
theorem cJ {μ:Mu} {a:Addr} (h:a∉aM μ):a∉chg μ:=fun hm=>h (List.mem_append.mpr (.inl hm))
theorem z_of {μ:Mu} {a:Addr} (h:a∉aM μ):a∉μ.z:=fun hm=>h (List.mem_append.mpr (.inr hm))
noncomputable abbrev lstO (vs:List Value) (e:Nat):Obj:={ cls:=.type "list",data:=.seq vs.toArray e }
noncomputable abbrev tupO (vs:List Value) (e:Nat):Obj:={ cls:=.type "tuple",data:=.seq vs.toArray e }
mutual
inductive Rep (fa:Nat→Option Addr) (h:Heap) (μ:Mu):Value→V→Prop where
  | none:Rep fa h μ .none .none
  | bool (b):Rep fa h μ (.bool b) (.bool b)
  | int (i t):Rep fa h μ (.int i t) (.int i)
  | str (s t):Rep fa h μ (.str (strOf s) t) (.str s)
  | tup {a vs e l}:h.get? a=some (tupO vs e)→a∉aM μ→aG fa h μ vs l→Rep fa h μ (.ref a) (.tup l)
  | lst {a vs e l}:h.get? a=some (lstO vs e)→a∉aM μ→aG fa h μ vs l→Rep fa h μ (.ref a) (.lst l)
  | obj {n p}:μ.l[n]?=some p→Rep fa h μ (.ref p.1) (.obj n)
  | fn {k a}:fa k=some a→Rep fa h μ (.ref a) (.fn k)
  | rng {a n t u v}:IsRange h a 0 n 1 t u v→a∉aM μ→Rep fa h μ (.ref a) (.rng n)
inductive aG (fa:Nat→Option Addr) (h:Heap) (μ:Mu):List Value→List V→Prop where
  | nil:aG fa h μ [] []
  | cons {v V vs l}:Rep fa h μ v V→aG fa h μ vs l→aG fa h μ (v :: vs) (V :: l)
end
section
variable {fa:Nat→Option Addr} {h:Heap} {μ:Mu} {u:Value}
noncomputable def RepI (fa:Nat→Option Addr) (h:Heap) (μ:Mu) (u:Value):V→Prop
  | .ai=>False
  | .none=>u=.none
  | .bool b=>u=.bool b
  | .int i=>∃ t,u=.int i t
  | .str i=>∃ t,u=.str (strOf i) t
  | .tup l=>∃ a vs e,u=.ref a∧h.get? a=some (tupO vs e)∧a∉aM μ∧aG fa h μ vs l
  | .lst l=>∃ a vs e,u=.ref a∧h.get? a=some (lstO vs e)∧a∉aM μ∧aG fa h μ vs l
  | .obj n=>∃ p,u=.ref p.1∧μ.l[n]?=some p
  | .fn n=>∃ a,u=.ref a∧fa n=some a
  | .rng n=>∃ a t x v,u=.ref a∧IsRange h a 0 n 1 t x v∧a∉aM μ
theorem Rep.inv {x:V} (r:Rep fa h μ u x):RepI fa h μ u x:=by
  cases r with
  | none=>exact rfl
  | bool b=>exact rfl
  | int i t=>exact ⟨t,rfl⟩
  | str i t=>exact ⟨t,rfl⟩
  | tup h1 h2 h3=>exact ⟨_,_,_,rfl,h1,h2,h3⟩
  | lst h1 h2 h3=>exact ⟨_,_,_,rfl,h1,h2,h3⟩
  | obj h1=>exact ⟨_,rfl,h1⟩
  | fn h1=>exact ⟨_,rfl,h1⟩
  | rng h1 h2=>exact ⟨_,_,_,_,rfl,h1,h2⟩
theorem Rep.noneI (r:Rep fa h μ u .none):u=.none:=r.inv
theorem Rep.boolI {b} (r:Rep fa h μ u (.bool b)):u=.bool b:=r.inv
theorem Rep.intI {i:Int} (r:Rep fa h μ u (.int i)):∃ t,u=.int i t:=r.inv
theorem Rep.strI {i:Nat} (r:Rep fa h μ u (.str i)):∃ t,u=.str (strOf i) t:=r.inv
theorem Rep.tupI {l:List V} (r:Rep fa h μ u (.tup l)):∃ a vs e,u=.ref a∧h.get? a=some (tupO vs e)∧a∉aM μ∧aG fa h μ vs l:=r.inv
theorem Rep.lstI {l:List V} (r:Rep fa h μ u (.lst l)):∃ a vs e,u=.ref a∧h.get? a=some (lstO vs e)∧a∉aM μ∧aG fa h μ vs l:=r.inv
theorem Rep.objI {n:Nat} (r:Rep fa h μ u (.obj n)):∃ p,u=.ref p.1∧μ.l[n]?=some p:=r.inv
theorem aG.one {us:List Value} {x:V} (r:aG fa h μ us [x]):∃ u,us=[u]∧Rep fa h μ u x:=by
  cases r with
  | cons a b=>cases b;exact aI _ rfl a
theorem aG.two {us:List Value} {x y:V} (r:aG fa h μ us [x,y]):∃ u v,us=[u,v]∧Rep fa h μ u x∧Rep fa h μ v y:=by
  cases r with
  | cons a b=>obtain ⟨v,e,r2⟩:=b.one;clear b;subst e;exact I2A3 _ _ rfl a r2
end
structure Ext (X:List Addr) (h:Heap) (μ:Mu) (h':Heap) (μ':Mu):Prop where
  keep:∀ a o,h.get? a=some o→a∉chg μ→a∉X→h'.get? a=some o
  alive:∀ a o,h.get? a=some o→∃ o',h'.get? a=some o'
  grow:∃ (ν:List (Addr×Addr)) (ζ:List Addr),μ'=⟨μ.l++ν,ζ++μ.z⟩∧(∀ p∈ν,h.get? p.2=Option.none∧100≤p.2)∧(∀ a∈ζ,h.get? a=Option.none∧100≤a)
theorem Ext.refl (X:List Addr) (h:Heap) (μ:Mu):Ext X h μ h μ:=⟨fun zz zz e zz zz=>e,fun zz o e=>⟨o,e⟩,[],[],by simp,⟨(fun zz h=>nomatch h),(fun zz h=>nomatch h)⟩⟩
theorem Ext.notin {X:List Addr} {h h':Heap} {μ μ':Mu} (x:Ext X h μ h' μ') {a:Addr} {o:Obj} (e:h.get? a=some o) (ha:a∉aM μ):a∉aM μ':=by
  refine E2A3 x.grow fun ν ζ zq2 hν hζ=>?_
  clear x h' X;subst zq2
  intro hm
  simp only [aM,List.map_append,List.mem_append] at hm ha
  rcases hm with (hm | hm) | (hm | hm)
  · exact ha (.inl hm)
  · refine aq (List.mem_map.mp hm) fun p hp zq2=>?_
    clear ha μ hm hζ ζ;subst zq2
    replace e:=((hν p hp).1)▸e;clear hp p hν ν;cases e
  · replace e:=((hζ a hm).1)▸e;clear ha μ hm hζ hν ζ ν;cases e
  · exact ha (.inr hm)
theorem Ext.notchg {X:List Addr} {h h':Heap} {μ μ':Mu} (x:Ext X h μ h' μ') {a:Addr} {o:Obj} (e:h.get? a=some o) (ha:a∉chg μ):a∉chg μ':=by
  refine E2A3 x.grow fun ν ζ zq2 hν hζ=>?_
  clear x h' X hζ;subst zq2
  intro hm
  simp only [chg,List.map_append,List.mem_append] at hm ha
  clear ζ;rcases hm with hm | hm
  · exact ha hm
  · refine aq (List.mem_map.mp hm) fun p hp zq2=>?_
    clear ha μ hm;subst zq2
    replace e:=((hν p hp).1)▸e;clear hp p hν ν;cases e
theorem Ext.nth {X:List Addr} {h h':Heap} {μ μ':Mu} (x:Ext X h μ h' μ') {n:Nat} {p:Addr×Addr} (e:μ.l[n]?=some p):μ'.l[n]?=some p:=by
  refine dP x.grow fun ν ζ zq2 zz=>?_
  clear x h' X zz;subst zq2
  dsimp only
  refine ag (List.getElem?_append_left (List.getElem?_eq_some_iff.mp e).1) ?_;exact e
theorem Ext.zin {X:List Addr} {h h':Heap} {μ μ':Mu} (x:Ext X h μ h' μ') {a:Addr} (e:a∈μ.z):a∈μ'.z:=by
  refine dP x.grow fun ν ζ zq2 zz=>?_
  clear x h' X zz;subst zq2
  exact List.mem_append.mpr (.inr e)
theorem Ext.trans {X:List Addr} {h₁ h₂ h₃:Heap} {μ₁ μ₂ μ₃:Mu} (x:Ext X h₁ μ₁ h₂ μ₂) (y:Ext X h₂ μ₂ h₃ μ₃):Ext X h₁ μ₁ h₃ μ₃:=by
  refine ⟨fun a o e ha hx=>y.keep a o (x.keep a o e ha hx) (x.notchg e ha) hx,fun a o e=>(x.alive a o e).elim fun o' e'=>y.alive a o' e',?_⟩
  refine E2A3 x.grow fun ν ζ zq2 hν hζ=>?_
  subst zq2
  refine E2A3 y.grow fun ν' ζ' zq2 hν' hζ'=>?_
  clear y h₃;subst zq2
  have back:∀ a,h₂.get? a=Option.none→h₁.get? a=Option.none:=fun a e=>by
    clear hζ' hν' ζ' ν' hζ hν;cases q:h₁.get? a with
    | none=>rfl
    | some o=>obtain ⟨o',e'⟩:=x.alive _ o q;replace e':=e▸e';clear x μ₁ X ζ ν e;cases e'
  refine I2A3 (ν++ν') (ζ'++ζ) (by simp [List.append_assoc]) (fun p hp=>?_) (fun a ha=>?_)
  · clear x μ₁ X hζ' ζ' hζ ζ;rcases List.mem_append.mp hp with hp | hp
    · exact hν p hp
    · exact ⟨back _ (hν' p hp).1,(hν' p hp).2⟩
  · clear x μ₁ X hν' ν' hν ν;rcases List.mem_append.mp ha with ha | ha
    · exact ⟨back _ (hζ' a ha).1,(hζ' a ha).2⟩
    · exact hζ a ha
theorem Ext.weaken {X Y:List Addr} {h h':Heap} {μ μ':Mu} (x:Ext X h μ h' μ') (hXY:∀ a∈X,a∈Y):Ext Y h μ h' μ':=
  ⟨fun a o e ha hy=>x.keep a o e ha fun hx=>hy (hXY a hx),x.alive,x.grow⟩
theorem Ext.fresh {X Y:List Addr} {h h':Heap} {μ μ':Mu} (x:Ext Y h μ h' μ') (hf:∀ a∈Y,a∈X∨h.get? a=Option.none):Ext X h μ h' μ':=
  ⟨fun a o e ha hx=>x.keep a o e ha fun hm=>(hf a hm).elim hx (fun hm=>by replace e:=hm▸e;cases e),x.alive,x.grow⟩
theorem aJ (h:Heap) {a:Addr} (ha:h.objs.size≤a):h.get? a=Option.none:=by
  cases e:h.get? a with
  | none=>rfl
  | some o=>exact absurd (Heap.lt_size e) (Nat.not_lt.mpr ha)
theorem Ext.stay {X:List Addr} {h h':Heap} {μ:Mu} (k:∀ a o,h.get? a=some o→a∉chg μ→a∉X→h'.get? a=some o) (al:∀ a o,h.get? a=some o→∃ o',h'.get? a=some o'):Ext X h μ h' μ:=
  ⟨k,al,[],[],by simp,⟨(fun zz h=>nomatch h),(fun zz h=>nomatch h)⟩⟩
theorem Ext.keeps {h h':Heap} {μ:Mu} (hk:∀ b o,h.get? b=some o→h'.get? b=some o):Ext [] h μ h' μ:=
  .stay (fun a o e zz zz=>hk a o e) fun a o e=>⟨o,hk a o e⟩
theorem Ext.push {h:Heap} {μ:Mu} (o:Obj):Ext [] h μ (h.push o) μ:=.keeps fun zz zz e=>Heap.get?_push_of_some _ e
theorem Ext.same {X:List Addr} {h h':Heap} {μ:Mu} {a:Addr} {o':Obj} (hs:Heap.SameBut a h h') (ha:a∈chg μ∨a∈X) (hl:h'.get? a=some o'):Ext X h μ h' μ:=
  .stay (fun b o e hb hx=>(hs.2 b (fun z=>by subst z;exact ha.elim hb hx)).trans e) fun b o e=>by
    by_cases z:b=a
    · clear ha hs μ X e o;subst z;exact ⟨_,hl⟩
    · exact ⟨o,(hs.2 b z).trans e⟩
noncomputable def XOk (X:List Addr) (h:Heap) (μ:Mu):Prop:=∀ a∈X,a∈μ.z∨∀ o,h.get? a=some o→(∃ es n,o.data=.dict es n)∨(∃ v,o.data=.cell v)
theorem XOk.nil (h:Heap) {μ:Mu}:XOk [] h μ:=fun zz h=>nomatch h
theorem XOk.notin {X:List Addr} {h:Heap} {μ:Mu} (x:XOk X h μ) {a:Addr} {o:Obj} (e:h.get? a=some o) (ha:a∉aM μ) (h1:∀ es n,o.data≠.dict es n) (h2:∀ v,o.data≠.cell v):a∉X:=fun hm=>by
  rcases x a hm with hz | x
  · exact z_of ha hz
  rcases x o e with ⟨es,n,hd⟩ | ⟨v,hd⟩
  · exact h1 es n hd
  · exact h2 v hd
theorem nD {d:Data} (h:d.ctorIdx.beq 3=false) (es:Array DictEntry) (n:Nat):d≠.dict es n:=fun e=>by replace h:=e▸h;cases h
theorem nC {d:Data} (h:d.ctorIdx.beq 6=false) (v:Option Value):d≠.cell v:=fun e=>by replace h:=e▸h;cases h
structure Moves (fa dn:Nat→Option Addr) (h:Heap) (μ:Mu) (h':Heap) (μ':Mu):Prop where
  keep:∀ a o,h.get? a=some o→a∉aM μ→(∀ es n,o.data≠.dict es n)→(∀ v,o.data≠.cell v)→h'.get? a=some o
  sub:∀ a o,h.get? a=some o→a∉aM μ→a∉aM μ'
  nth:∀ (n:Nat) (p:Addr×Addr),μ.l[n]?=some p→μ'.l[n]?=some p
  fn:∀ k a,fa k=some a→dn k=some a
section
variable {fa dn:Nat→Option Addr} {h h':Heap} {μ μ':Mu}
theorem Rep.both (m:Moves fa dn h μ h' μ'):(∀ {v:Value} {x:V},Rep fa h μ v x→Rep dn h' μ' v x)∧∀ {vs:List Value} {l:List V},aG fa h μ vs l→aG dn h' μ' vs l:=by
  have ht:∀ {a:Addr} {vs:List Value} {e:Nat} {l:List V},h.get? a=some (tupO vs e)→a∉aM μ→aG fa h μ vs l→aG dn h' μ' vs l→Rep dn h' μ' (.ref a) (.tup l):=fun e ha _ ih=>.tup (m.keep _ _ e ha (nD rfl) (nC rfl)) (m.sub _ _ e ha) ih
  have hl:∀ {a:Addr} {vs:List Value} {e:Nat} {l:List V},h.get? a=some (lstO vs e)→a∉aM μ→aG fa h μ vs l→aG dn h' μ' vs l→Rep dn h' μ' (.ref a) (.lst l):=fun e ha _ ih=>.lst (m.keep _ _ e ha (nD rfl) (nC rfl)) (m.sub _ _ e ha) ih
  have ho:∀ {n:Nat} {p:Addr×Addr},μ.l[n]?=some p→Rep dn h' μ' (.ref p.1) (.obj n):=fun e=>.obj (m.nth _ _ e)
  have hf:∀ {k:Nat} {a:Addr},fa k=some a→Rep dn h' μ' (.ref a) (.fn k):=fun e=>.fn (m.fn _ _ e)
  have hr:∀ {a:Addr} {n:Int} {t u v:Tok},IsRange h a 0 n 1 t u v→a∉aM μ→Rep dn h' μ' (.ref a) (.rng n):=fun e ha=>.rng (m.keep _ _ e ha (nD rfl) (nC rfl)) (m.sub _ _ e ha)
  refine ⟨fun r=>?_,fun r=>?_⟩
  · exact Rep.rec (motive_1:=fun v x _=>Rep dn h' μ' v x) (motive_2:=fun vs l _=>aG dn h' μ' vs l) .none .bool .int .str ht hl ho hf hr .nil (fun _ _ a b=>.cons a b) r
  · exact aG.rec (motive_1:=fun v x _=>Rep dn h' μ' v x) (motive_2:=fun vs l _=>aG dn h' μ' vs l) .none .bool .int .str ht hl ho hf hr .nil (fun _ _ a b=>.cons a b) r
theorem Rep.move {v:Value} {x:V} (r:Rep fa h μ v x) (m:Moves fa dn h μ h' μ'):Rep dn h' μ' v x:=(Rep.both m).1 r
theorem aG.move {vs:List Value} {l:List V} (r:aG fa h μ vs l) (m:Moves fa dn h μ h' μ'):aG dn h' μ' vs l:=(Rep.both m).2 r
theorem Ext.moves {X:List Addr} (x:Ext X h μ h' μ') (ok:XOk X h μ):Moves fa fa h μ h' μ':=⟨fun _ _ e ha h1 h2=>x.keep _ _ e (cJ ha) (ok.notin e ha h1 h2),fun _ _ e ha=>x.notin e ha,fun _ _ e=>x.nth e,fun _ _ e=>e⟩
theorem Rep.ext {X:List Addr} (x:Ext X h μ h' μ') (ok:XOk X h μ) {v:Value} {V:V} (r:Rep fa h μ v V):Rep fa h' μ' v V:=r.move (x.moves ok)
theorem aG.ext {X:List Addr} (x:Ext X h μ h' μ') (ok:XOk X h μ) {vs:List Value} {l:List V} (r:aG fa h μ vs l):aG fa h' μ' vs l:=r.move (x.moves ok)
theorem aG.ind {P:List Value→List V→Prop} (h0:P [] []) (h1:∀ {v:Value} {x:V} {vs:List Value} {l:List V},Rep fa h μ v x→aG fa h μ vs l→P vs l→P (v :: vs) (x :: l)) {vs:List Value} {l:List V} (r:aG fa h μ vs l):P vs l:=
  aG.rec (motive_1:=fun _ _ _=>True) (motive_2:=fun vs l _=>P vs l) trivial (fun _=>trivial) (fun _ _=>trivial) (fun _ _=>trivial) (fun _ _ _ _=>trivial) (fun _ _ _ _=>trivial) (fun _=>trivial) (fun _=>trivial) (fun _ _=>trivial) h0 (fun a b _ d=>h1 a b d) r
theorem aG.len {vs:List Value} {l:List V} (r:aG fa h μ vs l):vs.length=l.length:=r.ind (P:=fun vs l=>vs.length=l.length) rfl fun _ _ e=>congrArg (·+1) e
theorem aG.get {vs:List Value} {l:List V} {i:Nat} {x:V} (r:aG fa h μ vs l):l[i]?=some x→∃ v,vs[i]?=some v∧Rep fa h μ v x:=
  r.ind (P:=fun vs l=>∀ i,l[i]?=some x→∃ v,vs[i]?=some v∧Rep fa h μ v x) nofun (fun a _ ih i=>match i with
    | 0=>fun e=>⟨_,rfl,Option.some.inj e▸a⟩
    | i+1=>ih i) i
theorem aG.append {vs ws:List Value} {l m:List V} (r:aG fa h μ vs l) (s:aG fa h μ ws m):aG fa h μ (vs++ws) (l++m):=r.ind (P:=fun vs l=>aG fa h μ (vs++ws) (l++m)) s fun a _ ih=>.cons a ih
theorem aG.set {v:Value} {V:V} (q:Rep fa h μ v V) {vs:List Value} {l:List Mine.V} (i:Nat) (r:aG fa h μ vs l):aG fa h μ (vs.set i v) (l.set i V):=
  r.ind (P:=fun vs l=>∀ i,aG fa h μ (vs.set i v) (l.set i V)) (fun _=>.nil) (fun a b ih i=>match i with
    | 0=>.cons q b
    | i+1=>.cons a (ih i)) i
theorem aG.eraseIdx {vs:List Value} {l:List V} (i:Nat) (r:aG fa h μ vs l):aG fa h μ (vs.eraseIdx i) (l.eraseIdx i):=
  r.ind (P:=fun vs l=>∀ i,aG fa h μ (vs.eraseIdx i) (l.eraseIdx i)) (fun _=>.nil) (fun a b ih i=>match i with
    | 0=>b
    | i+1=>.cons a (ih i)) i
theorem aG.take {vs:List Value} {l:List V} (i:Nat) (r:aG fa h μ vs l):aG fa h μ (vs.take i) (l.take i):=
  r.ind (P:=fun vs l=>∀ i,aG fa h μ (vs.take i) (l.take i)) (fun i=>by refine ag List.take_nil (ag List.take_nil ?_);exact .nil) (fun a _ ih i=>match i with
    | 0=>.nil
    | i+1=>.cons a (ih i)) i
theorem aG.drop {vs:List Value} {l:List V} (i:Nat) (r:aG fa h μ vs l):aG fa h μ (vs.drop i) (l.drop i):=
  r.ind (P:=fun vs l=>∀ i,aG fa h μ (vs.drop i) (l.drop i)) (fun i=>by refine ag List.drop_nil (ag List.drop_nil ?_);exact .nil) (fun a b ih i=>match i with
    | 0=>.cons a b
    | i+1=>ih i) i
end
inductive cT (fa:Nat→Option Addr) (h:Heap) (μ:Mu):List DictEntry→List (Nat×V)→Prop where
  | nil:cT fa h μ [] []
  | cons {a hsh t v V es fs}:a < 48→Rep fa h μ v V→cT fa h μ es fs→cT fa h μ (⟨hsh,.str (aH a) t,v⟩ :: es) ((a,V) :: fs)
inductive cu (fa:Nat→Option Addr) (h:Heap) (μ:Mu):List (Int×Value)→List (Int×V)→Prop where
  | nil:cu fa h μ [] []
  | cons {k v V es fs}:Rep fa h μ v V→cu fa h μ es fs→cu fa h μ ((k,v) :: es) ((k,V) :: fs)
section
variable {fa dn:Nat→Option Addr} {h h':Heap} {μ μ':Mu}
theorem cT.move (m:Moves fa dn h μ h' μ') {es:List DictEntry} {fs:List (Nat×V)} (r:cT fa h μ es fs):cT dn h' μ' es fs:=by
  induction r with
  | nil=>exact .nil
  | cons a r _ ih=>exact .cons a (r.move m) ih
theorem cu.move (m:Moves fa dn h μ h' μ') {es:List (Int×Value)} {fs:List (Int×V)} (r:cu fa h μ es fs):cu dn h' μ' es fs:=by
  induction r with
  | nil=>exact .nil
  | cons r _ ih=>exact .cons (r.move m) ih
theorem cT.ext {X:List Addr} (x:Ext X h μ h' μ') (ok:XOk X h μ) {es:List DictEntry} {fs:List (Nat×V)} (r:cT fa h μ es fs):cT fa h' μ' es fs:=r.move (x.moves ok)
theorem cu.ext {X:List Addr} (x:Ext X h μ h' μ') (ok:XOk X h μ) {es:List (Int×Value)} {fs:List (Int×V)} (r:cu fa h μ es fs):cu fa h' μ' es fs:=r.move (x.moves ok)
end
section
variable (prog:Program) (w:World) (fa:Nat→Option Addr) (ca:Nat→Addr)
noncomputable def dm (h:Heap) (μ:Mu) (p:Addr×Addr):AO→Prop
  | .lst l=>p.1=p.2∧∃ vs:List Value,h.PlainList p.2 vs.toArray∧aG fa h μ vs l
  | .cN l=>p.1=p.2∧∃ kvs,h.DictOf (intKind prog w) p.2 kvs∧cu fa h μ kvs l
  | .inst c fs=>p.1∉aM μ∧h.get? p.1=some (instObj (ca c) p.2)∧∃ es n,h.get? p.2=some (dictOf es n)∧cT fa h μ es fs
structure az (h:Heap) (μ:Mu) (σ:St):Prop where
  len:μ.l.length=σ.length
  nodup:(aM μ).Nodup
  zlive:∀ a∈μ.z,∃ o,h.get? a=some o
  obj:∀ (i:Nat) (p:Addr×Addr) (o:AO),μ.l[i]?=some p→σ[i]?=some o→dm prog w fa ca h μ p o
theorem az.get {prog:Program} {w:World} {fa:Nat→Option Addr} {ca:Nat→Addr} {h:Heap} {μ:Mu} {σ:St} (x:az prog w fa ca h μ σ) {i:Nat} {o:AO} (e:σ[i]?=some o):∃ p,μ.l[i]?=some p∧dm prog w fa ca h μ p o:=by
  have hi:i < σ.length:=(List.getElem?_eq_some_iff.mp e).1
  have hi':i < μ.l.length:=x.len▸hi
  exact aI (μ.l[i]) (by simp [hi']) (x.obj i _ o (by simp [hi']) e)
theorem mem_chg {μ:Mu} {i:Nat} {p:Addr×Addr} (e:μ.l[i]?=some p):p.2∈chg μ:=List.mem_map.mpr (aI p (List.mem_of_getElem? e) rfl)
theorem mem_muts {μ:Mu} {i:Nat} {p:Addr×Addr} (e:μ.l[i]?=some p):p.2∈aM μ:=List.mem_append.mpr (.inl (mem_chg e))
theorem muts_inj {μ:Mu} (nd:(aM μ).Nodup) {i j:Nat} {p q:Addr×Addr} (ei:μ.l[i]?=some p) (ej:μ.l[j]?=some q) (e:p.2=q.2):i=j:=by
  have hi:(aM μ)[i]?=some p.2:=by
    unfold aM
    refine ag (List.getElem?_append_left (by simpa using (List.getElem?_eq_some_iff.mp ei).1)) ?_;simp [ei]
  have hj:(aM μ)[j]?=some q.2:=by
    unfold aM
    refine ag (List.getElem?_append_left (by simpa using (List.getElem?_eq_some_iff.mp ej).1)) ?_;simp [ej]
  exact (List.getElem?_inj (List.getElem?_eq_some_iff.mp hi).1 nd).mp (by exact ag hi (ag hj (ag e rfl)))
end
section
variable {prog:Program} {w:World} {fa:Nat→Option Addr} {ca:Nat→Addr}
theorem dm.move {dn:Nat→Option Addr} {h h':Heap} {μ μ':Mu} {p:Addr×Addr} (m:Moves fa dn h μ h' μ') (k:∀ o,h.get? p.2=some o→h'.get? p.2=some o) {o:AO} (r:dm prog w fa ca h μ p o):dm prog w dn ca h' μ' p o:=by
  cases o with
  | lst l=>exact ⟨r.1,r.2.elim fun vs q=>aI vs (q.1.elim fun o b=>⟨o,k _ b⟩) (q.2.move m)⟩
  | cN l=>exact ⟨r.1,r.2.elim fun vs q=>aI vs (q.1.elim fun o b=>b.elim fun es b=>b.elim fun ep b=>I3A2 o es ep (k _ b.1) b.2) (q.2.move m)⟩
  | inst c fs=>exact ⟨m.sub _ _ r.2.1 r.1,m.keep _ _ r.2.1 r.1 (nD rfl) (nC rfl),r.2.2.elim fun es q=>q.elim fun n q=>I2A2 es n (k _ q.1) (q.2.move m)⟩
theorem dm.ext {X:List Addr} {h h':Heap} {μ μ':Mu} {p:Addr×Addr} (x:Ext X h μ h' μ') (ok:XOk X h μ) (e:h'.get? p.2=h.get? p.2) {o:AO} (r:dm prog w fa ca h μ p o):dm prog w fa ca h' μ' p o:=r.move (x.moves ok) fun _ q=>e.trans q
theorem dm.live {h:Heap} {μ:Mu} {p:Addr×Addr} {o:AO} (r:dm prog w fa ca h μ p o):∃ ob,h.get? p.2=some ob:=by
  cases o with
  | lst l=>exact r.2.elim fun _ q=>q.1.elim fun _ b=>⟨_,b⟩
  | cN l=>exact r.2.elim fun _ q=>q.1.elim fun o b=>b.elim fun _ b=>b.elim fun _ b=>⟨o,b.1⟩
  | inst c fs=>exact r.2.2.elim fun _ q=>q.elim fun _ b=>⟨_,b.1⟩
theorem az.other {X:List Addr} {h h':Heap} {μ:Mu} {σ:St} (r:az prog w fa ca h μ σ) (x:Ext X h μ h' μ) (ok:XOk X h μ) (hm:∀ a∈chg μ,∀ o,h.get? a=some o→h'.get? a=some o):az prog w fa ca h' μ σ:=
  ⟨r.len,r.nodup,fun a ha=>((r.zlive a ha).elim fun o e=>x.alive a o e),fun i p o e1 e2=>by
    have z:=r.obj i p o e1 e2
    refine aN z.live fun ob hob=>?_
    exact z.ext x ok (by refine ag hob ?_;exact hm _ (mem_chg e1) _ hob)⟩
theorem az.keeps {h h':Heap} {μ:Mu} {σ:St} (r:az prog w fa ca h μ σ) (hk:∀ b o,h.get? b=some o→h'.get? b=some o):az prog w fa ca h' μ σ:=
  r.other (X:=[]) (.keeps hk) (.nil h) fun a zz o e=>hk a o e
theorem az.push {h:Heap} {μ:Mu} {σ:St} (r:az prog w fa ca h μ σ) (o:Obj):az prog w fa ca (h.push o) μ σ:=
  r.keeps fun zz zz e=>Heap.get?_push_of_some _ e
theorem az.frame {h h':Heap} {μ:Mu} {σ:St} {a:Addr} {o':Obj} (r:az prog w fa ca h μ σ) (hs:Heap.SameBut a h h') (hl:h'.get? a=some o') (ha:a∉chg μ) (ok:XOk [a] h μ):az prog w fa ca h' μ σ:=
  r.other (X:=[a]) (.same hs (.inr (List.mem_singleton.mpr rfl)) hl) ok fun b hb o e=>(hs.2 b (fun z=>ha (z▸hb))).trans e
theorem az.lives {h:Heap} {μ:Mu} {σ:St} (r:az prog w fa ca h μ σ) {a:Addr} (ha:a∈aM μ):∃ o,h.get? a=some o:=by
  rcases List.mem_append.mp ha with ha | ha
  · refine aq (List.mem_map.mp ha) fun q hq zq2=>?_
    clear ha;subst zq2
    clear ha;obtain ⟨i,hi,rfl⟩:=List.mem_iff_getElem.mp hq
    have hi':i < σ.length:=r.len▸hi
    exact (r.obj i μ.l[i] σ[i] (by simp [hi]) (by simp [hi'])).live
  · exact r.zlive a ha
theorem az.fresh {h:Heap} {μ:Mu} {σ:St} (r:az prog w fa ca h μ σ) {a:Addr} (ha:h.get? a=Option.none):a∉aM μ:=fun hm=>by
  obtain ⟨o,e⟩:=r.lives hm
  replace e:=ha▸e;cases e
noncomputable def Mu.add (μ:Mu) (p:Addr×Addr):Mu:=⟨μ.l++[p],μ.z⟩
theorem az.new {h h':Heap} {μ:Mu} {σ:St} {p:Addr×Addr} {o:AO} (r:az prog w fa ca h μ σ) (hk:∀ b ob,h.get? b=some ob→h'.get? b=some ob) (hp:h.get? p.2=Option.none) (h100:100≤p.2)
    (ho:dm prog w fa ca h' (μ.add p) p o):az prog w fa ca h' (μ.add p) (σ++[o]):=by
  have x:Ext [] h μ h' (μ.add p):=⟨fun a ob e zz zz=>hk a ob e,fun a ob e=>⟨ob,hk a ob e⟩,[p],[],rfl,fun q hq=>by refine ag (List.mem_singleton.mp hq) ?_;exact ⟨hp,h100⟩,fun zz h=>nomatch h⟩
  refine ⟨by simp [Mu.add,r.len],?_,fun a ha=>((r.zlive a ha).elim fun o e=>x.alive a o e),fun i q o' e1 e2=>?_⟩
  · have hf:=r.fresh hp
    have nd:=r.nodup
    unfold aM at hf nd ⊢
    simp only [Mu.add,List.map_append,List.map_cons,List.map_nil]
    refine ag (List.append_assoc ..) ?_
    refine List.nodup_append.mpr ⟨(List.nodup_append.mp nd).1,?_,fun a ha b hb=>?_⟩
    · exact List.nodup_cons.mpr ⟨fun hm=>hf (List.mem_append.mpr (.inr (by simpa using hm))),by simpa using (List.nodup_append.mp nd).2.1⟩
    · rcases List.mem_cons.mp hb with rfl | hb
      · intro z;subst z;exact hf (List.mem_append.mpr (.inl ha))
      · exact (List.nodup_append.mp nd).2.2 a ha b (by simpa using hb)
  · by_cases hi:i < μ.l.length
    · simp only [Mu.add] at e1
      rw [List.getElem?_append_left hi] at e1
      rw [List.getElem?_append_left (r.len▸hi)] at e2
      have z:=r.obj i q o' e1 e2
      obtain ⟨ob,hob⟩:=z.live
      exact z.ext x (.nil h) (by refine ag hob ?_;exact hk _ _ hob)
    · have hi1:i=μ.l.length:=by
        have:=(List.getElem?_eq_some_iff.mp e1).1
        simp [Mu.add] at this;exact Nat.le_antisymm (lZ this) (lZ (Nat.le_of_not_lt hi))
      subst hi1
      simp [Mu.add] at e1
      rw [r.len] at e2
      simp at e2
      subst e1 e2
      exact ho
noncomputable def Mu.bS (μ:Mu) (a:Addr):Mu:=⟨μ.l,a :: μ.z⟩
theorem Ext.bS {h h':Heap} {μ:Mu} {a:Addr} (hk:∀ b ob,h.get? b=some ob→h'.get? b=some ob) (ha:h.get? a=Option.none) (h100:100≤a):Ext [] h μ h' (μ.bS a):=
  ⟨fun b ob e zz zz=>hk b ob e,fun b ob e=>⟨ob,hk b ob e⟩,[],[a],by simp [Mu.bS],(fun zz h=>nomatch h),fun b hb=>by refine ag (List.mem_singleton.mp hb) ?_;exact ⟨ha,h100⟩⟩
theorem az.bS {h h':Heap} {μ:Mu} {σ:St} {a:Addr} {o':Obj} (r:az prog w fa ca h μ σ) (hk:∀ b ob,h.get? b=some ob→h'.get? b=some ob) (ha:h.get? a=Option.none) (h100:100≤a) (hl:h'.get? a=some o'):az prog w fa ca h' (μ.bS a) σ:=by
  have x:=Ext.bS (μ:=μ) hk ha h100
  refine ⟨r.len,?_,fun b hb=>?_,fun i p o e1 e2=>?_⟩
  · have hf:=r.fresh ha
    have nd:=r.nodup
    unfold aM at hf nd ⊢
    simp only [Mu.bS]
    refine List.nodup_append.mpr ⟨(List.nodup_append.mp nd).1,List.nodup_cons.mpr ⟨fun hm=>hf (List.mem_append.mpr (.inr hm)),(List.nodup_append.mp nd).2.1⟩,fun b hb d hd=>?_⟩
    clear hl h100 ha hk r o' σ x;rcases List.mem_cons.mp hd with rfl | hd
    · intro z;clear h' h nd hd;subst z;exact hf (List.mem_append.mpr (.inl hb))
    · exact (List.nodup_append.mp nd).2.2 b hb d hd
  · clear h100 ha x;rcases List.mem_cons.mp hb with rfl | hb
    · exact ⟨_,hl⟩
    · refine aN (r.zlive b hb) fun o e=>?_
      exact ⟨o,hk b o e⟩
  · have z:=r.obj i p o e1 e2
    refine aN z.live fun ob hob=>?_
    exact z.ext x (.nil h) (by refine ag hob ?_;exact hk _ _ hob)
theorem az.z_chg {h:Heap} {μ:Mu} {σ:St} (r:az prog w fa ca h μ σ) {a:Addr} (ha:a∈μ.z):a∉chg μ:=fun hm=>
  (List.nodup_append.mp r.nodup).2.2 a hm a ha rfl
theorem az.upd {h h':Heap} {μ:Mu} {σ:St} {i:Nat} {p:Addr×Addr} {o':AO} (r:az prog w fa ca h μ σ) (hi:μ.l[i]?=some p) (hs:Heap.SameBut p.2 h h')
    (ho:dm prog w fa ca h' μ p o'):az prog w fa ca h' μ (σ.set i o'):=by
  refine aN ho.live fun zz hl=>?_
  have x:Ext [] h μ h' μ:=.same hs (.inl (mem_chg hi)) hl
  refine ⟨by simp [r.len],r.nodup,fun a ha=>((r.zlive a ha).elim fun o e=>x.alive a o e),fun j q o e1 e2=>?_⟩
  by_cases hj:i=j
  · subst hj
    replace e1:=hi▸e1;refine someO e1 ?_
    have:i < σ.length:=r.len▸(List.getElem?_eq_some_iff.mp hi).1
    simp [this] at e2
    subst e2;exact ho
  · replace e2:=(List.getElem?_set_ne hj)▸e2
    have z:=r.obj j q o e1 e2
    exact z.ext x (.nil h) (hs.2 _ fun z=>hj (muts_inj r.nodup hi e1 z.symm))
end
structure BaseOk (h0:Heap) (l0:List (Addr×Addr)) (h:Heap) (μ:Mu):Prop where
  keep:∀ a o,h0.get? a=some o→h.get? a=some o
  apart:∀ a o,h0.get? a=some o→a∉aM μ
  high:∀ a∈aM μ,100≤a
  pre:∃ ν,μ.l=l0++ν
theorem BaseOk.ext {X:List Addr} {h0 h h':Heap} {l0:List (Addr×Addr)} {μ μ':Mu} (b:BaseOk h0 l0 h μ) (x:Ext X h μ h' μ') (hX:∀ a∈X,h0.get? a=Option.none):BaseOk h0 l0 h' μ':=
  ⟨fun a o e=>x.keep a o (b.keep a o e) (cJ (b.apart a o e)) (fun hm=>by replace e:=(hX a hm)▸e;cases e),fun a o e=>x.notin (b.keep a o e) (b.apart a o e),fun a ha=>by
    refine E2A3 x.grow fun ν ζ zq2 hν hζ=>?_
    subst zq2
    simp only [aM,List.map_append,List.mem_append] at ha
    rcases ha with (ha | ha) | (ha | ha)
    · exact b.high a (List.mem_append.mpr (.inl ha))
    · refine aq (List.mem_map.mp ha) fun p hp zq2=>?_
      subst zq2
      exact (hν p hp).2
    · exact (hζ a ha).2
    · exact b.high a (List.mem_append.mpr (.inr ha)),by
    refine dP x.grow fun ν ζ zq2 zz=>?_
    subst zq2
    refine aN b.pre fun ν0 e=>?_
    exact ⟨ν0++ν,by exact ag (e ..) (ag (List.append_assoc ..) rfl)⟩⟩
structure EnvOk (fa:Nat→Option Addr) (env:Env) (res:PySem.Str→Option Nat) (h:Heap) (μ:Mu) (ρ:List V):Prop where
  kind:env.scope.kind=.function
  glob:env.globals=mainGlobals
  bi:env.builtins=builtinsNs
  ns:∃ m,h.Ns env.locals m∧∀ x i,res x=some i→env.kindOf x=some .local→∀ v,bU ρ i=some v→∃ u,m x=some u∧Rep fa h μ u v
  cell:∀ x i,res x=some i→env.kindOf x=some .cell∨env.kindOf x=some .free→∃ a u,env.cells.lookup x=some a∧h.IsCell a u∧∀ v,bU ρ i=some v→∃ z,u=some z∧Rep fa h μ z v
  lap:env.locals∉aM μ
  cap:∀ x a,(x,a)∈env.cells→a∉aM μ∧∃ u,h.IsCell a u
  apart:env.cells.Pairwise fun x y=>x.2≠y.2
noncomputable def Env.mine (env:Env):List Addr:=env.locals :: env.cells.map (·.2)
theorem EnvOk.xok {fa:Nat→Option Addr} {env:Env} {res:PySem.Str→Option Nat} {h:Heap} {μ:Mu} {ρ:List V} (x:EnvOk fa env res h μ ρ):XOk (Env.mine env) h μ:=fun a ha=>.inr fun o e=>by
  rcases List.mem_cons.mp ha with rfl | ha
  · obtain ⟨m,⟨o',es,n,e',hd,_⟩,_⟩:=x.ns
    replace e':=e▸e';cases e';exact .inl ⟨es,n,hd⟩
  · obtain ⟨⟨y,c⟩,hc,rfl⟩:=List.mem_map.mp ha
    obtain ⟨_,u,o',e',hd⟩:=x.cap y c hc
    replace e':=e▸e';cases e';exact .inr ⟨u,hd⟩
theorem EnvOk.ext {fa:Nat→Option Addr} {env:Env} {res:PySem.Str→Option Nat} {h h':Heap} {μ μ':Mu} {ρ:List V} (z:EnvOk fa env res h μ ρ) (x:Ext [] h μ h' μ'):EnvOk fa env res h' μ' ρ:=by
  refine aq z.ns fun m hn hm=>?_
  refine E3A2 hn fun oL esL nL eL rL=>?_
  clear hn
  refine ⟨z.kind,z.glob,z.bi,⟨m,⟨oL,esL,nL,x.keep _ _ eL (cJ z.lap) nilM,rL⟩,fun y i a b v c=>?_⟩,fun y i a b=>?_,x.notin eL z.lap,fun y a ha=>?_,z.apart⟩
  · refine aq (hm y i a b v c) fun u p q=>?_
    exact aI u p (q.ext x (.nil h))
  · obtain ⟨c,u,p,⟨o,q,r⟩,s⟩:=z.cell y i a b
    have hc:=z.cap y c (PySem.mem_of_lookup p)
    refine I2A3 c u p (aI o (x.keep _ _ q (cJ hc.1) nilM) r) (fun v hv=>?_)
    refine aq (s v hv) fun z' e1 e2=>?_
    exact aI z' e1 (e2.ext x (.nil h))
  · obtain ⟨p,u,o,q,r⟩:=z.cap y a ha
    exact ⟨x.notin q p,u,o,x.keep _ _ q (cJ p) nilM,r⟩
end
section
open PySem PySem.W PySem.Calls PyProof.Rows
structure ClsOk (K:Frag) (C:Addr):Prop where
  get:plainGet K C "__class__" = true
  dict:hasDictIn K C=true
  set:findIn K (.ref C) "__setattr__" = some (some (.builtin "object.__setattr__"))
  over:plainOver K C=true
  makes:makesIn K C=true
  keep:keepIn K (.ref C)=true
structure FldOk (K:Frag) (C:Addr) (n:PySem.Str):Prop where
  get:∃ a,findIn K (.ref C) n=some a∧noGet K a=true
  take:takerIn K C n=some Option.none
structure Gt where
  fn:List (PySem.Str×Nat)
  cl:List (PySem.Str×Nat)
  gl:List (PySem.Str×Nat)
  bl:List PySem.Str
  cm:List ((PySem.Str×PySem.Str)×Nat)
structure Cx where
  prog:Program
  w:World
  K:Frag
  h0:Heap
  l0:List (Addr×Addr)
  mg:PySem.Str→Option Value
  mb:PySem.Str→Option Value
  T:Tab
  fa:Nat→Option Addr
  ca:Nat→Addr
  dW:K.In h0
  g:h0.Ns mainGlobals mg
  b:h0.Ns builtinsNs mb
  lim:h0.NoLimit
  bi:∀ x:PySem.Str,x≠ "__name__" → mb x=bootBuiltins x
  big:∃ a o,100≤a∧h0.get? a=some o
  fld:∀ k a,T.fld k a=true→a < 48∧ClsOk K (ca k)∧FldOk K (ca k) (aH a)
  aV:∀ k a f,T.aV k a=some f→a < 48∧ClsOk K (ca k)∧∃ d,fa f=some d∧findIn K (.ref (ca k)) (aH a)=some (some (.ref d))∧isFn K (.ref d)=true
  dyn:∀ k a,T.dyn k a=true→T.fld k a=true∧findIn K (.ref (ca k)) (aH a)=some Option.none
  init:∀ k f,T.init k=some f→ClsOk K (ca k)∧∃ d,fa f=some d∧findIn K (.ref (ca k)) "__init__" = some (some (.ref d))∧typeIn K (.ref d)=some (.type "function")∧keepIn K (.ref d)=true
  gt:Gt
  gfn:∀ x k,gt.fn.lookup x=some k→∃ a,mg x=some (.ref a)∧fa k=some a
  gcl:∀ x k,gt.cl.lookup x=some k→mg x=some (.ref (ca k))∧keepIn K (.ref (ca k))=true
  ggl:∀ x i,gt.gl.lookup x=some i→∃ j t,mg x=some (.int j t)∧T.gl i=.int j
  gbl:∀ x,gt.bl.contains x=true→mg x=Option.none∧x≠ "__name__"
  gcm:∀ x a n,gt.cm.lookup (x,a)=some n→∃ C d mc,mg x=some (.ref C)∧fa n=some d∧specialIn K (.ref C) "__getattribute__" = some (some (.builtin "type.__getattribute__"))∧readsIn K C mc=true∧findCls K (.ref C) mc a=some (.val (.ref d))
noncomputable def Cx.Rel (c:Cx) (h:Heap) (μ:Mu) (σ:St):Prop:=BaseOk c.h0 c.l0 h μ∧az c.prog c.w c.fa c.ca h μ σ
noncomputable def Runs (c:Cx) (A:Around) (X:List Addr) {α:Type} (t:Sem α) (s:Shared) (μ:Mu) (P:Heap→Mu→α→Prop):Prop:=
  ∀ (E:Value→Shared→Prop) (Q:α→Shared→Prop),(∀ a h' tk μ',Ext X s.heap μ h' μ'→P h' μ' a→Q a { s with heap:=h',toks:=tk })→wpAny (model c.prog c.w) A t Q E s
section
variable {c:Cx} {A:Around} {X:List Addr} {α β:Type} {s:Shared} {μ:Mu}
theorem Runs.mono {t:Sem α} {P P':Heap→Mu→α→Prop} (h:Runs c A X t s μ P) (hp:∀ h' μ' a,Ext X s.heap μ h' μ'→P h' μ' a→P' h' μ' a):Runs c A X t s μ P':=
  fun E Q hQ=>h E Q fun a h' tk μ' x p=>hQ a h' tk μ' x (hp h' μ' a x p)
theorem Runs.weaken {Y:List Addr} {t:Sem α} {P:Heap→Mu→α→Prop} (h:Runs c A X t s μ P) (hXY:∀ a∈X,a∈Y):Runs c A Y t s μ P:=
  fun E Q hQ=>h E Q fun a h' tk μ' x p=>hQ a h' tk μ' (x.weaken hXY) p
theorem Runs.bind {t:Sem α} {f:α→Sem β} {P:Heap→Mu→α→Prop} {P':Heap→Mu→β→Prop} (h:Runs c A X t s μ P)
    (k:∀ a h₁ tk μ₁,Ext X s.heap μ h₁ μ₁→P h₁ μ₁ a→Runs c A X (f a) { s with heap:=h₁,toks:=tk } μ₁ P'):Runs c A X (t >>=f) s μ P':=
  fun E Q hQ=>wpAny_bind (h E _ fun a h₁ tk μ₁ x p=>k a h₁ tk μ₁ x p E Q fun b h₂ tk₂ μ₂ y q=>hQ b h₂ tk₂ μ₂ (x.trans y) q)
theorem Runs.use {t:Sem α} {P:Heap→Mu→α→Prop} (h:Runs c A X t s μ P) {E:Value→Shared→Prop} {Q:α→Shared→Prop}
    (hQ:∀ a h' tk μ',Ext X s.heap μ h' μ'→P h' μ' a→Q a { s with heap:=h',toks:=tk }):wpAny (model c.prog c.w) A t Q E s:=h E Q hQ
end
noncomputable def opOf:Op→Operator
  | .add=>.Add | .sub=>.Sub | .mul=>.Mult | .fdiv=>.FloorDiv | .mod=>.Mod
  | .shl=>.LShift | .shr=>.RShift | .and=>.BitAnd | .or=>.BitOr | .xor=>.BitXor
section
variable {c:Cx} {A:Around} {s:Shared} {μ:Mu}
theorem small_bits {a:Int} (h:small a=true):Builtin.Int.intBits a≤64:=by
  have h':a.natAbs < 2 ^ 64:=by simpa [small] using h
  unfold Builtin.Int.intBits
  split
  · exact Nat.zero_le _
  · rename_i q
    have hn:a.natAbs≠0:=by simpa using q
    exact (Nat.log2_lt hn).mpr h'
theorem small_div {a b:Int} (h:small b=true):Builtin.divisionGoesByPylong a b=false:=by
  have h':b.natAbs < 2 ^ 64:=by simpa [small] using h
  unfold Builtin.divisionGoesByPylong
  have hd:(if b ==0 then 0 else b.natAbs.log2 / 30+1)≤300:=by
    split
    · exact Nat.zero_le _
    · rename_i q
      have hn:b.natAbs≠0:=by simpa using q
      have:=(Nat.log2_lt hn).mpr h'
      lia
  simp only [Bool.and_eq_false_iff,decide_eq_false_iff_not]
  exact .inl (Nat.not_lt.mpr hd)
theorem ints_ok {o:Op} {a b:Int} {t u:Tok} {v:V} (h:intOp o a b=some v):
    Runs c A [] (binaryOp (opOf o) (.int a t) (.int b u)) s μ (fun h' μ' z=>h'=s.heap∧μ'=μ∧∃ i t,z=.int i t∧v=.int i):=by
  intro E Q hQ
  have fin:∀ i,v=.int i→Q (.int i s.toks) { s with toks:=s.toks+1 }:=fun i e=>hQ _ s.heap (s.toks+1) μ (.refl ..) ⟨rfl,rfl,i,s.toks,rfl,e⟩
  clear hQ;cases o with
  | add=>cases h;exact add_int (fin _ rfl)
  | sub=>cases h;exact sub_int (fin _ rfl)
  | mul=>
    replace h:=ck h;obtain ⟨q,h⟩:=h
    cases h
    refine mul_int (fin _ rfl) ?_
    clear u t fin Q E;rcases Bool.or_eq_true_iff.mp q with q | q
    · exact IntMulOk.of_left (small_bits q)
    · exact IntMulOk.of_right (small_bits q)
  | fdiv=>
    replace h:=ck h;obtain ⟨q,h⟩:=h
    cases h
    obtain ⟨q1,q2⟩:=Bool.and_eq_true_iff.mp q
    exact floordiv_int (bne_iff_ne.mp q2) (fin _ rfl) (.inl (small_div q1))
  | mod=>
    replace h:=ck h;obtain ⟨q,h⟩:=h
    cases h
    obtain ⟨q1,q2⟩:=Bool.and_eq_true_iff.mp q
    exact mod_int' (bne_iff_ne.mp q2) (fin _ rfl)
  | shl=>
    replace h:=ck h;obtain ⟨q,h⟩:=h
    cases h
    obtain ⟨q1,q2⟩:=Bool.and_eq_true_iff.mp q
    clear q;obtain ⟨q0,q1⟩:=Bool.and_eq_true_iff.mp q1
    exact lshift_int_small (of_decide_eq_true q1) (of_decide_eq_true q2) (of_decide_eq_true q0) (fin _ rfl)
  | shr=>
    replace h:=ck h;obtain ⟨q,h⟩:=h
    cases h
    exact rshift_int (of_decide_eq_true q) (fin _ rfl)
  | and=>cases h;exact and_int (fin _ rfl)
  | or=>cases h;exact or_int (fin _ rfl)
  | xor=>cases h;exact xor_int (fin _ rfl)
theorem augs_ok {o:Op} {a b:Int} {t u:Tok} {v:V} (h:augI o a b=some v):
    Runs c A [] (inplaceOp (opOf o) (.int a t) (.int b u)) s μ (fun h' μ' z=>h'=s.heap∧μ'=μ∧∃ i t,z=.int i t∧v=.int i):=by
  intro E Q hQ
  have fin:∀ i,v=.int i→Q (.int i s.toks) { s with toks:=s.toks+1 }:=fun i e=>hQ _ s.heap (s.toks+1) μ (.refl ..) ⟨rfl,rfl,i,s.toks,rfl,e⟩
  clear hQ;cases o <;> first | (cases h;done) | cases h
  · exact iadd_int (fin _ rfl)
  · exact isub_int (fin _ rfl)
theorem addl_ok {u z:Value} {a b:List V} {v:V} {σ:St} (hr:c.Rel s.heap μ σ) (ra:Rep c.fa s.heap μ u (.lst a)) (rb:Rep c.fa s.heap μ z (.lst b)) (h:catV a b=some v):
    Runs c A [] (binaryOp .Add u z) s μ (fun h' μ' y=>c.Rel h' μ' σ∧Rep c.fa h' μ' y v):=by
  refine E3A4 ra.lstI fun a1 vs1 e1 zq3 g1 n1 r1=>?_
  clear ra n1;subst zq3
  refine E3A4 rb.lstI fun a2 vs2 e2 zq3 g2 n2 r2=>?_
  clear rb n2;subst zq3
  refine aY (ck h) fun q h=>?_
  refine someO h ?_
  intro E Q hQ
  refine P.add_list g1 g2 (hQ _ _ s.toks μ (.push _) ⟨⟨?_,hr.2.push _⟩,?_⟩) ?_
  · exact hr.1.ext (.push _) (by grind)
  · have x:Ext [] s.heap μ (s.heap.push { cls:=.type "list",data:=.seq (vs1.toArray++vs2.toArray) }) μ:=.push _
    refine .lst (vs:=vs1++vs2) (e:=0) ?_ (hr.2.fresh (aJ _ (Nat.le_refl _))) ((r1.ext x (.nil _)).append (r2.ext x (.nil _)))
    have:=Heap.get?_push_size s.heap (o:={ cls:=.type "list",data:=.seq (vs1.toArray++vs2.toArray) }) rfl
    simpa [lstO] using this
  · have h1:=r1.len;have h2:=r2.len
    refine ag sizeLine_eq ?_
    simp only [List.size_toArray]
    exact lZ (aZ q (aZ (Nat.le_of_eq h1) (Nat.le_of_eq h2)))
mutual
noncomputable def toPy:V→PyData
  | .int i=>.int i
  | .tup l=>.tuple (toPys l)
  | .lst l=>.list (toPys l)
  | _=>.none
noncomputable def toPys:List V→List PyData
  | []=>[]
  | v :: l=>toPy v :: toPys l
end
set_option tactic.hygienic true in
theorem plain_reads {fa:Nat→Option Addr} {h:Heap} {μ:Mu}:∀ (n:Nat) {u:Value} {v:V},plain n v=true→Rep fa h μ u v→∃ as,Reads h u (toPy v) as:=by
  intro n
  induction n with
  | zero=>
    intro u v hp r
    cases r <;> simp only [plain] at hp <;> first | cases hp | skip
    · exact ⟨_,.none⟩
    · exact ⟨_,.int _ _⟩
  | succ n ih=>
    have all:∀ {us:List Value} {l:List V},l.all (plain n)=true→aG fa h μ us l→∃ as,ReadsAll h us (toPys l) as:=by
      intro us l
      induction l generalizing us with
      | nil=>intro _ r;cases r;exact ⟨_,.nil⟩
      | cons v l ihl=>
        intro hp r
        cases r with
        | cons r rs=>
          simp only [List.all_cons,Bool.and_eq_true] at hp
          obtain ⟨as,ha⟩:=ih hp.1 r
          obtain ⟨bs,hb⟩:=ihl hp.2 rs
          exact ⟨_,.cons ha hb⟩
    intro u v hp r
    cases r <;> simp only [plain] at hp <;> first | cases hp | skip
    · exact ⟨_,.none⟩
    · exact ⟨_,.int _ _⟩
    · rename_i g _ rs
      obtain ⟨as,ha⟩:=all hp rs
      exact ⟨_,.tuple g rfl rfl ha⟩
    · rename_i g _ rs
      obtain ⟨as,ha⟩:=all hp rs
      exact ⟨_,.list g rfl rfl ha⟩
theorem plain_lay:∀ (n:Nat) (v:V),plain n v=true→(toPy v).canLay0=true∧(toPy v).depth≤n:=by
  intro n
  induction n with
  | zero=>
    intro v hp
    cases v <;> simp only [plain] at hp <;> first | cases hp | skip
    all_goals exact ⟨by simp [toPy,PyData.canLay0],by simp [toPy,PyData.depth]⟩
  | succ n ih=>
    have all:∀ l:List V,l.all (plain n)=true→PyData.canLayAll0 (toPys l)=true∧PyData.depthAll (toPys l)≤n:=by
      intro l
      induction l with
      | nil=>intro _;exact ⟨by simp [toPys,PyData.canLayAll0],by simp [toPys,PyData.depthAll]⟩
      | cons v l ihl=>
        intro hp
        simp only [List.all_cons,Bool.and_eq_true] at hp
        have h1:=ih v hp.1
        have h2:=ihl hp.2
        exact ⟨by simp [toPys,PyData.canLayAll0,h1.1,h2.1],by simp only [toPys,PyData.depthAll];exact gZ (lZ h1.2) (lZ h2.2)⟩
    intro v hp
    cases v <;> simp only [plain] at hp <;> first | cases hp | skip
    · exact ⟨by simp [toPy,PyData.canLay0],by simp [toPy,PyData.depth]⟩
    · exact ⟨by simp [toPy,PyData.canLay0],by simp [toPy,PyData.depth]⟩
    · have:=all _ hp;exact ⟨by simp [toPy,PyData.canLay0,this.1],by simp only [toPy,PyData.depth];exact lZ this.2⟩
    · have:=all _ hp;exact ⟨by simp [toPy,PyData.canLay0,this.1],by simp only [toPy,PyData.depth];exact lZ this.2⟩
theorem plain_shaped {v:V} (h:plain 4 v=true):SeqAt.shaped (toPy v)=true:=by
  have:=plain_lay 4 v h
  simp only [SeqAt.shaped,this.1,Bool.true_and,decide_eq_true_eq]
  exact lZ this.2
theorem plain_eqv:∀ (n:Nat) (a b:V),plain n a=true→plain n b=true→PyData.eqv (toPy a) (toPy b)=eqB n a b:=by
  intro n
  induction n with
  | zero=>
    intro a b ha hb
    cases a <;> simp only [plain] at ha <;> (try cases ha) <;> cases b <;> simp only [plain] at hb <;> (try cases hb) <;> simp [toPy,PyData.eqv,eqB]
  | succ n ih=>
    have all:∀ l m:List V,l.all (plain n)=true→m.all (plain n)=true→PyData.eqvAll (toPys l) (toPys m)=eqL (eqB n) l m:=by
      intro l
      induction l with
      | nil=>intro m _ _;cases m <;> simp [toPys,PyData.eqvAll,eqL]
      | cons v l ihl=>
        intro m hl hm
        cases m with
        | nil=>simp [toPys,PyData.eqvAll,eqL]
        | cons z m=>
          simp only [List.all_cons,Bool.and_eq_true] at hl hm
          simp only [toPys,PyData.eqvAll,eqL,ih v z hl.1 hm.1,ihl m hl.2 hm.2]
    intro a b ha hb
    cases a <;> simp only [plain] at ha <;> (try cases ha) <;> cases b <;> simp only [plain] at hb <;> (try cases hb) <;> simp [toPy,PyData.eqv,eqB]
    · exact all _ _ ha hb
    · exact all _ _ ha hb
end
end
section
open PySem PySem.W PySem.Calls PyProof.Rows
noncomputable def cmOf:Cm→CmpOp
  | .eq=>.Eq | .ne=>.NotEq | .lt=>.Lt | .le=>.LtE | .gt=>.Gt | .ge=>.GtE | .is=>.Is | .isn=>.IsNot | .isin=>.In
theorem strOf_inj:∀ i < 60,∀ j < 60,strOf i=strOf j→i=j:=by decide +kernel
theorem strOf_beq {i j:Nat} (hi:i < 60) (hj:j < 60):(strOf i ==strOf j)=(i ==j):=by
  rw [Bool.eq_iff_iff]
  simp only [beq_iff_eq]
  exact ⟨strOf_inj i hi j hj,fun e=>by exact ag e rfl⟩
section
variable {c:Cx} {A:Around} {s:Shared} {μ:Mu} {σ:St}
set_option tactic.hygienic true in
theorem deref_reads {u:Value} {a:V} (hr:az c.prog c.w c.fa c.ca s.heap μ σ) (ra:Rep c.fa s.heap μ u a) (hp:plain 4 (bF σ a)=true):∃ as,Reads s.heap u (toPy (bF σ a)) as:=by
  cases ra with
  | obj e=>
    rename_i n p
    simp only [bF] at hp ⊢
    split at hp
    · rename_i l hl
      refine aq (hr.get hl) fun q e' hq=>?_
      replace e':=e▸e';cases e'
      obtain ⟨h1,vs,⟨ob,h2⟩,h3⟩:=hq
      refine ag h1 ?_
      have all:∀ {us:List Value} {l:List V},l.all (plain 3)=true→aG c.fa s.heap μ us l→∃ as,ReadsAll s.heap us (toPys l) as:=by
        intro us l
        induction l generalizing us with
        | nil=>intro _ r;cases r;exact ⟨_,.nil⟩
        | cons v l ihl=>
          intro hp r
          cases r with
          | cons r rs=>
            simp only [List.all_cons,Bool.and_eq_true] at hp
            refine aN (plain_reads 3 hp.1 r) fun as ha=>?_
            refine aN (ihl hp.2 rs) fun bs hb=>?_
            exact ⟨_,.cons ha hb⟩
      refine aN (all (by simpa [plain] using hp) h3) fun as ha=>?_
      exact ⟨_,.list h2 rfl rfl ha⟩
    · simp [plain] at hp
  | none=>exact plain_reads (fa:=c.fa) (μ:=μ) 4 hp .none
  | int i t=>exact plain_reads (fa:=c.fa) (μ:=μ) 4 hp (.int i t)
  | bool b=>simp [bF,plain] at hp
  | str s t=>simp [bF,plain] at hp
  | fn k=>simp [bF,plain] at hp
  | rng _ _=>simp [bF,plain] at hp
  | tup a b r=>exact plain_reads 4 hp (.tup a b r)
  | lst a b r=>exact plain_reads 4 hp (.lst a b r)
theorem isNone_ok {u:Value} {a:V} {r:Bool} (ra:Rep c.fa s.heap μ u a) (h:isNoneV a=some r):plainIs u .none=true∧(u ==.none)=r:=by
  cases ra <;> simp only [isNoneV] at h <;> cases h <;> exact ⟨rfl,by first | rfl | simp⟩
noncomputable def sameV (x y:Value):Bool:=
  match y,x with
  | .int b _,.int a _=>b ==a
  | .str r _,.str s _=>r ==s
  | _,_=>false
theorem strEq_ok {i j:Nat} {r:Bool} (h:strEq i j=some r):(strOf i ==strOf j)=r:=by
  refine aY (ck h) fun q h=>?_
  refine aY (Bool.and_eq_true_iff.mp q) fun q1 q2=>?_
  refine someO h ?_
  exact strOf_beq (of_decide_eq_true q1) (of_decide_eq_true q2)
theorem scal_ok {u z:Value} {a b:V} {r:Bool} (ra:Rep c.fa s.heap μ u a) (rb:Rep c.fa s.heap μ z b) (h:scal a b=some r):SeqAt.EqAt A s u z (sameV z u)∧sameV z u=r:=by
  cases a with
  | int i=>replace h:=onI_ok h;obtain ⟨j,rfl,h⟩:=h;obtain ⟨t1,rfl⟩:=ra.intI;obtain ⟨t2,rfl⟩:=rb.intI;refine someO h ?_;exact ⟨SeqAt.EqAt.int_int _ _ _ _,rfl⟩
  | str i=>replace h:=onSv_ok h;obtain ⟨j,rfl,h⟩:=h;obtain ⟨t1,rfl⟩:=ra.strI;obtain ⟨t2,rfl⟩:=rb.strI;exact ⟨SeqAt.EqAt.str_str _ _ _ _,strEq_ok h⟩
  | _=>cases h
theorem inL_ok {x:Value} {a:V} (ra:Rep c.fa s.heap μ x a) {us:List Value} {l:List V} {r:Bool} (rs:aG c.fa s.heap μ us l) (h:inL a l=some r):(∀ y∈us,SeqAt.EqAt A s y x (sameV x y))∧us.any (sameV x)=r:=
  rs.ind (P:=fun us l=>∀ r,inL a l=some r→(∀ y∈us,SeqAt.EqAt A s y x (sameV x y))∧us.any (sameV x)=r) (fun r h=>⟨fun y hy=>(nomatch hy),Option.some.inj h⟩) (fun {v y us l} rv _ ih r h=>by
    obtain ⟨p,e1,h⟩:=Option.bind_eq_some_iff.mp h;obtain ⟨q,e2,e⟩:=Option.map_eq_some_iff.mp h
    have h12:=scal_ok (A:=A) rv ra e1;have h34:=ih _ e2
    refine ⟨fun z hz=>?_,by exact ag List.any_cons (ag h12.2 (ag h34.2 (ag e rfl)))⟩
    cases hz with
    | head=>exact h12.1
    | tail _ hz=>exact h34.1 z hz) r h
noncomputable def DatR (s:Shared) (u z:Value) (r:Bool):Prop:=(∃ as bs da db,Reads s.heap u da as∧Reads s.heap z db bs∧SeqAt.shaped da=true∧SeqAt.shaped db=true∧PyData.eqv da db=r)∨(∃ i j t v,u=.str (strOf i) t∧z=.str (strOf j) v∧(strOf i ==strOf j)=r)
theorem derefL_str {x:V} {i:Nat} (h:bF σ x=.str i):x=.str i:=by
  cases x with
  | obj n=>
    have:∀ o:Option AO,(match o with | some (.lst l)=>V.lst l | _=>.obj n)=.str i→V.obj n=.str i:=fun o q=>by split at q <;> cases q
    exact this _ h
  | _=>exact h
theorem datP (hr:az c.prog c.w c.fa c.ca s.heap μ σ) {u z:Value} {x y:V} (ra:Rep c.fa s.heap μ u x) (rb:Rep c.fa s.heap μ z y) {r:Bool} (h1:plain 4 (bF σ x)=true) (h2:plain 4 (bF σ y)=true) (h3:eqB 4 (bF σ x) (bF σ y)=r):DatR s u z r:=by
  obtain ⟨as,ha⟩:=deref_reads hr ra h1
  obtain ⟨bs,hb⟩:=deref_reads hr rb h2
  exact .inl ⟨as,bs,_,_,ha,hb,plain_shaped h1,plain_shaped h2,by exact ag (plain_eqv 4 _ _ h1 h2) (ag h3 rfl)⟩
theorem datE (hr:az c.prog c.w c.fa c.ca s.heap μ σ) {u z:Value} {x y:V} (ra:Rep c.fa s.heap μ u x) (rb:Rep c.fa s.heap μ z y) {r:Bool} {p q:V} (e1:bF σ x=p) (e2:bF σ y=q) (h:datEq p q=some r):DatR s u z r:=by
  subst e1 e2
  refine aY (ck h) fun q h=>?_
  refine aY (Bool.and_eq_true_iff.mp q) fun q1 q2=>?_
  exact datP hr ra rb q1 q2 (Option.some.inj h)
theorem eqV_ok (hr:az c.prog c.w c.fa c.ca s.heap μ σ) {u z:Value} {x y:V} (ra:Rep c.fa s.heap μ u x) (rb:Rep c.fa s.heap μ z y) {r:Bool} (h:eqV (bF σ x) (bF σ y)=some r):DatR s u z r:=by
  generalize e1:bF σ x=p at h
  cases p with
  | str i=>
    refine aq (onSv_ok h) fun j e2 h=>?_
    have e3:=derefL_str e1
    have e4:=derefL_str e2
    clear hr e2;subst e3 e4
    refine aN ra.strI fun t1 aW=>?_
    clear ra;subst aW
    refine aN rb.strI fun t2 aW=>?_
    clear rb;subst aW
    exact .inr ⟨i,j,t1,t2,rfl,rfl,strEq_ok h⟩
  | int i=>obtain ⟨j,e2,h⟩:=onI_ok h;exact datP hr ra rb (by refine ag e1 ?_;rfl) (by refine ag e2 ?_;rfl) (by refine ag e1 (ag e2 ?_);exact Option.some.inj h)
  | tup l=>obtain ⟨j,e2,h⟩:=onT_ok h;exact datE hr ra rb e1 e2 h
  | lst l=>obtain ⟨j,e2,h⟩:=onL_ok h;exact datE hr ra rb e1 e2 h
  | _=>clear rb ra hr;cases h
theorem ordI_ok {u z:Value} {x y:V} (ra:Rep c.fa s.heap μ u x) (rb:Rep c.fa s.heap μ z y) {f:Int→Int→Bool} {r:Bool} (h:ordI x y f=some r):∃ i t j v,u=.int i t∧z=.int j v∧f i j=r:=by
  replace h:=onI_ok h
  refine aq h fun i aW h=>?_
  rename_i zz;clear zz
  subst aW
  replace h:=onI_ok h
  refine aq h fun j aW h=>?_
  rename_i zz;clear zz
  subst aW
  refine aN ra.intI fun t1 aW=>?_
  clear ra;subst aW
  refine aN rb.intI fun t2 aW=>?_
  clear rb;subst aW
  exact ⟨i,t1,j,t2,rfl,rfl,Option.some.inj h⟩
theorem in_ok {u z:Value} {x y:V} {r:Bool} (ra:Rep c.fa s.heap μ u x) (rb:Rep c.fa s.heap μ z y) (h:inV x y=some r) {E:Value→Shared→Prop} {Q:Value→Shared→Prop} (fin:Q (.bool r) s):wpAny (model c.prog c.w) A (compareOp .In u z) Q E s:=by
  cases y with
  | tup l=>
    refine E3A4 rb.tupI fun a us e zq3 g zz rs=>?_
    clear rb zz;subst zq3
    refine aY (inL_ok (A:=A.in1) ra rs h) fun h1 h2=>?_
    exact SeqAt.in_tupleAt (sameV u) ⟨_,g,rfl,_,rfl⟩ (fun y hy=>h1 y (by simpa using hy)) (by refine ag List.any_toArray (ag h2 ?_);exact fin)
  | lst l=>
    refine E3A4 rb.lstI fun a us e zq3 g zz rs=>?_
    clear rb zz;subst zq3
    refine aY (inL_ok (A:=A.in1) ra rs h) fun h1 h2=>?_
    exact SeqAt.in_listAt (sameV u) ⟨_,g,rfl,_,rfl⟩ (fun y hy=>h1 y (by simpa using hy)) (by refine ag List.any_toArray (ag h2 ?_);exact fin)
  | _=>clear fin rb ra;cases h
theorem cmp_ok {o:Cm} {u z:Value} {x y:V} {r:Bool} (hu:A.units+64 < cLine) (hr:az c.prog c.w c.fa c.ca s.heap μ σ) (ra:Rep c.fa s.heap μ u x) (rb:Rep c.fa s.heap μ z y) (h:cmpV σ o x y=some r):
    Runs c A [] (compareOp (cmOf o) u z) s μ (fun h' μ' v=>h'=s.heap∧μ'=μ∧v=.bool r):=by
  intro E Q hQ
  have fin:Q (.bool r) s:=hQ _ s.heap s.toks μ (.refl ..) ⟨rfl,rfl,rfl⟩
  clear hQ
  cases o with
  | eq=>
    rcases eqV_ok hr ra rb h with ⟨as,bs,da,db,h1,h2,h3,h4,h5⟩ | ⟨i,j,t,v,e1,e2,h5⟩
    · exact eq_dataH h1 h2 h3 h4 hu (by refine ag h5 ?_;exact fin)
    · refine ag e1 (ag e2 ?_);exact EqBoolInt.of_rc (SeqAt.RcAt.str_str _ _ _ _) (by refine ag h5 ?_;exact fin)
  | ne=>
    refine aq (Option.map_eq_some_iff.mp h) fun r' h' e=>?_
    rcases eqV_ok hr ra rb h' with ⟨as,bs,da,db,h1,h2,h3,h4,h5⟩ | ⟨i,j,t,v,e1,e2,h5⟩
    · exact ne_dataH h1 h2 h3 h4 hu (by refine ag h5 (ag e ?_);exact fin)
    · refine ag e1 (ag e2 ?_);exact EqBoolInt.of_rcne (SeqAt.RcNeAt.str_str _ _ _ _) (by refine ag h5 (ag e ?_);exact fin)
  | lt=>obtain ⟨i,t,j,v,e1,e2,e3⟩:=ordI_ok (f:=fun a b=>decide (a < b)) ra rb h;refine ag e1 (ag e2 ?_);exact lt_int (by refine ag e3 ?_;exact fin)
  | le=>obtain ⟨i,t,j,v,e1,e2,e3⟩:=ordI_ok (f:=fun a b=>decide (a≤b)) ra rb h;refine ag e1 (ag e2 ?_);exact P.le_int (by refine ag e3 ?_;exact fin)
  | gt=>obtain ⟨i,t,j,v,e1,e2,e3⟩:=ordI_ok (f:=fun a b=>decide (b < a)) ra rb h;refine ag e1 (ag e2 ?_);exact gt_int (by refine ag e3 ?_;exact fin)
  | ge=>obtain ⟨i,t,j,v,e1,e2,e3⟩:=ordI_ok (f:=fun a b=>decide (b≤a)) ra rb h;refine ag e1 (ag e2 ?_);exact P.ge_int (by refine ag e3 ?_;exact fin)
  | is=>
    refine aY (onN_ok h) fun e h=>?_
    rw [e] at rb
    refine ag rb.noneI ?_
    refine aY (isNone_ok ra h) fun h1 h2=>?_
    exact wpAny_is_plain h1 (by refine ag h2 ?_;exact fin)
  | isn=>
    refine aY (onN_ok h) fun e h=>?_
    rw [e] at rb
    refine ag rb.noneI ?_
    refine aq (Option.map_eq_some_iff.mp h) fun r' h' e'=>?_
    refine aY (isNone_ok ra h') fun h1 h2=>?_
    exact wpAny_isNot_plain h1 (by refine ag h2 (ag e' ?_);exact fin)
  | isin=>exact in_ok ra rb h fin
theorem truth_ok {u:Value} {x:V} {b:Bool} (ra:Rep c.fa s.heap μ u x) (h:truth x=some b):Runs c A [] (truthy u) s μ (fun h' μ' v=>h'=s.heap∧μ'=μ∧v=b):=by
  intro E Q hQ
  have fin:Q b s:=hQ _ s.heap s.toks μ (.refl ..) ⟨rfl,rfl,rfl⟩
  clear hQ;cases ra <;> simp only [truth] at h <;> cases h
  · exact truthy_none fin
  · exact wpAny_truthy_bool fin
  · exact P.truthy_int fin
end
end
section
open PySem PySem.W PySem.Calls PyProof.Rows
theorem lookup_zip_pos:∀ {ns:List PySem.Str} {us:List Value},ns.Nodup→ns.length=us.length→∀ i (hi:i < ns.length),(ns.zip us).lookup ns[i]=us[i]?
  | [],_,_,_,i,hi=>absurd hi (Nat.not_lt_zero _)
  | n :: ns,u :: us,nd,hl,0,_=>by simp
  | n :: ns,u :: us,nd,hl,i+1,hi=>by
    refine aY (List.nodup_cons.mp nd) fun h1 h2=>?_
    have hi':i < ns.length:=by simpa using hi
    have:(ns[i] ==n)=false:=by
      rw [beq_eq_false_iff_ne]
      intro e
      exact h1 (e▸List.getElem_mem hi')
    simp [List.lookup_cons,this,lookup_zip_pos h2 (by simpa using hl) i hi']
theorem bind_names {ns:List PySem.Str} {us:List Value} (nd:ns.Nodup) (hl:ns.length=us.length):(ns.filterMap fun n=>((ns.zip us).lookup n).map (n,·))=ns.zip us:=by
  have key:∀ (ms:List PySem.Str) (ws:List Value),ms.Nodup→ms.length=ws.length→∀ f:PySem.Str→Option Value,(∀ i (hi:i < ms.length),f ms[i]=ws[i]?)→(ms.filterMap fun n=>(f n).map (n,·))=ms.zip ws:=by
    intro ms
    induction ms with
    | nil=>intro ws _ _ _ _;simp
    | cons m ms ih=>
      intro ws nd hl f hf
      cases ws with
      | nil=>simp at hl
      | cons w ws=>
        have h0:=hf 0 (by simp)
        simp only [List.getElem_cons_zero,List.getElem?_cons_zero] at h0
        simp only [List.filterMap_cons,h0,Option.map_some,List.zip_cons_cons]
        rw [ih ws (List.nodup_cons.mp nd).2 (by simpa using hl) f fun i hi=>by
          have:=hf (i+1) (by simpa using hi)
          simpa using this]
  exact key ns us nd hl _ fun i hi=>lookup_zip_pos nd hl i hi
noncomputable def plainParams (p:Arguments):Bool:=p.posonlyargs.isEmpty && p.kwonlyargs.isEmpty && p.vararg.isNone && p.kwarg.isNone
theorem lookup_isNone {ns:List PySem.Str} {us:List Value} (nd:ns.Nodup) (hl:ns.length=us.length) {n:PySem.Str} (hn:n∈ns):((ns.zip us).lookup n).isNone=false:=by
  obtain ⟨i,hi,rfl⟩:=List.mem_iff_getElem.mp hn
  refine ag (lookup_zip_pos nd hl i hi) ?_
  have:i < us.length:=hl▸hi
  simp [this]
theorem ite_ng {α:Type} {c:Prop} [Decidable c] {a b d:α} (h:¬c) (k:b=d):(if c then a else b)=d:=by rw [if_neg h];exact k
theorem b_over {ns:List PySem.Str} {us:List Value} (hl:ns.length=us.length):¬((decide (us.length > ns.length) && true)=true):=by
  rw [hl];simp
theorem b_miss {ns:List PySem.Str} {us:List Value} (nd:ns.Nodup) (hl:ns.length=us.length) {k:Nat}:¬((!((ns.take k).filter fun n=>((ns.zip us).lookup n).isNone).isEmpty)=true):=by
  have:((ns.take k).filter fun n=>((ns.zip us).lookup n).isNone)=[]:=by
    rw [List.filter_eq_nil_iff]
    intro n hn
    refine ag (lookup_isNone nd hl (List.mem_of_mem_take hn)) ?_;decide
  rw [this];decide
theorem b_dfl {ns:List PySem.Str} {us:List Value} (nd:ns.Nodup) (hl:ns.length=us.length) {β:Type} {f:PySem.Str×Value→List (PySem.Str×Value)→Sem (ForInStep (List (PySem.Str×Value)))} {k:List (PySem.Str×Value)→Sem β} {d:Sem β} (hf:∀ n d r,(r.lookup n).isNone=false→f (n,d) r=pure (.yield r)) (hk:k (ns.zip us)=d):
    ∀ (ds:List (PySem.Str×Value)),(∀ d∈ds,d.1∈ns)→(forIn ds (ns.zip us) f >>=k)=d
  | [],_=>hk
  | (n,v) :: ds,hm=>by
    refine ag (List.forIn_cons ..) (ag (hf _ _ _ (lookup_isNone nd hl (hm (n,v) (.head _)))) ?_)
    exact b_dfl nd hl hf hk ds fun e he=>hm e (.tail _ he)
theorem bind_names' {ns:List PySem.Str} {us:List Value} (nd:ns.Nodup) (hl:ns.length=us.length):((ns++[]).filterMap fun n=>((ns.zip us).lookup n).map (n,·))=ns.zip us:=by
  rw [List.append_nil];exact bind_names nd hl
theorem of_seq {s:Shared} {fd:FuncData} {args:Args} {binds:List (PySem.Str×Value)} {k:Option (Array Value)→Sem (List (PySem.Str×Value))} (hd:fd.defaults=.none∨∃ a o vs n,fd.defaults=.ref a∧s.heap.get? a=some o∧o.data=.seq vs n)
    (h1:bindArgs fd args=seqItems? fd.defaults >>=k) (h2:∀ v,k v=pure binds):BindsTo s fd args binds:=by
  rcases hd with e | ⟨a,o,vs,n,e,ho,hs⟩
  · refine BindsTo.of_eq (h1.trans ?_);rw [e];exact h2 none
  · exact BindsTo.of_defaults e ho hs h1 (h2 _)
theorem bind_raw {s:Shared} {fd:FuncData} {as kdf ds} {us:List Value} (nd:(as.map (fun x:Arg=>x.arg)).Nodup) (hl:(as.map (fun x:Arg=>x.arg)).length=us.length)
    (hd:fd.defaults=.none∨∃ a o vs n,fd.defaults=.ref a∧s.heap.get? a=some o∧o.data=.seq vs n):BindsTo s { fd with params:=⟨[],as,none,[],kdf,none,ds⟩ } ⟨us,[]⟩ ((as.map (fun x:Arg=>x.arg)).zip us):=by
  refine of_seq hd rfl fun v=>?_
  clear hd
  refine ite_ng ?_ ?_
  · exact b_over hl
  refine ite_ng ?_ ?_
  · exact b_miss nd hl
  refine b_dfl nd hl ?_ ?_ _ ?_
  · exact fun n d r h=>if_neg (h▸nofun)
  · exact congrArg (pure:_→Sem (List (PySem.Str×Value))) (bind_names' nd hl)
  · exact fun d hd=>List.mem_of_mem_drop (List.of_mem_zip hd).1
theorem params_eq {p:Arguments} (hp:plainParams p=true):p=⟨[],p.args,none,[],p.kw_defaults,none,p.defaults⟩:=by
  obtain ⟨po,as,va,ko,kdf,kw,ds⟩:=p
  simp only [plainParams,Bool.and_eq_true,List.isEmpty_iff,Option.isNone_iff_eq_none] at hp
  obtain ⟨⟨⟨rfl,rfl⟩,rfl⟩,rfl⟩:=hp
  rfl
theorem fd_eq {fd:FuncData} {p:Arguments} (e:fd.params=p):{ fd with params:=p }=fd:=by subst e;rfl
theorem bind_ok {s:Shared} {fd:FuncData} {us:List Value} (hp:plainParams fd.params=true) (nd:(fd.params.args.map (·.arg)).Nodup) (hl:(fd.params.args.map (·.arg)).length=us.length)
    (hd:fd.defaults=.none∨∃ a o vs n,fd.defaults=.ref a∧s.heap.get? a=some o∧o.data=.seq vs n):BindsTo s fd ⟨us,[]⟩ ((fd.params.args.map (·.arg)).zip us):=
  @Eq.subst FuncData (fun x=>BindsTo s x ⟨us,[]⟩ ((fd.params.args.map (·.arg)).zip us)) _ _ (fd_eq (params_eq hp)) (bind_raw nd hl hd)
section
variable {c:Cx} {A:Around} {s:Shared} {μ:Mu} {σ:St}
theorem IsTup_of {h:Heap} {a:Addr} {vs:List Value} {e:Nat} (g:h.get? a=some (tupO vs e)):IsTup h a vs.toArray:=⟨_,g,rfl,_,rfl⟩
theorem idxL_get {l:List V} {i:Int} {v:V} (h:idxL l i=some v):(0≤i∧l[i.toNat]?=some v)∨(i < 0∧-(l.length:Int)≤i∧l[(l.length+i).toNat]?=some v):=by
  unfold idxL at h
  split at h
  · rename_i q;exact .inl ⟨q,h⟩
  · split at h
    · rename_i q q';exact .inr ⟨by lia,q',h⟩
    · cases h
inductive SeqAt' (h:Heap):Value→List Value→Prop where
  | tup {a vs e}:h.get? a=some (tupO vs e)→SeqAt' h (.ref a) vs
  | lst {a} {vs:List Value}:h.PlainList a vs.toArray→SeqAt' h (.ref a) vs
set_option tactic.hygienic true in
theorem seqOf_ok {u:Value} {x:V} {l:List V} (hr:az c.prog c.w c.fa c.ca s.heap μ σ) (ra:Rep c.fa s.heap μ u x) (h:bk σ x=some l):∃ vs,SeqAt' s.heap u vs∧aG c.fa s.heap μ vs l:=by
  cases ra <;> simp only [bk] at h <;> first | cases h | skip
  · rename_i g _ rs;exact aI _ (.tup g) rs
  · rename_i g _ rs;exact aI _ (.lst ⟨_,g⟩) rs
  · rename_i n p e
    split at h
    · rename_i l' hl
      refine someO h ?_
      refine aq (hr.get hl) fun q e' hq=>?_
      replace e':=e▸e';cases e'
      obtain ⟨h1,vs,h2,h3⟩:=hq
      exact aI vs (by refine ag h1 ?_;exact .lst h2) h3
    · cases h
theorem idxOk_lt {a:Int} (h:idxOk a=true):a.natAbs < 1000000:=by simpa [idxOk] using h
set_option tactic.hygienic true in
theorem getItem_ok {u z:Value} {x y v:V} (hr:az c.prog c.w c.fa c.ca s.heap μ σ) (ra:Rep c.fa s.heap μ u x) (rb:Rep c.fa s.heap μ z y) (h:getI σ x y=some v):
    ∃ T id,s.TypeIs u T∧typeLookup (.type T) "__getitem__" = pure (some (.builtin id))∧(∃ k t,z=.int k t)∧
    Runs c A [] (getItem u z) s μ (fun h' μ' r=>h'=s.heap∧μ'=μ∧Rep c.fa s.heap μ r v):=by
  unfold getI at h
  split at h
  · rename_i l k hl
    cases rb
    rename_i t
    split at h
    · rename_i q
      have hk:=idxOk_lt q
      refine aq (seqOf_ok hr ra hl) fun vs hs rs=>?_
      have hlen:=rs.len
      rcases idxL_get h with ⟨h0,hg⟩ | ⟨h0,h1,hg⟩
      · refine aq (rs.get hg) fun r hr1 hr2=>?_
        cases hs with
        | tup g=>
          refine I2A4 ("tuple") _ ((IsTup_of g).typeIs) slot_tuple_getitem.lookup ⟨k,t,rfl⟩ (fun E Q hQ=>?_)
          refine getItem_tuple (IsTup_of g) (by lia) (by lia) (j:=k.toNat) ?_ (by simpa using hr1) (hQ _ s.heap s.toks μ (.refl ..) ⟨rfl,rfl,hr2⟩)
          have hlt:=(List.getElem?_eq_some_iff.mp hg).1
          have e1:¬ k < 0:=by lia
          have e2:(decide (0≤k) && decide (k < (vs.toArray.size:Int)))=true:=by simp;lia
          simp only [seqIndex?,e1,if_false,e2,if_true]
        | lst g=>
          refine I2A4 ("list") _ g.isList.typeIs slot_list_getitem.lookup ⟨k,t,rfl⟩ (fun E Q hQ=>?_)
          exact wpAny_getItem_list g.isList h0 (by lia) (by simpa using hr1) (hQ _ s.heap s.toks μ (.refl ..) ⟨rfl,rfl,hr2⟩)
      · refine aq (rs.get hg) fun r hr1 hr2=>?_
        cases hs with
        | tup g=>
          refine I2A4 ("tuple") _ ((IsTup_of g).typeIs) slot_tuple_getitem.lookup ⟨k,t,rfl⟩ (fun E Q hQ=>?_)
          refine getItem_tuple (IsTup_of g) (by lia) (by lia) (j:=(l.length+k).toNat) ?_ (by simpa using hr1) (hQ _ s.heap s.toks μ (.refl ..) ⟨rfl,rfl,hr2⟩)
          have e2:(decide (0≤k+(vs.toArray.size:Int)) && decide (k+(vs.toArray.size:Int) < (vs.toArray.size:Int)))=true:=by simp;lia
          simp only [seqIndex?,h0,if_true,e2]
          congr 2
          simp;lia
        | lst g=>
          refine I2A4 ("list") _ g.isList.typeIs slot_list_getitem.lookup ⟨k,t,rfl⟩ (fun E Q hQ=>?_)
          refine wpAny_getItem_list_neg g.isList h0 (by simp;lia) (by lia) (x:=r) ?_ (hQ _ s.heap s.toks μ (.refl ..) ⟨rfl,rfl,hr2⟩)
          have e:(k+(vs.toArray.size:Int)).toNat=(l.length+k).toNat:=by simp;lia
          refine ag e ?_;simpa using hr1
    · cases h
  · cases h
end
open MeetsSeq in
theorem pop_meets (l:Addr) (dd:Option Addr) (sl:Array (Option Value)) (items:Array Value) (n:Nat) (i:Int) (u:Tok) (k:Nat) (y:Value) (hfit:Builtin.List.listFitsIndex i=true) (hk:seqIndex? i items.size=some k) (hy:items[k]?=some y)
    (hs:items.size≤sizeLine):Meets (Builtin.«list.pop» ⟨[.ref l,.int i u],[]⟩)
      (fun _ R s=>s.heap.get? l=some { cls:=.type "list",dict:=dd,data:=.seq items n,slots:=sl }∧R (.ok (.ret y)) { s with heap:=s.heap.update l (Obj.mapSeq fun xs=>xs.eraseIdxIfInBounds k) }):=
  .of_wp fun prog w A R s h=>by
    obtain ⟨hp,g,d,tk,os⟩:=s
    obtain ⟨hl,h⟩:=h
    have bc:¬ items.isEmpty=true:=by
      have:=(Array.getElem?_eq_some_iff.mp hy).1
      intro z
      have:items.size=0:=by simpa using z
      lia
    have hf:¬ (!Builtin.List.listFitsIndex i)=true:=by rw [hfit];decide
    have hz:(items.eraseIdxIfInBounds k).size≤sizeLine+1:=by
      unfold Array.eraseIdxIfInBounds
      split
      · simp;exact lZ hs
      · exact lZ hs
    wp_walk using AutoSeq1.wpAny_loadPart' hl
    simp only [hk,hy,Option.bind_some,Option.map_some]
    wp_walk using (wpAny_updateSeq hl rfl (hz:=hs) (_hz':=hz)),AutoSeq1.wpAny_loadPart' hl
    exact aI _ rfl h
end
section
open PySem PySem.W PySem.Calls PyProof.Rows
section
variable {c:Cx} {A:Around} {s:Shared} {μ:Mu} {σ:St}
theorem Cx.Rel.grow {h h':Heap} (r:c.Rel h μ σ) (hk:∀ b o,h.get? b=some o→h'.get? b=some o):c.Rel h' μ σ:=
  ⟨r.1.ext (.keeps hk) (by simp),r.2.keeps hk⟩
theorem Cx.Rel.push {h:Heap} (r:c.Rel h μ σ) (o:Obj):c.Rel (h.push o) μ σ:=r.grow fun zz zz e=>Heap.get?_push_of_some _ e
theorem Cx.Rel.upd {h h':Heap} {n:Nat} {p:Addr×Addr} {o':AO} (r:c.Rel h μ σ) (hp:μ.l[n]?=some p) (hs:Heap.SameBut p.2 h h') (ho:Ext [] h μ h' μ→dm c.prog c.w c.fa c.ca h' μ p o') (hl:∃ ob,h'.get? p.2=some ob):
    Ext [] h μ h' μ∧c.Rel h' μ (σ.set n o'):=by
  refine aN hl fun ob hl=>?_
  rename_i zz;clear zz
  have x:Ext [] h μ h' μ:=.same hs (.inl (mem_chg hp)) hl
  exact ⟨x,r.1.ext x (by simp),r.2.upd hp hs (ho x)⟩
theorem cu.keys {fa:Nat→Option Addr} {h:Heap} {μ:Mu}:∀ {kvs:List (Int×Value)} {l:List (Int×V)},cu fa h μ kvs l→kvs.map (·.1)=l.map (·.1)
  | _,_,.nil=>rfl
  | _,_,.cons _ r=>by simp [r.keys]
theorem cu.len {fa:Nat→Option Addr} {h:Heap} {μ:Mu} {kvs:List (Int×Value)} {l:List (Int×V)} (r:cu fa h μ kvs l):kvs.length=l.length:=by
  have:=congrArg List.length r.keys
  simpa using this
theorem cu.get {fa:Nat→Option Addr} {h:Heap} {μ:Mu} {k:Int}:∀ {kvs:List (Int×Value)} {l:List (Int×V)},cu fa h μ kvs l→Rep fa h μ ((valueAt kvs k).getD .none) ((getD k l).getD .none)
  | _,_,.nil=>by simp [valueAt,getD,Rep.none]
  | _,_,.cons (k:=j) r rs=>by
    have ih:=rs.get (k:=k)
    by_cases hj:j=k
    · simp [valueAt,getD,hj,r]
    · simp only [valueAt,getD,hj,if_false,List.find?_cons,decide_false]
      exact ih
theorem cu.put {fa:Nat→Option Addr} {h:Heap} {μ:Mu} {k:Int} {v:Value} {V:V} (rv:Rep fa h μ v V):∀ {kvs:List (Int×Value)} {l:List (Int×Mine.V)},cu fa h μ kvs l→(kvs.map (·.1)).Nodup→cu fa h μ (stored kvs k v) (putD k V l)
  | _,_,.nil,_=>by simp [stored,putD];exact .cons rv .nil
  | _,_,.cons (k:=j) (v:=u) (es:=kvs) (fs:=l) r rs,nd=>by
    have nd':(kvs.map (·.1)).Nodup:=by simpa using (List.nodup_cons.mp nd).2
    have hj0:j∉kvs.map (·.1):=by simpa using (List.nodup_cons.mp nd).1
    have ih:=cu.put (k:=k) rv rs nd'
    by_cases hj:j=k
    · clear ih nd';subst hj
      have:kvs.map (fun kv=>if kv.1=j then (kv.1,v) else kv)=kvs:=by
        refine (List.map_congr_left fun kv hkv=>?_).trans (List.map_id _)
        refine ag (if_neg fun e=>hj0 (List.mem_map.mpr ⟨kv,hkv,e⟩)) ?_;rfl
      simp only [stored,putD,List.any_cons,decide_true,Bool.true_or,if_true,List.map_cons,this]
      exact .cons rv rs
    · simp only [stored,putD,List.any_cons,hj,decide_false,Bool.false_or,if_false,List.map_cons] at ih ⊢
      split at ih
      · rename_i q;refine ag (if_pos q) ?_;exact .cons r ih
      · rename_i q;refine ag (if_neg q) ?_;exact .cons r ih
theorem setItem_plain {l:Addr} {items:Array Value} {k:Int} {t:Tok} {v:Value} {E:Value→Shared→Prop} {Q:Unit→Shared→Prop} (hl:s.heap.PlainList l items)
    (h0:0≤k) (hfit:k < 2 ^ 63) (hn:k < items.size)
    (hQ:∀ h',h'.PlainList l (items.setIfInBounds k.toNat v)→Heap.SameBut l s.heap h'→Q () { s with heap:=h' }):
    wpAny (model c.prog c.w) A (setItem (.ref l) (.int k t) v) Q E s:=by
  have hl':=hl.isList
  obtain ⟨n,ho⟩:=hl
  unfold setItem
  try with_reducible refine wpAny_holding ?_
  first | refine wpAny_bind (wpAny_pure ?_) | skip
  refine wpAny_bind (wpAny_sequenceKey hl'.typeIs (by decide) ?_)
  refine wpAny_bind (wpAny_callSpecial?_slot (name:=Str.ofString "__setitem__") hl'.typeIs slot_list_setitem
    (wpAny_call_entry slot_list_setitem hl'.typeIs entry_list_setitem ?_ (args_list_setitem _ _ _)))
  show wpAny _ _ (Builtin.List.listSubscript? (.int k t) >>=_) _ _ s
  refine wpAny_bind (wpAny_listSubscript_int (fitsIndex_of h0 hfit) ?_)
  clear hfit
  obtain ⟨j,rfl⟩:=Int.eq_ofNat_of_zero_le h0
  have hj:j < items.size:=by omega
  have hx':items[j]?=some items[j]:=Array.getElem?_eq_getElem hj
  show wpAny _ _ ((seqItemAt l j >>=fun r=>pure (r.map (j,·))) >>=_) _ _ s
  refine wpAny_bind (wpAny_bind (wpAny_seqItemAt ho rfl (wpAny_pure ?_)))
  refine ag hx' ?_
  show wpAny _ _ (setSeqItemAt l j v >>=_) _ _ s
  have hfin:(s.heap.update l (Obj.mapSeq (·.setIfInBounds j v))).PlainList l (items.setIfInBounds j v):=⟨_,IsL.update (n:=n) ho _⟩
  refine wpAny_bind (wpAny_setSeqItemAt ho rfl ?_)
  first
    | exact wpAny_bind (wpAny_pure (wpAny_pure (aI .none rfl (wpAny_pure (hQ _ hfin (Heap.SameBut.update ..))))))
    | exact wpAny_pure (aI .none rfl (wpAny_pure (hQ _ hfin (Heap.SameBut.update ..))))
set_option tactic.hygienic true in
theorem setItem_ok {u z t:Value} {x y v:V} {σ':St} (hr:c.Rel s.heap μ σ) (ra:Rep c.fa s.heap μ u x) (rb:Rep c.fa s.heap μ z y) (rv:Rep c.fa s.heap μ t v) (h:setI σ x y v=some σ'):
    Runs c A [] (setItem u z t) s μ (fun h' μ' _=>μ'=μ∧c.Rel h' μ' σ'):=by
  intro E Q hQ
  unfold setI at h
  split at h
  · rename_i n k
    cases rb;rename_i tk
    cases ra;rename_i p hp
    split at h
    · rename_i l hl
      obtain ⟨p',dQ,ho⟩:=hr.2.get hl
      replace dQ:=hp▸dQ;clear hl;cases dQ
      obtain ⟨e1,vs,hlst,rs⟩:=ho
      split at h
      · rename_i q
        cases h
        simp only [Bool.and_eq_true,decide_eq_true_eq] at q
        have hlen:=rs.len
        refine ag e1 ?_
        refine setItem_plain hlst q.1.1 (by omega) (by simp;omega) fun h' hl' hs=>?_
        have:=hr.upd (o':=.lst (l.set k.toNat v)) hp hs (fun x=>⟨e1,vs.set k.toNat t,by simpa using hl',(rs.ext x (.nil _)).set (rv.ext x (.nil _)) k.toNat⟩) (hl'.elim fun o a=>⟨_,a⟩)
        exact hQ _ h' s.toks μ this.1 ⟨rfl,this.2⟩
      · clear rv hr v rs hlst vs e1 hp n hQ;cases h
    · rename_i l hl
      obtain ⟨p',dQ,ho⟩:=hr.2.get hl
      replace dQ:=hp▸dQ;clear hl;cases dQ
      obtain ⟨e1,kvs,hd,rs⟩:=ho
      split at h
      · rename_i q
        cases h
        have nd:(kvs.map (·.1)).Nodup:=let ⟨_,_,_,_,_,_,_,_,nd⟩:=hd;nd
        refine ag e1 ?_
        refine wpAny_setItem_pairs (knd:=intKind c.prog c.w) (k:=k) (by simp [intKind,Value.isInt]) hd (fun h' hd' hs=>?_) (by refine ag rs.len (ag sizeLine_eq ?_);exact lZ q)
        have:=hr.upd (o':=.cN (putD k v l)) hp hs (fun x=>⟨e1,_,hd',(rs.ext x (.nil _)).put (rv.ext x (.nil _)) nd⟩) (let ⟨o,_,_,a,_⟩:=hd';⟨o,a⟩)
        exact hQ _ h' (s.toks+1) μ this.1 ⟨rfl,this.2⟩
      · clear rv hr v hd rs e1 hp n hQ;cases h
    · clear rv hr v hp hQ;cases h
  · clear rv rb ra hr v hQ;cases h
theorem eraseIf {xs:Array Value} {k:Nat}:(xs.eraseIdxIfInBounds k).toList=xs.toList.eraseIdx k:=by
  unfold Array.eraseIdxIfInBounds
  split
  · simp
  · rename_i q
    exact ag (List.eraseIdx_of_length_le (by simpa using q)) rfl
set_option tactic.hygienic true in
theorem lstMeth_ok {n a:Nat} {p:Addr×Addr} {us:List Value} {vs:List V} {v:V} {σ':St} (hr:c.Rel s.heap μ σ) (hp:μ.l[n]?=some p) (rs:aG c.fa s.heap μ us vs) (h:lstMeth n a vs σ=some (v,σ')) (hf:a=0∨a=1):
    Runs c A [] (call (.builtin (if a=0 then "list.append" else "list.pop")) (.ref p.1 :: us)) s μ (fun h' μ' u=>c.Rel h' μ' σ'∧Rep c.fa h' μ' u v):=by
  intro E Q hQ
  unfold lstMeth at h
  split at h
  · rename_i l hl
    refine aq (hr.2.get hl) fun p' dQ ho=>?_
    replace dQ:=hp▸dQ;clear hf hl;cases dQ
    obtain ⟨e1,ws,hlst,rw_⟩:=ho
    have hlen:=rw_.len
    split at h
    · rename_i V
      split at h
      · rename_i q
        cases h
        cases rs;rename_i w ws' rv rn
        cases rn
        rw [if_pos rfl,e1]
        refine wpAny_list_append_plain hlst (fun h' hl' hs=>?_) (by rw [List.size_toArray,hlen,sizeLine_eq];exact lZ q)
        have:=hr.upd (o':=.lst (l++[V])) hp hs (fun x=>⟨e1,ws++[w],by simpa using hl',(rw_.ext x (.nil _)).append (.cons (rv.ext x (.nil _)) .nil)⟩) (hl'.elim fun o a=>⟨_,a⟩)
        exact hQ _ h' s.toks μ this.1 ⟨this.2,.none⟩
      · clear rs hp hr n hlen rw_ hlst ws e1 V hQ;cases h
    · rename_i i
      split at h
      · rename_i q
        simp only [Bool.and_eq_true,decide_eq_true_eq] at q
        refine aq (Option.map_eq_some_iff.mp h) fun V hV hvv=>?_
        clear h;cases hvv
        cases rs;rename_i w ws' rv rn
        cases rn;cases rv
        refine aq (rw_.get hV) fun y hy ry=>?_
        have hi:=(List.getElem?_eq_some_iff.mp hV).1
        rw [if_neg (by decide),e1]
        have hlst':=hlst.isList
        refine aN hlst fun k ho=>?_
        clear hlst
        refine call_meets F.slot_list_pop hlst'.typeIs F.entry_list_pop (F.args_list_pop_2 _ _) (pop_meets p.2 Option.none #[] ws.toArray k i _ i.toNat y (by simp [Builtin.List.listFitsIndex];omega) ?_ (by simpa using hy) (by rw [List.size_toArray,hlen,sizeLine_eq];exact lZ q.2)) ⟨ho,?_⟩
        · have e0:¬ i < 0:=by omega
          have e2:(decide (0≤i) && decide (i < (ws.toArray.size:Int)))=true:=by simp;omega
          simp only [seqIndex?,e0,if_false,e2,if_true]
        · have hs:=Heap.SameBut.update s.heap p.2 (Obj.mapSeq fun xs=>xs.eraseIdxIfInBounds i.toNat)
          have hl':(s.heap.update p.2 (Obj.mapSeq fun xs=>xs.eraseIdxIfInBounds i.toNat)).PlainList p.2 (ws.eraseIdx i.toNat).toArray:=by
            have:=IsL.update (n:=k) ho (fun xs=>xs.eraseIdxIfInBounds i.toNat)
            have e:ws.toArray.eraseIdxIfInBounds i.toNat=(ws.eraseIdx i.toNat).toArray:=by
              rw [← eraseIf (xs:=ws.toArray)]
            rw [← e]
            exact ⟨_,this⟩
          have:=hr.upd (o':=.lst (l.eraseIdx i.toNat)) hp hs (fun x=>⟨e1,_,hl',(rw_.ext x (.nil _)).eraseIdx i.toNat⟩) (hl'.elim fun o a=>⟨_,a⟩)
          exact hQ _ _ s.toks μ this.1 ⟨this.2,ry.ext this.1 (.nil _)⟩
      · clear rs hp hr n hlen rw_ hlst ws e1 hQ;cases h
    · clear rs hp hr n hlen rw_ hlst ws e1 l hQ;cases h
  · clear hf rs hp hr vs hQ;cases h
set_option tactic.hygienic true in
theorem dctMeth_ok {n a:Nat} {p:Addr×Addr} {us:List Value} {vs:List V} {v:V} {σ':St} (hr:c.Rel s.heap μ σ) (hp:μ.l[n]?=some p) (rs:aG c.fa s.heap μ us vs) (h:dctMeth n a vs σ=some (v,σ')):
    Runs c A [] (call (.builtin "dict.get") (.ref p.1 :: us)) s μ (fun h' μ' u=>c.Rel h' μ' σ'∧Rep c.fa h' μ' u v):=by
  intro E Q hQ
  unfold dctMeth at h
  split at h
  · rename_i l hl
    refine aq (hr.2.get hl) fun p' dQ ho=>?_
    rw [hp] at dQ;clear hl;cases dQ
    obtain ⟨e1,kvs,hd,rk⟩:=ho
    split at h
    · rename_i k
      cases h
      cases rs;rename_i w ws' rv rn
      cases rn;cases rv;rename_i t
      have hsys:(p.2 ==sysModules)=false:=by
        have:=hr.1.high p.2 (mem_muts hp)
        rw [beq_eq_false_iff_ne]
        intro z
        rw [z] at this
        exact absurd this (by decide)
      refine ag e1 ?_
      refine call_meetsIn F.slot_dict_get hd.typeIs F.entry_dict_get (F.args_dict_get_2 _ _) (meets_dict_get (intKind c.prog c.w) p.2 (k:=k) (by simp [intKind,Value.isInt]) hsys) (aI _ hd.mapOf ?_)
      exact hQ _ s.heap (s.toks+1) μ (.refl ..) ⟨hr,rk.get⟩
    · clear rs hp hr n rk hd kvs e1 l hQ;cases h
  · clear rs hp hr vs a hQ;cases h
end
end
section
open PySem PySem.W PySem.Calls PyProof.Rows
theorem foldl_max_ge:∀ (l:List Int) (a:Int),a≤l.foldl max a∧(∀ b∈l,b≤l.foldl max a)∧(l.foldl max a=a∨l.foldl max a∈l)
  | [],a=>⟨Int.le_refl _,(fun _ h=>nomatch h),.inl rfl⟩
  | b :: l,a=>by
    refine dJ (foldl_max_ge l (max a b)) fun h1 h2 h3=>?_
    refine ag List.foldl_cons ?_
    refine ⟨by lia,fun c hc=>?_,?_⟩
    · rcases List.mem_cons.mp hc with rfl | hc
      · lia
      · exact h2 c hc
    · rcases h3 with h3 | h3
      · refine ag h3 ?_
        by_cases h:b≤a
        · exact .inl (by lia)
        · exact .inr (by refine ag (show max a b=b by lia) ?_;exact .head _)
      · exact .inr (.tail _ h3)
theorem maxI_eq {ns:List Int} {M:Int} (hm:M∈ns) (hb:∀ a∈ns,a≤M):maxI ns=some M:=by
  cases ns with
  | nil=>cases hm
  | cons a l=>
    refine dJ (foldl_max_ge l a) fun h1 h2 h3=>?_
    show some (l.foldl max a)=some M
    congr 1
    apply Int.le_antisymm
    · clear hm h2 h1;rcases h3 with h3 | h3
      · refine ag h3 ?_;exact hb a (.head _)
      · exact hb _ (.tail _ h3)
    · clear hb h3;rcases List.mem_cons.mp hm with rfl | hm
      · exact h1
      · exact h2 M hm
theorem insertI_perm (a:Int):∀ l:List Int,(insertI a l).Perm (a :: l)
  | []=>.refl _
  | b :: l=>by
    unfold insertI
    split
    · exact .refl _
    · exact ((insertI_perm a l).cons b).trans (.swap ..)
theorem sortI_perm:∀ l:List Int,(sortI l).Perm l
  | []=>.refl _
  | a :: l=>(insertI_perm a (sortI l)).trans ((sortI_perm l).cons a)
theorem insertI_sorted (a:Int):∀ l:List Int,l.Pairwise (·≤·)→(insertI a l).Pairwise (·≤·)
  | [],_=>by simp [insertI]
  | b :: l,h=>by
    obtain ⟨h1,h2⟩:=List.pairwise_cons.mp h
    unfold insertI
    split
    · rename_i q
      refine List.pairwise_cons.mpr ⟨fun c hc=>?_,h⟩
      rcases List.mem_cons.mp hc with rfl | hc
      · exact q
      · exact Int.le_trans q (h1 c hc)
    · rename_i q
      refine List.pairwise_cons.mpr ⟨fun c hc=>?_,insertI_sorted a l h2⟩
      rcases List.mem_cons.mp ((insertI_perm a l).mem_iff.mp hc) with rfl | hc
      · lia
      · exact h1 c hc
theorem sortI_sorted:∀ l:List Int,(sortI l).Pairwise (·≤·)
  | []=>.nil
  | a :: l=>insertI_sorted a _ (sortI_sorted l)
theorem sorted_unique {l m:List Int} (hp:l.Perm m) (hl:l.Pairwise (·≤·)) (hm:m.Pairwise (·≤·)):l=m:=
  hp.eq_of_pairwise (le:=(·≤·)) (fun a b zz zz h1 h2=>Int.le_antisymm h1 h2) hl hm
section
variable {c:Cx} {A:Around} {s:Shared} {μ:Mu} {σ:St}
theorem ints_items {fa:Nat→Option Addr} {h:Heap} {μ:Mu} {vs:List Value} {l:List V} {ns:List Int} (r:aG fa h μ vs l):intsOf l=some ns→IntsAre vs ns:=
  r.ind (P:=fun vs l=>∀ ns,intsOf l=some ns→IntsAre vs ns) (fun ns e=>Option.some.inj e▸.nil) (fun {v x vs l} a _ ih ns e=>by
    cases x with
    | int i=>
      obtain ⟨t,e0⟩:=a.intI;obtain ⟨ns',e1,e2⟩:=Option.map_eq_some_iff.mp e
      refine ag e0 (cw e2 ?_);exact .cons _ _ (ih _ e1)
    | _=>cases e) ns
set_option tactic.hygienic true in
theorem max_ok {u:Value} {l:List V} {vs:List Value} {ns:List Int} {M:Int} (hA:A.handled=Option.none) (hr:c.Rel s.heap μ σ) (hs:SeqAt' s.heap u vs) (hi:IntsAre vs ns) (hM:maxI ns=some M):
    Runs c A [] (call (.builtin "max") [u]) s μ (fun h' μ' v=>c.Rel h' μ' σ∧Rep c.fa h' μ' v (.int M)):=by
  intro E Q hQ
  refine aN hi.allInts.items fun xs e=>?_
  have hns:ns=xs.toList.map (·.1):=by exact cw (hi.numsOf ..) (cw (nums_intItems ..) (cw (e ..) rfl))
  have bc:0 < ns.length:=by cases ns <;> simp [maxI] at hM ⊢
  have hsz:0 < xs.size:=by replace bc:=(Array.length_toList ..)▸(List.length_map ..)▸(hns ..)▸bc;exact bc
  have fin:∀ v h' tk,(intItems xs)[argBest (fun i j=>decide (numAt xs i > numAt xs j)) (xs.size - 1)]?=some v→(∀ b o,s.heap.get? b=some o→h'.get? b=some o)→Q v { s with heap:=h',toks:=tk }:=by
    intro v h' tk hv hk
    refine aN (intItems_at hv) fun t aW=>?_
    subst aW
    refine aY (argBest_gt (numAt xs) (xs.size - 1)) fun h1 h2=>?_
    have e1:maxI ns=some (numAt xs (argBest (fun i j=>decide (numAt xs i > numAt xs j)) (xs.size - 1))):=by
      refine maxI_eq ?_ fun a ha=>?_
      · refine ag (hns ..) (ag (numAt_eq ..) ?_);exact getD_mem (by refine ag (List.length_map ..) (ag (Array.length_toList ..) ?_);omega)
      · replace ha:=hns▸ha
        refine aq (mem_getD ha) fun j hj zq2=>?_
        subst zq2
        replace hj:=(Array.length_toList ..)▸(List.length_map ..)▸hj
        refine cw (numAt_eq ..) ?_;exact h2 j (by omega)
    replace e1:=hM▸e1
    refine someO e1 ?_
    exact hQ _ h' tk μ (.keeps hk) ⟨hr.grow hk,.int _ _⟩
  cases hs with
  | lst g=>
    replace g:=e▸g
    exact max_intList hA g.isList hsz fin
  | tup g=>
    rename_i a ep
    have ht:s.heap.IsTuple a (intItems xs):=⟨_,g,rfl,ep,by show Data.seq vs.toArray ep=_;exact ag e rfl⟩
    have hlt:a < s.heap.objs.size:=Heap.lt_size g
    refine call_max_walk (wpAny_pyIter_tuple ht ?_)
    refine ⟨_,_,_,_,_,_,_,rfl,Walks.tuple (A:=A.in1) hA _ a (Nat.ne_of_lt hlt) (intItems xs),⟨⟨_,Heap.get?_push_size _ rfl,rfl,rfl⟩,⟨_,Heap.get?_push_of_some _ g,rfl,ep,by show Data.seq vs.toArray ep=_;exact ag e rfl⟩⟩,fun b hb=>?_,by simpa [intItems] using hsz,CmpOf.ints_gt (numAt xs) (fun zz zz=>intItems_at),fun v h' tk hP hk=>?_⟩
    · show b < (s.heap.push _).objs.size
      refine ag (Heap.size_push ..) ?_
      rcases List.mem_cons.mp hb with rfl | hb
      · exact Nat.lt_succ_self _
      · refine ag (List.mem_singleton.mp hb) ?_;exact Nat.lt_succ_of_lt hlt
    · refine fin v h' tk (by simpa [intItems] using hP) fun b o eb=>hk b o (fun hm=>?_) (Heap.get?_push_of_some _ eb)
      replace eb:=(List.mem_singleton.mp hm)▸eb
      exact absurd (Heap.lt_size eb) (Nat.lt_irrefl _)
theorem intsAre_rep {fa:Nat→Option Addr} {h:Heap} {μ:Mu}:∀ {vs:List Value} {ns:List Int},IntsAre vs ns→aG fa h μ vs (ns.map .int)
  | _,_,.nil=>.nil
  | _,_,.cons _ _ r=>.cons (.int _ _) (intsAre_rep r)
theorem sorted_ok {p:Addr×Addr} {n:Nat} {l:List (Int×V)} (hA:A.handled=Option.none) (hr:c.Rel s.heap μ σ) (hp:μ.l[n]?=some p) (hl:σ[n]?=some (.cN l)) (h60:l.length < 60):
    Runs c A [] (call (.builtin "sorted") [.ref p.1]) s μ (fun h' μ' v=>c.Rel h' μ' σ∧Rep c.fa h' μ' v (.lst ((sortI (l.map (·.1))).map .int))):=by
  intro E Q hQ
  refine aq (hr.2.get hl) fun p' dQ ho=>?_
  replace dQ:=hp▸dQ;cases dQ
  obtain ⟨e1,kvs,hd,rk⟩:=ho
  have hsys:(p.2 ==sysModules)=false:=by
    have:=hr.1.high p.2 (mem_muts hp)
    rw [beq_eq_false_iff_ne]
    intro z
    replace this:=z▸this
    exact absurd this (by decide)
  refine aN hd.dictAt fun ep hat=>?_
  refine ag e1 ?_
  refine Calls.call_function_entry kind_sorted plain_sorted entry_sorted (args_sorted1 _) ?_
  unfold Builtin.«sorted»
  refine wpAny_bind (m:=checkCount "sorted" 1 1 _) (wpAny_pure ?_)
  refine wpAny_bind (kdu_collect (A:=A.in1) (kdl_dict (knd:=intKind c.prog c.w) (kvs:=kvs) (ep:=ep) hsys) hA hat (by refine ag rk.len (ag sizeLine_eq ?_);exact lZ h60) fun h' tk acc hk hacc=>?_)
  have hlen:acc.toList.length=l.length:=by exact ag Array.length_toList (ag hacc.1 (ag rk.len rfl))
  have hI:IntsAre acc.toList (l.map (·.1)):=by
    refine cw rk.keys ?_
    have key:∀ (kvs:List (Int×Value)) (vs:List Value),vs.length=kvs.length→(∀ (j:Nat) v,vs[j]?=some v→∃ k x,kvs[j]?=some (k,x)∧(intKind c.prog c.w).is k v=true)→IntsAre vs (kvs.map (·.1)):=by
      intro kvs
      induction kvs with
      | nil=>
        intro vs hl _
        clear h60 hp hr hA hlen hsys rk hd e1 hQ Q E hacc hk acc tk hat ep h';cases vs with
        | nil=>exact .nil
        | cons _ _=>simp at hl
      | cons q kvs ih=>
        intro vs hl hv
        clear h60 hp hr hA hlen hsys rk hd hQ Q E hacc hk acc tk hat ep h';cases vs with
        | nil=>simp at hl
        | cons v vs=>
          refine dP (hv 0 v rfl) fun k x e1 e2=>?_
          simp at e1
          have:=Value.isInt_shape (k:=k) (v:=v) e2
          refine aN this fun t aW=>?_
          clear this
          clear e2;subst aW
          subst e1
          exact .cons _ _ (ih vs (by simpa using hl) fun j v e=>by
            have:=hv (j+1) v (by simpa using e)
            simpa using this)
    exact key kvs acc.toList (by exact ag Array.length_toList (ag hacc.1 rfl)) fun j v e=>hacc.2 j v (by refine cw (Array.getElem?_toList) ?_;exact e)
  refine wpAny_bind (wpAny_newList ?_ (by refine ag hlen (ag sizeLine_eq ?_);exact lZ h60))
  have hoL:(h'.push { cls:=.type "list",data:=.seq acc.toList.toArray }).get? h'.objs.size=some (seqObj "list" acc.toList.toArray 0):=Heap.get?_push_size _ rfl
  refine wpAny_bind (wpAny_holding (wpAny_call_entry slot_list_sort (aI _ hoL rfl) entry_list_sort (list_sort_tree hoL hI (by refine ag hlen ?_;exact lZ h60) fun out ns' a1 a2 a3=>aI _ rfl ?_) (args_list_sort _)))
  refine wpAny_pure (aI _ rfl ?_)
  have hout:ns'=sortI (l.map (·.1)):=sorted_unique (a2.trans (sortI_perm _).symm) a3 (sortI_sorted _)
  refine aN (sortedHeap_at (out:=out) hoL) fun e2 hD=>?_
  have hold:∀ b o,s.heap.get? b=some o→(sortedHeap (h'.push { cls:=.type "list",data:=.seq acc.toList.toArray }) h'.objs.size acc.toList out).get? b=some o:=fun b o e=>by
    have hb:=hk b o e
    have hlt:=Heap.lt_size hb
    rw [sortedHeap_old (Nat.ne_of_lt hlt) (by refine ag (Heap.size_push ..) ?_;exact Nat.lt_succ_of_lt hlt)]
    exact Heap.get?_push_of_some _ hb
  refine hQ _ _ tk μ (.keeps hold) ⟨hr.grow hold,?_⟩
  refine .lst (vs:=out.toList) (e:=e2) (by simpa [seqObj] using hD) ?_ (hout▸intsAre_rep a1)
  have:s.heap.get? h'.objs.size=Option.none:=by
    clear h60 hp hr hA hold hout hoL hI hlen hsys rk hd hl hQ Q E hD a3 a2 a1 ns' out e2 e1 hacc acc tk hat ep;cases z:s.heap.get? h'.objs.size with
    | none=>rfl
    | some o=>exact absurd (Heap.lt_size (hk _ _ z)) (Nat.lt_irrefl _)
  exact hr.2.fresh this
theorem newTup_ok {us:List Value} {l:List V} (hr:c.Rel s.heap μ σ) (rs:aG c.fa s.heap μ us l) (hl:l.length < 1000):
    Runs c A [] (newTuple us) s μ (fun h' μ' v=>c.Rel h' μ' σ∧Rep c.fa h' μ' v (.tup l)):=by
  intro E Q hQ
  refine wpAny_newObj_type (hQ _ _ s.toks μ (.push _) ⟨hr.push _,?_⟩) (by show us.toArray.size≤sizeLine;refine ag List.size_toArray (ag rs.len (ag sizeLine_eq ?_));exact lZ hl)
  exact .tup (vs:=us) (e:=0) (Heap.get?_push_size _ rfl) (hr.2.fresh (aJ _ (Nat.le_refl _))) (rs.ext (.push _) (.nil _))
end
end
section
open PySem PySem.W PySem.Calls PyProof.Rows
noncomputable def blOf:Bl→Value
  | .max2 | .maxL=>.builtin "max"
  | .min2=>.builtin "min"
  | .abs=>.builtin "abs"
  | .int=>.type "int"
  | .len=>.builtin "len"
  | .range=>.type "range"
  | .list=>.type "list"
  | .sorted=>.builtin "sorted"
@[elab_as_elim] theorem v1R {fa:Nat→Option Addr} {h:Heap} {μ:Mu} {us:List Value} {vs:List V} {β:Type} {f:V→Option β} {w:β} (rs:aG fa h μ us vs) (e:v1 vs f=some w) {G:List Value→Prop} (k:∀ x u,Rep fa h μ u x→f x=some w→G [u]):G us:=by
  obtain ⟨x,rfl,e⟩:=v1_ok e;obtain ⟨u,rfl,r⟩:=rs.one;exact k x u r e
@[elab_as_elim] theorem v2R {fa:Nat→Option Addr} {h:Heap} {μ:Mu} {us:List Value} {vs:List V} {β:Type} {f:V→V→Option β} {w:β} (rs:aG fa h μ us vs) (e:v2 vs f=some w) {G:List Value→Prop} (k:∀ x y u v,Rep fa h μ u x→Rep fa h μ v y→f x y=some w→G [u,v]):G us:=by
  obtain ⟨x,y,rfl,e⟩:=v2_ok e;obtain ⟨u,v,rfl,r,r'⟩:=rs.two;exact k x y u v r r' e
@[elab_as_elim] theorem onIR {fa:Nat→Option Addr} {h:Heap} {μ:Mu} {u:Value} {x:V} {β:Type} {f:Int→Option β} {w:β} (r:Rep fa h μ u x) (e:onI x f=some w) {G:Value→Prop} (k:∀ a t,f a=some w→G (.int a t)):G u:=by
  obtain ⟨a,rfl,e⟩:=onI_ok e;obtain ⟨t,rfl⟩:=r.intI;exact k a t e
@[elab_as_elim] theorem onLR {fa:Nat→Option Addr} {h:Heap} {μ:Mu} {u:Value} {x:V} {β:Type} {f:List V→Option β} {w:β} (r:Rep fa h μ u x) (e:onL x f=some w) {G:Value→Prop} (k:∀ l a us n,h.get? a=some (lstO us n)→aG fa h μ us l→f l=some w→G (.ref a)):G u:=by
  obtain ⟨l,rfl,e⟩:=onL_ok e;obtain ⟨a,us,n,rfl,g,_,rl⟩:=r.lstI;exact k l a us n g rl e
@[elab_as_elim] theorem onOR {fa:Nat→Option Addr} {h:Heap} {μ:Mu} {u:Value} {x:V} {β:Type} {f:Nat→Option β} {w:β} (r:Rep fa h μ u x) (e:onO x f=some w) {G:Value→Prop} (k:∀ n p,μ.l[n]?=some p→f n=some w→G (.ref p.1)):G u:=by
  obtain ⟨n,rfl,e⟩:=onO_ok e;obtain ⟨p,rfl,q⟩:=r.objI;exact k n p q e
section
variable {c:Cx} {A:Around} {s:Shared} {μ:Mu} {σ:St}
theorem len_ok {u:Value} {vs:List Value} (hr:c.Rel s.heap μ σ) (hs:SeqAt' s.heap u vs) (hl:vs.length < 1000):
    Runs c A [] (call (.builtin "len") [u]) s μ (fun h' μ' v=>c.Rel h' μ' σ∧Rep c.fa h' μ' v (.int vs.length)):=by
  intro E Q hQ
  have fin:Q (.int vs.toArray.size (s.toks+1)) { s with heap:=s.heap,toks:=s.toks+1+1 }:=hQ _ s.heap _ μ (.refl ..) ⟨hr,by simpa using Rep.int _ _⟩
  cases hs with
  | lst g=>exact len_list g.isList (by refine ag List.size_toArray ?_;lia) fin
  | tup g=>exact len_tuple (IsTup_of g) (by refine ag List.size_toArray ?_;lia) fin
theorem blt_ok {b:Bl} {us:List Value} {vs:List V} {v:V} {σ':St} (hA:A.handled=Option.none) (hr:c.Rel s.heap μ σ) (rs:aG c.fa s.heap μ us vs) (h:bltV b vs σ=some (v,σ')):
    Runs c A [] (call (blOf b) us) s μ (fun h' μ' u=>c.Rel h' μ' σ'∧Rep c.fa h' μ' u v):=by
  cases b with
  | max2=>
    refine v2R rs h fun x y u w r1 r2 h=>onIR r1 h fun a t h=>onIR r2 h fun b t' h=>bx h ?_
    intro E Q hQ
    refine max_two_ints hA fun h' tk hk=>?_
    refine hQ _ h' tk μ (.keeps hk) ⟨hr.grow hk,?_⟩
    exact iteP (P:=fun x=>Rep c.fa h' μ x (.int (max a b))) (fun q=>ag (Int.max_eq_right (Int.le_of_lt q)) (.int _ _)) (fun q=>ag (Int.max_eq_left (Int.not_lt.mp q)) (.int _ _))
  | min2=>
    refine v2R rs h fun x y u w r1 r2 h=>onIR r1 h fun a t h=>onIR r2 h fun b t' h=>bx h ?_
    intro E Q hQ
    refine min_two_ints hA fun h' tk hk=>?_
    refine hQ _ h' tk μ (.keeps hk) ⟨hr.grow hk,?_⟩
    exact iteP (P:=fun x=>Rep c.fa h' μ x (.int (min a b))) (fun q=>ag (Int.min_eq_right (Int.le_of_lt q)) (.int _ _)) (fun q=>ag (Int.min_eq_left (Int.not_lt.mp q)) (.int _ _))
  | maxL=>
    refine v1R rs h fun x u r h=>?_
    clear rs
    cases x with
    | tup l=>
      refine aq (Option.bind_eq_some_iff.mp h) fun ns e1 e2=>?_
      refine aq (Option.map_eq_some_iff.mp e2) fun M e3 e4=>bx (congrArg some e4) ?_
      refine E3A4 r.tupI fun a us e zq3 g zz rl=>?_
      clear zz r;subst zq3
      exact max_ok (l:=[]) hA hr (.tup g) (ints_items rl e1) e3
    | lst l=>
      refine aq (Option.bind_eq_some_iff.mp h) fun ns e1 e2=>?_
      refine aq (Option.map_eq_some_iff.mp e2) fun M e3 e4=>bx (congrArg some e4) ?_
      refine E3A4 r.lstI fun a us e zq3 g zz rl=>?_
      clear zz r;subst zq3
      exact max_ok (l:=[]) hA hr (.lst ⟨_,g⟩) (ints_items rl e1) e3
    | _=>clear hr hA r;cases h
  | abs=>
    refine v1R rs h fun x u r h=>onIR r h fun a t h=>bx h fun E Q hQ=>?_
    exact call_abs_int fun u tk=>hQ _ s.heap tk μ (.refl ..) ⟨hr,.int _ _⟩
  | int=>
    refine v1R rs h fun x u r h=>?_
    clear rs
    cases x with
    | int a=>exact bx h fun E Q hQ=>(r.intI).elim fun t e=>e▸call_int_int (hQ _ s.heap s.toks μ (.refl ..) ⟨hr,.int _ _⟩)
    | bool a=>exact bx h fun E Q hQ=>r.boolI▸call_int_bool (hQ _ s.heap _ μ (.refl ..) ⟨hr,.int _ _⟩)
    | _=>clear hr r;cases h
  | len=>
    refine v1R rs h fun x u r h=>?_
    refine aq (Option.bind_eq_some_iff.mp h) fun l e1 h=>?_
    refine aY (ck h) fun q h=>bx h ?_
    refine aq (seqOf_ok hr.2 r e1) fun vs h1 h2=>?_
    refine cw h2.len ?_
    exact len_ok hr h1 (h2.len.symm▸q)
  | range=>
    refine v1R rs h fun x u r h=>onIR r h fun a t h=>?_
    refine aY (ck h) fun q h=>bx h fun E Q hQ=>?_
    exact call_range_1 (hQ _ _ _ μ (.push _) ⟨hr.push _,.rng (IsRange.new ..) (hr.2.fresh (aJ _ (Nat.le_refl _)))⟩)
  | list=>
    refine v1R rs h fun x u r h=>onLR r h fun l a us e g rl h=>?_
    refine aY (ck h) fun q h=>bx h fun E Q hQ=>?_
    refine call_list_seq _ (.inl rfl) g rfl rfl (fun h' c' hk hn=>?_) (by refine ag List.size_toArray (ag rl.len (ag sizeLine_eq ?_));exact lZ q)
    exact hQ _ h' s.toks μ (.keeps hk) ⟨hr.grow hk,.lst hn (hr.2.fresh (aJ _ (Nat.le_refl _))) (rl.ext (.keeps hk) (.nil _))⟩
  | sorted=>
    refine v1R rs h fun x u r h=>onOR r h fun n p hp h=>?_
    clear r rs
    unfold sortB at h
    split at h
    · rename_i hl
      refine aY (ck h) fun q h=>bx h ?_
      exact sorted_ok hA hr hp hl q
    · clear hr hA;cases h
theorem newL_ok {m:Bool} {a:Addr} {h':Heap} {us:List Value} {l:List V} {v:V} {e:Nat} {σ':St} (hr:c.Rel s.heap μ σ) (hk:∀ b o,s.heap.get? b=some o→h'.get? b=some o) (hn:s.heap.get? a=Option.none) (h100:100≤a) (ha:h'.get? a=some (lstO us e)) (rs:aG c.fa s.heap μ us l)
    (h:newL m l σ=some (v,σ')):∃ μ',Ext [] s.heap μ h' μ'∧c.Rel h' μ' σ'∧Rep c.fa h' μ' (.ref a) v:=by
  unfold newL at h
  split at h
  · split at h
    · refine bx h ?_
      have x:Ext [] s.heap μ h' (μ.add (a,a)):=⟨fun b o e zz zz=>hk b o e,fun b o e=>⟨o,hk b o e⟩,[(a,a)],[],rfl,fun p hp=>by refine ag (List.mem_singleton.mp hp) ?_;exact ⟨hn,h100⟩,fun zz h=>nomatch h⟩
      refine aT _ x ⟨hr.1.ext x (by simp),hr.2.new hk hn h100 ⟨rfl,us,⟨e,ha⟩,rs.ext x (.nil _)⟩⟩ ?_
      exact .obj (p:=(a,a)) (by refine cw hr.2.len ?_;simp [Mu.add])
    · refine bx h ?_
      have x:Ext [] s.heap μ h' μ:=.keeps hk
      exact aT μ x (hr.grow hk) (.lst ha (hr.2.fresh hn) (rs.ext x (.nil _)))
  · cases h
end
end
section
open PySem PySem.W PySem.Calls PyProof.Rows
theorem attrOf_inj:∀ i < 48,∀ j < 48,aH i=aH j→i=j:=by decide +kernel
theorem attrOf_beq {i j:Nat} (hi:i < 48) (hj:j < 48):(aH i ==aH j)=decide (i=j):=by
  rw [Bool.eq_iff_iff]
  simp only [beq_iff_eq,decide_eq_true_eq]
  exact ⟨attrOf_inj i hi j hj,fun e=>by exact ag e rfl⟩
section
variable {fa:Nat→Option Addr} {h:Heap} {μ:Mu}
theorem cT.getL {a:Nat} (ha:a < 48):∀ {es:List DictEntry} {fs:List (Nat×V)},cT fa h μ es fs→
    (∀ v,cn a fs=some v→∃ u,PySem.W.getL (aH a) es=some (some u)∧Rep fa h μ u v)∧(cn a fs=Option.none→PySem.W.getL (aH a) es=some Option.none)
  | _,_,.nil=>⟨fun v e=>(nomatch e),fun _=>rfl⟩
  | _,_,.cons (a:=b) (v:=u) (V:=v) (es:=es) (fs:=fs) hb r f=>by
    refine aY (f.getL ha) fun h1 h2=>?_
    by_cases q:b=a
    · clear ha h2 h1;subst q
      refine ⟨fun w e=>?_,fun e=>?_⟩
      · simp only [cn,if_true] at e
        refine someO e ?_
        exact aI u (by simp [PySem.W.getL,Value.isStr]) r
      · simp [cn] at e
    · have hk:(aH b ==aH a)=false:=by refine ag (attrOf_beq hb ha) ?_;simpa using q
      have e:∀ hsh t,PySem.W.getL (aH a) (⟨hsh,.str (aH b) t,u⟩ :: es)=PySem.W.getL (aH a) es:=fun hsh t=>by
        simp only [PySem.W.getL,List.find?_cons,Value.isStr,hk,List.any_cons,DictEntry.refKey,Bool.false_or]
        rfl
      refine ⟨fun w e'=>?_,fun e'=>?_⟩
      · simp only [cn,q,if_false] at e'
        refine aq (h1 w e') fun z z1 z2=>?_
        exact aI z (by refine ag (e ..) ?_;exact z1) z2
      · simp only [cn,q,if_false] at e'
        refine ag (e ..) ?_;exact h2 e'
theorem cT.put {a:Nat} (ha:a < 48) {hsh:Int} {t:Tok} {u:Value} {v:V} (r:Rep fa h μ u v):∀ {es:List DictEntry} {fs:List (Nat×Mine.V)},cT fa h μ es fs→cT fa h μ (putL (aH a) hsh (.str (aH a) t) u es) (putF a v fs)
  | _,_,.nil=>.cons ha r .nil
  | _,_,.cons (a:=b) hb rb f=>by
    by_cases q:b=a
    · subst q
      simp only [putL,putF,Value.isStr,beq_self_eq_true,if_true]
      exact .cons hb r f
    · have hk:(aH b ==aH a)=false:=by refine ag (attrOf_beq hb ha) ?_;simpa using q
      simp only [putL,putF,Value.isStr,hk,q,Bool.false_eq_true,if_false]
      exact .cons hb rb (f.put ha r)
theorem cT.len:∀ {es:List DictEntry} {fs:List (Nat×V)},cT fa h μ es fs→es.length=fs.length
  | _,_,.nil=>rfl
  | _,_,.cons _ _ f=>congrArg (·+1) f.len
end
theorem putL_len (name:PySem.Str) (hsh:Int) (key v:Value):∀ es:List DictEntry,(putL name hsh key v es).length≤es.length+1
  | []=>by simp [putL]
  | e :: r=>by
    unfold putL
    split
    · simp
    · have:=putL_len name hsh key v r
      simp only [List.length_cons];exact lZ this
section
variable {c:Cx} {A:Around} {s:Shared} {μ:Mu} {σ:St}
theorem inst_at {h:Heap} {x C dx:Addr} {es:List DictEntry} {n:Nat} (h1:h.get? x=some (instObj C dx)) (h2:h.get? dx=some (dictOf es n)):InstAt h x (instObj C dx) C (some (dictOf es n)):=⟨h1,rfl,rfl,h2⟩
theorem Cx.Rel.dW {h:Heap} (r:c.Rel h μ σ):c.K.In h:=c.dW.keeps r.1.keep
theorem Rep.handed {fa:Nat→Option Addr} {h:Heap} {u:Value} {v:V} (r:Rep fa h μ u v):handedIn u=true:=by cases r <;> rfl
set_option tactic.hygienic true in
theorem getA_ok {u:Value} {x v:V} {a:Nat} {expr:Bool} (hr:c.Rel s.heap μ σ) (ra:Rep c.fa s.heap μ u x) (h:getA c.T σ x a=some v):
    Runs c A [] (getAttr u (aH a) expr) s μ (fun h' μ' r=>h'=s.heap∧μ'=μ∧Rep c.fa s.heap μ r v):=by
  intro E Q hQ
  unfold getA at h
  split at h
  · rename_i n
    cases ra;rename_i p hp
    split at h
    · rename_i k fs hl
      split at h
      · rename_i q
        refine aq (hr.2.get hl) fun p' dQ ho=>?_
        replace dQ:=hp▸dQ;cases dQ
        obtain ⟨e1,e2,es,n',e3,f⟩:=ho
        obtain ⟨ha,C,⟨a',f1,f2⟩,_⟩:=c.fld k a q
        refine aq ((f.getL ha).1 v h) fun w hw rw_=>?_
        have hg:=C.get
        refine get_value hr.dW (inst_at e2 e3) (plainGet_of hg).1 (findObj_own C.dict f1 f2 ?_) rw_.handed (hQ _ s.heap _ μ (.refl ..) ⟨rfl,rfl,rw_⟩)
        refine ag (lookIn_dict ..) ?_;exact hw
      · cases h
    · cases h
  · cases h
set_option tactic.hygienic true in
theorem osa_mine {x C dx:Addr} {es:List DictEntry} {n:Nat} {name:PySem.Str} {tk:Tok} {v:Value} {R:Result→Shared→Prop} (X:c.K.In s.heap) (h1:s.heap.get? x=some (instObj C dx)) (D:s.heap.get? dx=some (dictOf es n))
    (hp:plainOver c.K C=true) (ht:takerIn c.K C name=some Option.none) (hh:hasDictIn c.K C=true) (hl:(PySem.W.getL name es).isSome=true) (hz:es.length≤200)
    (h:∀ h' t,h'.get? dx=some (dictOf (putL name (PyData.keyHash c.w.params name) (.str name t) v es) (putN name es n))→Heap.SameBut dx s.heap h'→R (.ok (.ret .none)) { s with heap:=h',toks:=s.toks+1 }):
    codeAny (model c.prog c.w) A (.call (.builtin "object.__setattr__") ⟨[.ref x,.str name tk,v],[]⟩) R s:=by
  refine osa_open X (inst_at h1 D) hp ht fun b=>?_
  refine aq (any_some hh) fun cd hc hd'=>?_
  have e:Obj.putName name (PyData.keyHash c.w.params name) (.str name s.toks) v (dictOf es n)=dictOf (putL name (PyData.keyHash c.w.params name) (.str name s.toks) v es) (putN name es n):=putName_dict ..
  have D':(s.heap.update dx (Obj.putName name (PyData.keyHash c.w.params name) (.str name s.toks) v)).get? dx=some (dictOf (putL name (PyData.keyHash c.w.params name) (.str name s.toks) v es) (putN name es n)):=by
    refine cw e ?_;exact Heap.get?_update_self _ D (by refine ag e ?_;rfl)
  have fin:=h _ _ D' (Heap.SameBut.update ..)
  have hlen:=putL_len name (PyData.keyHash c.w.params name) (.str name s.toks) v es
  refine wpAny_bind (wpAny_pure (wpAny_bind (wpAny_bind (wpAny_loadPart h1 (wpAny_bind ((looks_clsIn X hc).here ?_))))))
  refine ag hd' ?_
  refine wpAny_pure (a:=some dx) (wpAny_bind (wpAny_pure (wpAny_bind ?_)))
  unfold nsSet
  refine wpAny_bind (wpAny_bind (wpAny_askSetting (wpAny_pure (wpAny_bind (wpAny_mkText (wpAny_bind (wpAny_loadPart D ?_)))))))
  have cc:(!es.toArray.any (·.key.isStr name) && es.toArray.any (·.refKey))=false:=by
    refine cw Array.any_toList (cw Array.any_toList ?_)
    unfold PySem.W.getL at hl
    split at hl
    · rename_i en he
      refine ag (show (es.toArray.toList.any fun x=>x.key.isStr name)=true from List.any_eq_true.mpr (aI en (List.mem_of_find?_eq_some he) (List.find?_some (p:=fun x:DictEntry=>x.key.isStr name) he))) ?_;rfl
    · split at hl
      · cases hl
      · rename_i z;rw [Bool.not_eq_true] at z;exact ag (z ..) (ag (Bool.and_false ..) rfl)
  dsimp only [dictOf]
  refine ag (aRefKeyMayBeTheName_at ..) (ag (cc ..) ?_)
  refine wpAny_updatePart D ?_
  refine wpAny_bind (wpAny_lookBehind D' (pastItsLine_dict (by refine ag List.size_toArray (ag sizeLine_eq ?_);exact lZ (aZ hz hlen))) ?_)
  exact wpAny_pure fin
set_option tactic.hygienic true in
theorem setA_ok {u z:Value} {x v:V} {a:Nat} {σ':St} (hr:c.Rel s.heap μ σ) (ra:Rep c.fa s.heap μ u x) (rv:Rep c.fa s.heap μ z v) (h:setA c.T σ x a v=some σ'):
    Runs c A [] (setAttr u (aH a) z) s μ (fun h' μ' _=>μ'=μ∧c.Rel h' μ' σ'):=by
  intro E Q hQ
  unfold setA at h
  split at h
  · rename_i n
    cases ra;rename_i p hp
    split at h
    · rename_i k fs hl
      split at h
      · rename_i q
        cases h
        simp only [Bool.and_eq_true,decide_eq_true_eq] at q
        obtain ⟨p',dQ,ho⟩:=hr.2.get hl
        replace dQ:=hp▸dQ;cases dQ
        obtain ⟨e1,e2,es,n',e3,f⟩:=ho
        obtain ⟨ha,C,_,f3⟩:=c.fld k a q.1
        have hsome:(PySem.W.getL (aH a) es).isSome=true:=by
          cases e:cn a fs with
          | none=>rw [(f.getL ha).2 e];rfl
          | some w=>obtain ⟨w',hw,_⟩:=(f.getL ha).1 w e;rw [hw];rfl
        refine set_plain hr.dW (inst_at e2 e3) C.set (osa_mine (s:={ s with toks:=s.toks+1 }) hr.dW e2 e3 C.over f3 C.dict hsome (by rw [f.len];exact lZ q.2) fun h' t hd hs=>?_)
        have:=hr.upd (o':=.inst k (putF a v fs)) hp hs (fun x=>⟨e1,x.keep _ _ e2 (cJ e1) (by simp),_,_,hd,(f.ext x (.nil _)).put ha (rv.ext x (.nil _))⟩) ⟨_,hd⟩
        exact hQ _ h' (s.toks+1+1) μ this.1 ⟨rfl,this.2⟩
      · cases h
    · cases h
  · cases h
end
end
section
open PySem PySem.W PySem.Calls PyProof.Rows
structure Ck where
  names:List (PySem.Str×NameKind)
  res:List (PySem.Str×Nat)
  n:Nat
  frz:List PySem.Str:=[]
noncomputable def Ck.ok (k:Ck):Bool:=decide ((k.res.map (·.1)).Nodup) && decide ((k.res.map (·.2)).Nodup) && k.res.all (fun p=>decide (p.2 < k.n))
noncomputable def own (k:Ck) (env:Env):List Addr:=env.locals :: (env.cells.filter (fun p=>env.kindOf p.1 ==some .cell && !k.frz.contains p.1)).map (·.2)
structure At (c:Cx) (k:Ck) (env:Env) (h:Heap) (μ:Mu) (ρ:List V):Prop where
  names:env.scope.names=k.names
  ok:EnvOk c.fa env (fun x=>k.res.lookup x) h μ ρ
  len:ρ.length=k.n
  chk:k.ok=true
  mine:∀ a∈own k env,c.h0.get? a=none
theorem At.ext {c:Cx} {k:Ck} {env:Env} {h h':Heap} {μ μ':Mu} {ρ:List V} (z:At c k env h μ ρ) (x:Ext [] h μ h' μ'):At c k env h' μ' ρ:=⟨z.names,z.ok.ext x,z.len,z.chk,z.mine⟩
theorem At.xok {c:Cx} {k:Ck} {env:Env} {h:Heap} {μ:Mu} {ρ:List V} (z:At c k env h μ ρ):XOk (own k env) h μ:=fun a ha=>z.ok.xok a (by
  clear z ρ μ h c;rcases List.mem_cons.mp ha with rfl | ha
  · exact List.mem_cons_self
  · refine aq (List.mem_map.mp ha) fun p hp zq2=>?_
    clear ha;subst zq2
    exact List.mem_cons_of_mem _ (List.mem_map.mpr (aI p ((List.mem_filter.mp hp).1) rfl)))
noncomputable def Ck.nm (k:Ck) (x:PySem.Str) (i:Nat):Bool:=
  k.res.lookup x ==some i && !(x ==("__debug__" : PySem.Str)) && !(x ==("__classdict__" : PySem.Str)) && (match k.names.lookup x with | some .local=>true | some .cell=>true | some .free=>true | _=>false)
noncomputable def Ck.st (k:Ck) (x:PySem.Str) (i:Nat):Bool:=
  k.res.lookup x ==some i && !k.frz.contains x && (match k.names.lookup x with | some .local=>true | some .cell=>true | _=>false)
noncomputable def Ck.gn (k:Ck) (x:PySem.Str):Bool:=k.names.lookup x ==some .globalImplicit && !(x ==("__debug__" : PySem.Str))
theorem lookup_mem {α:Type}:∀ {l:List (PySem.Str×α)} {x:PySem.Str} {i:α},l.lookup x=some i→(x,i)∈l:=fun h=>mem_of_lookup h
theorem lookup_inj {l:List (PySem.Str×Nat)} (nd:(l.map (·.2)).Nodup) {x y:PySem.Str} {i:Nat} (hx:l.lookup x=some i) (hy:l.lookup y=some i):x=y:=by
  have h1:=lookup_mem hx
  have h2:=lookup_mem hy
  clear hx hy
  induction l with
  | nil=>cases h1
  | cons p l ih=>
    refine aY (List.nodup_cons.mp nd) fun n1 n2=>?_
    rcases List.mem_cons.mp h1 with e1 | h1 <;> rcases List.mem_cons.mp h2 with e2 | h2
    · rw [← e1] at e2;exact (Prod.mk.inj e2).1.symm
    · exact absurd (List.mem_map.mpr (aI (y,i) h2 (by exact cw e1 rfl))) n1
    · exact absurd (List.mem_map.mpr (aI (x,i) h1 (by exact cw e2 rfl))) n1
    · exact ih n2 h1 h2
section
variable {c:Cx} {A:Around} {s:Shared} {μ:Mu} {σ:St} {k:Ck} {env:Env} {ρ:List V}
theorem At.kind (z:At c k env s.heap μ ρ) (x:PySem.Str):env.kindOf x=k.names.lookup x:=by unfold Env.kindOf;exact ag z.names rfl
theorem load_ok {x:PySem.Str} {i:Nat} {v:V} (z:At c k env s.heap μ ρ) (hn:k.nm x i=true) (hv:bU ρ i=some v):
    Runs c A [] (loadName env x) s μ (fun h' μ' u=>h'=s.heap∧μ'=μ∧Rep c.fa s.heap μ u v):=by
  intro E Q hQ
  simp only [Ck.nm,Bool.and_eq_true,Bool.not_eq_true',beq_iff_eq] at hn
  obtain ⟨⟨⟨h1,h2⟩,h3⟩,h4⟩:=hn
  have fin:∀ u,Rep c.fa s.heap μ u v→Q u s:=fun u r=>hQ u s.heap s.toks μ (.refl ..) ⟨rfl,rfl,r⟩
  split at h4
  · rename_i hk
    refine aq z.ok.ns fun m hns hm=>?_
    refine aq (hm x i h1 ((z.kind x).trans hk) v hv) fun u hu r=>?_
    exact wpAny_loadName_local z.ok.kind ((z.kind x).trans hk) hns hu (fin u r)
  · rename_i hk
    refine E2A3 (z.ok.cell x i h1 (.inl ((z.kind x).trans hk))) fun a u ha hc hu=>?_
    refine aq (hu v hv) fun w aW r=>?_
    clear hv h2 h1 hQ hu;subst aW
    exact wpAny_loadName_cell z.ok.kind ((z.kind x).trans hk) ha hc (fin w r)
  · rename_i hk
    refine E2A3 (z.ok.cell x i h1 (.inr ((z.kind x).trans hk))) fun a u ha hc hu=>?_
    refine aq (hu v hv) fun w aW r=>?_
    clear hv h2 h1 hQ hu;subst aW
    exact wpAny_loadName_free z.ok.kind ((z.kind x).trans hk) ha hc (fin w r) h3
  · clear hv z fin h2 h1 hQ;cases h4
theorem name_ok {x:PySem.Str} {i:Nat} {v:V} {p:Pos} (z:At c k env s.heap μ ρ) (hn:k.nm x i=true) (hv:bU ρ i=some v):
    Runs c A [] (eval (.Name x p) env) s μ (fun h' μ' u=>h'=s.heap∧μ'=μ∧Rep c.fa s.heap μ u v):=fun E Q hQ=>by
  have hn':=hn
  simp only [Ck.nm,Bool.and_eq_true,Bool.not_eq_true',beq_iff_eq] at hn'
  exact wpAny_Name ((load_ok z hn hv).use hQ) hn'.1.1.2
theorem slotV_set {ρ:List V} {i j:Nat} {v w:V} (h:bU (ρ.set i v) j=some w):(i=j∧v=w)∨(i≠j∧bU ρ j=some w):=by
  by_cases e:i=j
  · subst e
    refine .inl ⟨rfl,?_⟩
    unfold bU at h
    by_cases hl:i < ρ.length
    · rw [List.getElem?_set_self hl] at h
      cases v <;> cases h <;> rfl
    · rw [List.getElem?_eq_none (by simpa using hl)] at h
      cases h
  · refine .inr ⟨e,?_⟩
    unfold bU at h ⊢
    rwa [List.getElem?_set_ne e] at h
theorem cells_ne {h:Heap} {a b:Addr} {u:Option Value} {m:PySem.Str→Option Value} (hn:h.Ns a m) (hc:h.IsCell b u):b≠a:=by
  rintro rfl
  refine E3A3 hn fun o es n e hd zz=>?_
  clear hn
  refine aq hc fun o' e' hd'=>?_
  clear hc
  replace e':=e▸e';cases e'
  replace hd':=hd▸hd';cases hd'
theorem store_local {x:PySem.Str} {i:Nat} {u:Value} {v:V} (hr:c.Rel s.heap μ σ) (z:At c k env s.heap μ ρ) (h1:k.res.lookup x=some i) (hk:k.names.lookup x=some .local) (r:Rep c.fa s.heap μ u v):
    Runs c A [env.locals] (storeName env x u) s μ (fun h' μ' zz=>μ'=μ∧c.Rel h' μ σ∧At c k env h' μ (ρ.set i v)):=by
  intro E Q hQ
  have hck:=z.chk
  simp only [Ck.ok,Bool.and_eq_true,decide_eq_true_eq] at hck
  obtain ⟨⟨_,nd2⟩,_⟩:=hck
  refine aq z.ok.ns fun m hns hm=>?_
  have hl:=(z.kind x).trans hk
  refine wpAny_storeName_local hl hns (fun h' hn' hs=>?_) (by refine ag z.ok.kind ?_;rfl)
  have hlive:∃ o',h'.get? env.locals=some o':=let ⟨o,_,_,e,_⟩:=hn';⟨o,e⟩
  refine aN hlive fun o' hl'=>?_
  clear hlive
  have ex:Ext [env.locals] s.heap μ h' μ:=.same hs (.inr (List.mem_singleton.mpr rfl)) hl'
  have ok1:XOk [env.locals] s.heap μ:=fun a ha=>z.xok a (by refine ag (List.mem_singleton.mp ha) ?_;exact List.mem_cons_self)
  refine hQ () h' _ μ ex ⟨rfl,⟨hr.1.ext ex (fun a ha=>z.mine a (by refine ag (List.mem_singleton.mp ha) ?_;exact List.mem_cons_self)),hr.2.frame hs hl' (cJ z.ok.lap) ok1⟩,z.names,⟨z.ok.kind,z.ok.glob,z.ok.bi,⟨_,hn',fun y j e1 e2 w hw=>?_⟩,fun y j e1 e2=>?_,z.ok.lap,fun y a ha=>?_,z.ok.apart⟩,by simpa using z.len,z.chk,z.mine⟩
  · clear hk z hr hl hQ Q E hl' o' hs hn' hns;rcases slotV_set hw with ⟨rfl,rfl⟩ | ⟨ne,hw⟩
    · have:=lookup_inj nd2 h1 e1
      clear h1 nd2 hw e2 e1 hm;subst this
      exact aI u (by simp) (r.ext ex ok1)
    · have hyx:y≠x:=by rintro rfl;replace e1:=h1▸e1;clear r h1 u nd2;cases e1;exact ne rfl
      refine aq (hm y j e1 e2 w hw) fun t ht rt=>?_
      exact aI t (by simp [hyx,ht]) (rt.ext ex ok1)
  · refine E2A3 (z.ok.cell y j e1 e2) fun a t ha hc ht=>?_
    refine I2A3 a t ha (hc.sameBut hs (cells_ne hns hc)) (fun w hw=>?_)
    have hyx:y≠x:=by rintro rfl;replace e2:=hl▸e2;clear r hk z hr hl hQ Q E hc ha a hl' o' hs hn' hm hns m;rcases e2 with e2 | e2 <;> cases e2
    clear r hk z hr hl hQ Q E hc e2 ha a hl' o' hs hn' hm hns m;rcases slotV_set hw with ⟨rfl,rfl⟩ | ⟨ne,hw⟩
    · exact absurd (lookup_inj nd2 e1 h1) hyx
    · refine aq (ht w hw) fun t' e rt=>?_
      exact aI t' e (rt.ext ex ok1)
  · clear r hk h1 hr ok1 ex hl nd2 hQ Q E hl' o' hn' hm;obtain ⟨p,t,hc⟩:=z.ok.cap y a ha
    exact ⟨p,t,hc.sameBut hs (cells_ne hns hc)⟩
theorem store_ok {x:PySem.Str} {i:Nat} {u:Value} {v:V} (hr:c.Rel s.heap μ σ) (z:At c k env s.heap μ ρ) (hn:k.st x i=true) (r:Rep c.fa s.heap μ u v):
    Runs c A (own k env) (storeName env x u) s μ (fun h' μ' _=>μ'=μ∧c.Rel h' μ σ∧At c k env h' μ (ρ.set i v)):=by
  intro E Q hQ
  simp only [Ck.st,Bool.and_eq_true,beq_iff_eq,Bool.not_eq_true'] at hn
  obtain ⟨⟨h1,hfz⟩,h2⟩:=hn
  have hck:=z.chk
  simp only [Ck.ok,Bool.and_eq_true,decide_eq_true_eq] at hck
  obtain ⟨⟨_,nd2⟩,_⟩:=hck
  refine aq z.ok.ns fun m hns hm=>?_
  split at h2
  · rename_i hk
    exact ((store_local (A:=A) hr z h1 hk r).weaken (Y:=own k env) fun a ha=>by refine ag (List.mem_singleton.mp ha) ?_;exact List.mem_cons_self).use hQ
  · rename_i hk
    have hl:=(z.kind x).trans hk
    refine E2A3 (z.ok.cell x i h1 (.inl hl)) fun a t ha hc _=>?_
    refine wpAny_storeName_cell z.ok.kind hl ha hc fun h' hc' hs=>?_
    have bc:env.locals≠a:=fun e=>cells_ne hns hc e.symm
    refine aq (id hc') fun o' hl' hd'=>?_
    have hmem:a∈own k env:=List.mem_cons_of_mem _ (List.mem_map.mpr (aI (x,a) (List.mem_filter.mpr ⟨mem_of_lookup ha,by refine ag (Bool.and_eq_true ..) ?_;exact ⟨by simpa using hl,by refine ag (hfz ..) ?_;rfl⟩⟩) rfl))
    have ex:Ext [a] s.heap μ h' μ:=.same hs (.inr (List.mem_singleton.mpr rfl)) hl'
    have ok1:XOk [a] s.heap μ:=fun b hb=>z.xok b (by refine ag (List.mem_singleton.mp hb) ?_;exact hmem)
    have ex':Ext (own k env) s.heap μ h' μ:=ex.weaken fun b hb=>by refine ag (List.mem_singleton.mp hb) ?_;exact hmem
    have cap:=z.ok.cap x a (mem_of_lookup ha)
    refine hQ () h' s.toks μ ex' ⟨rfl,⟨hr.1.ext ex' z.mine,hr.2.frame hs hl' (cJ cap.1) ok1⟩,z.names,⟨z.ok.kind,z.ok.glob,z.ok.bi,⟨m,hns.sameBut hs bc,fun y j e1 e2 w hw=>?_⟩,fun y j e1 e2=>?_,z.ok.lap,fun y b hb=>?_,z.ok.apart⟩,by simpa using z.len,z.chk,z.mine⟩
    · have hyx:y≠x:=by rintro rfl;replace e2:=hl▸e2;clear r z hr cap ex' hmem bc hl hfz hk hQ Q E hd' hl' o' hs hc' hc ha hns;cases e2
      clear r z hr cap ex' hmem bc hl hfz hk hQ Q E hd' hl' o' hs hc' hc ha hns;rcases slotV_set hw with ⟨rfl,rfl⟩ | ⟨ne,hw⟩
      · exact absurd (lookup_inj nd2 e1 h1) hyx
      · refine aq (hm y j e1 e2 w hw) fun t ht rt=>?_
        exact aI t ht (rt.ext ex ok1)
    · by_cases hyx:y=x
      · clear z hr cap ex' hmem bc hl nd2 hfz hk hQ Q E e2 hd' hl' o' hs hc hm hns m;subst hyx
        replace e1:=h1▸e1;clear h1;refine someO e1 ?_
        refine I2A3 a (some u) ha hc' (fun w hw=>?_)
        clear hc' ha;rcases slotV_set hw with ⟨_,rfl⟩ | ⟨ne,_⟩
        · exact aI u rfl (r.ext ex ok1)
        · exact absurd rfl ne
      · refine E2A3 (z.ok.cell y j e1 e2) fun b t' hb hcb ht=>?_
        have hab:b≠a:=by rintro rfl;exact hyx (name_of_addr z.ok.apart (mem_of_lookup hb) (mem_of_lookup ha))
        refine I2A3 b t' hb (hcb.sameBut hs hab) (fun w hw=>?_)
        clear r z hr hab cap ex' hmem bc hl hfz hk hQ Q E hcb e2 hb b hd' hl' o' hs hc' hc ha hm hns m;rcases slotV_set hw with ⟨rfl,rfl⟩ | ⟨ne,hw⟩
        · exact absurd (lookup_inj nd2 e1 h1) hyx
        · refine aq (ht w hw) fun t'' e rt=>?_
          exact aI t'' e (rt.ext ex ok1)
    · clear r hr ex' ok1 ex hmem bc hl nd2 hfz h1 hk hQ Q E hd' hl' o' hc ha hm hns m;obtain ⟨p,t',hcb⟩:=z.ok.cap y b hb
      by_cases hab:b=a
      · clear z v x cap hcb t' hb hs;subst hab;exact ⟨p,_,hc'⟩
      · exact ⟨p,t',hcb.sameBut hs hab⟩
  · clear r z hr nd2 hfz h1 hQ hm hns m;cases h2
theorem Cx.Rel.glob (hr:c.Rel s.heap μ σ):s.heap.Ns mainGlobals c.mg:=c.g.keeps hr.1.keep
theorem Cx.Rel.bui (hr:c.Rel s.heap μ σ):s.heap.Ns builtinsNs c.mb:=c.b.keeps hr.1.keep
theorem global_ok {x:PySem.Str} {p:Pos} {u:Value} {E:Value→Shared→Prop} {Q:Value→Shared→Prop} (hr:c.Rel s.heap μ σ) (z:At c k env s.heap μ ρ) (hg:k.gn x=true) (hu:c.mg x=some u) (h:Q u s):
    wpAny (model c.prog c.w) A (eval (.Name x p) env) Q E s:=by
  simp only [Ck.gn,Bool.and_eq_true,Bool.not_eq_true',beq_iff_eq] at hg
  exact Name_function_global z.ok.kind ((z.kind x).trans hg.1) (loadGlobal_global (by refine ag z.ok.glob ?_;exact hr.glob) hu h) hg.2
theorem builtin_ok {x:PySem.Str} {p:Pos} {u:Value} {E:Value→Shared→Prop} {Q:Value→Shared→Prop} (hr:c.Rel s.heap μ σ) (z:At c k env s.heap μ ρ) (hg:k.gn x=true) (hb:c.gt.bl.contains x=true) (hu:bootBuiltins x=some u) (h:Q u s):
    wpAny (model c.prog c.w) A (eval (.Name x p) env) Q E s:=by
  simp only [Ck.gn,Bool.and_eq_true,Bool.not_eq_true',beq_iff_eq] at hg
  refine aY (c.gbl x hb) fun h1 h2=>?_
  exact Name_function_global z.ok.kind ((z.kind x).trans hg.1) (loadGlobal_builtin (by refine ag z.ok.glob ?_;exact hr.glob) h1 (by refine ag z.ok.bi ?_;exact hr.bui) ((c.bi x h2).trans hu) h) hg.2
end
end
section
open PySem PySem.W PySem.Calls PyProof.Rows
structure Room (A:Around) (d u:Nat):Prop where
  hh:A.handled=none
  depth:A.depth+d≤1000
  units:A.units+u≤9900
theorem Room.mono {A:Around} {d u d' u':Nat} (r:Room A d u) (h:d'≤d:=by lia) (h':u'≤u:=by lia):Room A d' u':=⟨r.hh,by have:=r.depth;exact lZ (aZ h this),by have:=r.units;exact lZ (aZ h' this)⟩
noncomputable def bC (c:Cx) (n:Nat) (C:aw):Prop:=∀ k vs σ v σ',C k vs σ=some (v,σ')→∃ a o fd,c.fa k=some a∧c.h0.get? a=some o∧o.data=.func fd∧
  ∀ A,Room A (4*n+2) (16*n+200)→∀ s μ us,c.Rel s.heap μ σ→aG c.fa s.heap μ us vs→∀ R:Result→Shared→Prop,
    (∀ u h' tk μ',Ext [] s.heap μ h' μ'→c.Rel h' μ' σ'→Rep c.fa h' μ' u v→R (.ok (.ret u)) { s with heap:=h',toks:=tk })→codeAny (model c.prog c.w) A (.call (.ref a) ⟨us,[]⟩) R s
noncomputable def notStar (e:Expr):Bool:=!(e.ctorIdx.beq 22)
theorem starEach_cons {e:Expr} {rest:List Expr} {env:Env} (h:notStar e=true):starEach (e :: rest) env=(false,eval e env) :: starEach rest env:=by
  cases e <;> first | rfl | cases h
theorem star_plain {pos:Pos} {env:Env}:∀ {es:List Expr},es.all notStar=true→(backTo pos (starEach es env)).any (·.1)=false
  | [],_=>rfl
  | e :: es,h=>by
    simp only [List.all_cons,Bool.and_eq_true] at h
    refine ag (starEach_cons h.1) ?_
    show (false || (backTo pos (starEach es env)).any (·.1))=false
    refine ag (star_plain h.2) ?_;rfl
section
variable {c:Cx} {A:Around} {s:Shared} {μ:Mu} {σ:St} {env:Env}
theorem evalArgs_ok {M:Model} {f:Value} {es:List Expr} {pos:Pos} {E:Value→Shared→Prop} {Q:Args→Shared→Prop} (hs:es.all notStar=true)
    (h:wpAny M A (spliced (backTo pos (starEach es env))) (fun vs s'=>Q ⟨vs,[]⟩ s') E s):wpAny M A (evalArgs f true (backTo pos (starEach es env)) []) Q E s:=by
  have tail:wpAny M A (spliced (backTo pos (starEach es env)) >>=fun vs=>holding vs (do let kw:=(([]:List (Option PySem.Str×Sem Value)).filterMap (·.1)).zip (← evalAll []);return ⟨vs,kw⟩)) Q E s:=by
    refine wpAny_bind (wpAny_mono h (fun vs s' h'=>?_) fun zz zz x=>x)
    refine wpAny_holding ?_
    exact wpAny_bind (wpAny_pure (wpAny_pure h'))
  cases es with
  | nil=>
    unfold evalArgs
    show wpAny M A (spliced (backTo pos (starEach [] env)) >>=_) Q E s
    refine wpAny_bind (wpAny_mono h (fun vs s' h'=>?_) fun zz zz x=>x)
    refine wpAny_holding ?_
    exact wpAny_bind (wpAny_pure (wpAny_bind (wpAny_pure (wpAny_pure h'))))
  | cons e es=>
    simp only [List.all_cons,Bool.and_eq_true] at hs
    rw [starEach_cons hs.1] at h ⊢
    exact evalArgs_plain h
noncomputable def ArgsOk (c:Cx) (A:Around) (env:Env) (s:Shared) (μ:Mu) (es:List Expr) (vs:List V) (σ':St):Prop:=
  ∀ pos,Runs c A [] (spliced (backTo pos (starEach es env))) s μ (fun h' μ' us=>c.Rel h' μ' σ'∧aG c.fa h' μ' us vs)
theorem aG.app {fa:Nat→Option Addr} {h:Heap} {μ:Mu} {vs ws:List Value} {l m:List V} (a:aG fa h μ vs l) (b:aG fa h μ ws m):aG fa h μ (vs++ws) (l++m):=a.append b
theorem callFn_ok {n k:Nat} {C:aw} {a:Addr} {es:List Expr} {pos:Pos} {first:List Value} {self vs:List V} {v:V} {σ' σ'':St} (hC:bC c n C) (room:Room A (4*n+5) (16*n+213)) (hs:es.all notStar=true)
    (dc:ArgsOk c A env s μ es vs σ') (h:C k (self++vs) σ'=some (v,σ'')) (hself:aG c.fa s.heap μ first self) (ha:c.fa k=some a):
    Runs c A [] (callWith pos (.ref a) first (backTo pos (starEach es env)) []) s μ (fun h' μ' u=>c.Rel h' μ' σ''∧Rep c.fa h' μ' u v):=by
  intro E Q hQ
  refine E3A4 (hC _ _ _ _ _ h) fun a' o fd ha' ho hd run=>?_
  replace ha':=ha▸ha';cases ha'
  refine callWith_function (o:=o) (fd:=fd) (evalArgs_ok hs ((dc pos).use fun us h1 bh μ1 x1 p1=>⟨⟨p1.1.1.keep _ _ ho,hd⟩,?_⟩))
  refine wpAny_call (run A room.mono _ μ1 _ p1.1 ((hself.ext x1 (.nil _)).app p1.2) _ fun u h2 bN μ2 x2 r2 r=>?_)
  exact hQ u h2 bN μ2 (x1.trans x2) ⟨r2,r⟩
theorem callOther_ok {f:Value} {es:List Expr} {pos:Pos} {first:List Value} {vs:List V} {v:V} {σ' σ'':St} (hs:es.all notStar=true) (hk:keeperOf f=pure .machine)
    (dc:ArgsOk c A env s μ es vs σ') (run:∀ us h1 bh μ1,Ext [] s.heap μ h1 μ1→c.Rel h1 μ1 σ'→aG c.fa h1 μ1 us vs→Runs c A [] (call f (first++us)) { s with heap:=h1,toks:=bh } μ1 (fun h' μ' u=>c.Rel h' μ' σ''∧Rep c.fa h' μ' u v)):
    Runs c A [] (callWith pos f first (backTo pos (starEach es env)) []) s μ (fun h' μ' u=>c.Rel h' μ' σ''∧Rep c.fa h' μ' u v):=by
  intro E Q hQ
  refine callWith_of (P:=fun zz=>True) (by refine ag (star_plain hs) ?_;rfl) (fun h zz=>aI .machine (.inr (.inl rfl)) (Looks.of_pure hk)) (evalArgs_ok hs ((dc pos).use fun us h1 bh μ1 x1 p1=>⟨trivial,?_⟩))
  exact (run us h1 bh μ1 x1 p1.1 p1.2).use fun u h2 bN μ2 x2 p2=>hQ u h2 bN μ2 (x1.trans x2) p2
theorem under_new (A:Around) (C:Addr) (rest:List Value):(A.under (.builtin "type.__call__" ⟨.ref C :: rest,[]⟩)).handled=A.handled∧(A.under (.builtin "type.__call__" ⟨.ref C :: rest,[]⟩)).depth=A.depth+1∧(A.under (.builtin "type.__call__" ⟨.ref C :: rest,[]⟩)).units=A.units+1:=by
  have hf:(Code.builtin "type.__call__" ⟨.ref C :: rest,[]⟩).frames=0:=by kernel_rfl
  refine ⟨rfl,?_,?_⟩
  · show A.depth+Code.weight _=_
    unfold Code.weight
    refine ag hf ?_
    have h2:(Code.builtin "type.__call__" ⟨.ref C :: rest,[]⟩).isGuard=false:=by show guardIds.contains "type.__call__" = false;decide +kernel
    have h3:(Code.builtin "type.__call__" ⟨.ref C :: rest,[]⟩).isCaller=false:=by kernel_rfl
    refine ag h2 (ag h3 ?_)
    rfl
  · show A.units+Code.cUnits _=_
    simp only [Code.cUnits,hf]
theorem Cx.size (c:Cx) {h:Heap} {μ:Mu} (hr:c.Rel h μ σ):100≤h.objs.size:=by
  refine dP c.big fun a o h1 e=>?_
  have:=Heap.lt_size (hr.1.keep _ _ e)
  exact Nat.le_of_lt (Nat.lt_of_le_of_lt h1 this)
theorem new_ok {n k f:Nat} {C:aw} {es:List Expr} {pos:Pos} {vs:List V} {σ' σ'':St} (hC:bC c n C) (room:Room A (4*n+5) (16*n+213)) (hs:es.all notStar=true)
    (dc:ArgsOk c A env s μ es vs σ') (hi:c.T.init k=some f) (h:C f (.obj σ'.length :: vs) (σ'++[.inst k []])=some (.none,σ'')) (cz:keepIn c.K (.ref (c.ca k))=true) (hr0:c.Rel s.heap μ σ):
    Runs c A [] (callWith pos (.ref (c.ca k)) [] (backTo pos (starEach es env)) []) s μ (fun h' μ' u=>c.Rel h' μ' σ''∧Rep c.fa h' μ' u (.obj σ'.length)):=by
  intro E Q hQ
  clear hr0;obtain ⟨ok,d,hd,hfi,hty,_⟩:=c.init k f hi
  refine E3A4 (hC _ _ _ _ _ h) fun a' o fd ha' ho hdat run=>?_
  replace ha':=hd▸ha';clear hi hC hd hdat ho fd o;cases ha'
  refine callWith_of (by refine ag (star_plain hs) ?_;rfl) (keeps_K cz) (evalArgs_ok hs ((dc pos).use fun us h1 bh μ1 x1 p1=>⟨p1.1.dW,wpAny_call ?_⟩))
  refine aY p1 fun hr1 rs=>?_
  clear p1
  have hsz:=c.size hr1
  have hk:∀ b ob,h1.get? b=some ob→((h1.push emptyDict).push (instObj (c.ca k) h1.objs.size)).get? b=some ob:=fun b ob e=>Heap.get?_push_of_some _ (Heap.get?_push_of_some _ e)
  have hx:((h1.push emptyDict).push (instObj (c.ca k) h1.objs.size)).get? (h1.objs.size+1)=some (instObj (c.ca k) h1.objs.size):=by heap_get
  have hdx:((h1.push emptyDict).push (instObj (c.ca k) h1.objs.size)).get? h1.objs.size=some emptyDict:=by heap_get
  have xs:Ext [] h1 μ1 ((h1.push emptyDict).push (instObj (c.ca k) h1.objs.size)) (μ1.add (h1.objs.size+1,h1.objs.size)):=
    ⟨fun b ob e zz zz=>hk b ob e,fun b ob e=>⟨ob,hk b ob e⟩,[_],[],rfl,fun p hp=>by refine ag (List.mem_singleton.mp hp) ?_;exact ⟨aJ _ (Nat.le_refl _),hsz⟩,fun zz h=>nomatch h⟩
  have hnew:c.Rel ((h1.push emptyDict).push (instObj (c.ca k) h1.objs.size)) (μ1.add (h1.objs.size+1,h1.objs.size)) (σ'++[.inst k []]):=by
    refine ⟨hr1.1.ext xs (by simp),hr1.2.new hk (aJ _ (Nat.le_refl _)) hsz ⟨?_,hx,[],0,hdx,.nil⟩⟩
    intro hm
    unfold aM at hm
    simp only [Mu.add,List.map_append,List.map_cons,List.map_nil,List.mem_append,List.mem_singleton] at hm
    have hf:h1.objs.size+1∉aM μ1:=hr1.2.fresh (aJ _ (Nat.le_succ _))
    unfold aM at hf
    clear cz dc hs room pos es xs hdx hx hk hsz hty hfi ok hQ Q E h rs hr1 x1 bh us run;rcases hm with (hm | hm) | hm
    · exact hf (List.mem_append.mpr (.inl hm))
    · exact absurd hm (Nat.succ_ne_self _)
    · exact hf (List.mem_append.mpr (.inr hm))
  have hself:Rep c.fa ((h1.push emptyDict).push (instObj (c.ca k) h1.objs.size)) (μ1.add (h1.objs.size+1,h1.objs.size)) (.ref (h1.objs.size+1)) (.obj σ'.length):=
    .obj (p:=(h1.objs.size+1,h1.objs.size)) (by refine cw hr1.2.len ?_;simp [Mu.add])
  refine make_core (makes_of hr1.dW ok.makes) (looks_findIn hr1.dW hfi) (fun self=>bind_fn hr1.dW self hty) (.inl rfl) ?_
  refine dJ (under_new A (c.ca k) us) fun u1 u2 u3=>?_
  refine run _ ⟨u1.trans room.hh,by refine ag u2 ?_;have:=room.depth;exact lZ this,by refine ag u3 ?_;have:=room.units;exact lZ this⟩ _ _ _ hnew (.cons hself (rs.ext xs (.nil _))) _ fun u h2 bN μ2 x2 r2 r=>?_
  clear cz dc hs room pos es hnew hdx hx hk hsz hty hfi ok u3 u2 u1 h rs hr1 us run;cases r
  refine ⟨rfl,hQ _ h2 bN μ2 ((x1.trans xs).trans x2) ⟨r2,hself.ext x2 (.nil _)⟩⟩
end
end
section
open PySem PySem.W PySem.Calls PyProof.Rows
section
variable {c:Cx} {A:Around} {s:Shared} {μ:Mu} {σ:St} {env:Env}
set_option tactic.hygienic true in
theorem method_own {u:Value} {n k:Nat} {a:Nat} {cl:Nat} {fs:List (Nat×V)} {pl:Sem Bool} {E:Value→Shared→Prop} {Q:Value×List Value→Shared→Prop} (hr:c.Rel s.heap μ σ) (ra:Rep c.fa s.heap μ u (.obj n)) (hn:σ[n]?=some (.inst cl fs)) (hf:cn a fs=none)
    (hm:c.T.aV cl a=some k) (h:∀ d,c.fa k=some d→Q (.ref d,[u]) s):wpAny (model c.prog c.w) A (getMethod u (aH a) pl) Q E s:=by
  obtain ⟨ha,C,d,hd,hfi,hfn⟩:=c.aV cl a k hm
  clear hm;cases ra;rename_i p hp
  obtain ⟨p',dQ,e1,e2,es,n',e3,f⟩:=hr.2.get hn
  replace dQ:=hp▸dQ;clear hn e1 hp;cases dQ
  have hg:=C.get
  refine method_fn hr.dW (inst_at e2 e3) (plainGet_of hg).1 (plainGet_of hg).2 hfi (beq_iff_eq.mp hfn) ?_ (h d hd)
  show (lookIn (aH a) (dictOf es n')).map _=_
  refine ag (lookIn_dict ..) (ag ((f.getL ha).2 hf ..) ?_);rfl
set_option tactic.hygienic true in
theorem method_dyn {u:Value} {n k:Nat} {a:Nat} {cl:Nat} {fs:List (Nat×V)} {pl:Sem Bool} {E:Value→Shared→Prop} {Q:Value×List Value→Shared→Prop} (hr:c.Rel s.heap μ σ) (ra:Rep c.fa s.heap μ u (.obj n)) (hn:σ[n]?=some (.inst cl fs)) (hf:cn a fs=some (.fn k))
    (hm:c.T.dyn cl a=true) (h:∀ d tk,c.fa k=some d→Q (.ref d,[]) { s with toks:=tk }):wpAny (model c.prog c.w) A (getMethod u (aH a) pl) Q E s:=by
  refine aY (c.dyn cl a hm) fun hfl hfi=>?_
  clear hm;obtain ⟨ha,C,_,_⟩:=c.fld cl a hfl
  have hget:getA c.T σ (.obj n) a=some (.fn k):=by simp [getA,hn,hfl,hf]
  have ra':=ra
  clear hf ha hfl;cases ra;rename_i p hp
  obtain ⟨p',dQ,e1,e2,es,n',e3,f⟩:=hr.2.get hn
  replace dQ:=hp▸dQ;clear hn f e1 hp;cases dQ
  have hg:=C.get
  refine method_usual hr.dW (inst_at e2 e3) (plainGet_of hg).1 (plainGet_of hg).2 hfi rfl ?_
  refine (getA_ok hr ra' hget).use fun r h' tk μ' x p=>?_
  refine dJ p fun zq0 aW rr=>?_
  clear p
  clear hr E pl fs hg ra' hget e3 n' es e2 C p x hfi;subst zq0 aW
  clear n;cases rr;rename_i d hd
  exact h d tk hd
set_option tactic.hygienic true in
theorem method_lst {u:Value} {n a:Nat} {l:List V} {pl:Sem Bool} {E:Value→Shared→Prop} {Q:Value×List Value→Shared→Prop} (hr:c.Rel s.heap μ σ) (ra:Rep c.fa s.heap μ u (.obj n)) (hn:σ[n]?=some (.lst l)) (ha:a=0∨a=1)
    (h:∀ p,μ.l[n]?=some p→u=.ref p.1→Q (.builtin (if a=0 then "list.append" else "list.pop"),[u]) s):wpAny (model c.prog c.w) A (getMethod u (aH a) pl) Q E s:=by
  cases ra;rename_i p hp
  obtain ⟨p',dQ,e1,vs,⟨e,hl⟩,_⟩:=hr.2.get hn
  replace dQ:=hp▸dQ;clear hn hr;cases dQ
  have hT:s.TypeIs (.ref p.1) "list" := by refine ag e1 ?_;exact aI _ hl rfl
  have hd:∀ b,Value.ref p.1=.ref b→∃ o,s.heap.get? b=some o∧o.dict=none:=fun b e=>by clear E pl;cases e;refine ag e1 ?_;exact aI _ hl rfl
  have z:=h p hp rfl
  clear h hl e1 hp e;rcases ha with rfl | rfl
  · exact getMethod_builtin hT F.plainAttrs_list F.slot_list_append F.type_list_append hd z
  · exact getMethod_builtin hT F.plainAttrs_list F.slot_list_pop F.type_list_pop hd z
set_option tactic.hygienic true in
theorem method_dct {u:Value} {n:Nat} {l:List (Int×V)} {pl:Sem Bool} {E:Value→Shared→Prop} {Q:Value×List Value→Shared→Prop} (hr:c.Rel s.heap μ σ) (ra:Rep c.fa s.heap μ u (.obj n)) (hn:σ[n]?=some (.cN l))
    (h:∀ p,μ.l[n]?=some p→u=.ref p.1→Q (.builtin "dict.get",[u]) s):wpAny (model c.prog c.w) A (getMethod u (aH 2) pl) Q E s:=by
  cases ra;rename_i p hp
  obtain ⟨p',dQ,e1,kvs,hd,_⟩:=hr.2.get hn
  replace dQ:=hp▸dQ;cases dQ
  refine E3A4 (id hd) fun o es ep hg hc hdd rest=>?_
  have hT:s.TypeIs (.ref p.1) "dict" := by refine ag e1 ?_;exact hd.typeIs
  have hdn:∀ b,Value.ref p.1=.ref b→∃ o,s.heap.get? b=some o∧o.dict=none:=fun b e=>by
    cases e;refine ag e1 ?_;exact aI _ hg (by first | exact hc.2 | (obtain ⟨_,_,_⟩:=hc;assumption) | simp_all [Obj.ExactDict])
  exact getMethod_builtin hT F.plainAttrs_dict F.slot_dict_get F.type_dict_get hdn (h p hp rfl)
noncomputable def cA (e:Expr):Bool:=!(e.ctorIdx.beq 16)
set_option tactic.hygienic true in
theorem methCall_ok {n a:Nat} {C:aw} {x:V} {u:Value} {es:List Expr} {pos:Pos} {pl:Sem Bool} {vs:List V} {v:V} {f:Callee} {σ' σ'':St} (hC:bC c n C) (room:Room A (4*n+5) (16*n+213)) (hs:es.all notStar=true)
    (hr:c.Rel s.heap μ σ) (ra:Rep c.fa s.heap μ u x) (hf:dB c.T σ x a=some f) (dc:∀ tk,ArgsOk c A env { s with toks:=tk } μ es vs σ')
    (h:callF C f a vs σ'=some (v,σ'')):
    ∀ (E:Value→Shared→Prop) (Q:Value→Shared→Prop),(∀ u h' tk μ',Ext [] s.heap μ h' μ'→c.Rel h' μ' σ''∧Rep c.fa h' μ' u v→Q u { s with heap:=h',toks:=tk })→
      wpAny (model c.prog c.w) A (getMethod u (aH a) pl) (fun fx s'=>wpAny (model c.prog c.w) A (callWith pos fx.1 fx.2 (backTo pos (starEach es env)) []) Q E s') E s:=by
  intro E Q hQ
  unfold dB at hf
  split at hf
  · rename_i m
    split at hf
    · rename_i cl fs hn
      split at hf
      · rename_i q hq
        split at hf
        · rename_i hdyn
          cases hf
          refine method_dyn hr ra hn hq hdyn fun d tk hd=>?_
          exact (callFn_ok (self:=[]) hC room hs (dc tk) h .nil hd).use fun u h' tk' μ' x p=>hQ u h' tk' μ' x p
        · clear h dc ra hr hs room hC σ' vs C n hq q hn fs m hQ;cases hf
      · clear h dc ra hr hs room hC σ' vs C n hn cl m hQ;cases hf
      · rename_i hq
        obtain ⟨k',hk',rfl⟩:=Option.map_eq_some_iff.mp hf
        refine method_own hr ra hn hq hk' fun d hd=>?_
        exact (callFn_ok (self:=[.obj m]) hC room hs (dc s.toks) h (.cons ra .nil) hd).use fun u h' tk' μ' x p=>hQ u h' tk' μ' x p
    · rename_i l hn
      clear room hC n;cases hf
      have ha:a=0∨a=1:=by
        unfold callF lstMeth at h
        dsimp only at h
        split at h
        · split at h
          · exact .inl rfl
          · exact .inr rfl
          · clear dc ra hr hs pl pos es C hn hQ Q E u;cases h
        · clear dc ra hr hs vs pl pos es C hn hQ Q E u;cases h
      refine method_lst hr ra hn ha fun p hp hu=>?_
      refine (callOther_ok (f:=.builtin (if a=0 then "list.append" else "list.pop")) hs rfl (dc s.toks) fun us h1 bh μ1 x1 r1 rs1=>?_).use fun u h' tk' μ' x p=>hQ u h' tk' μ' x p
      clear dc ra hr hs pl pos es hn hQ Q E;subst hu
      have hp1:μ1.l[m]?=some p:=x1.nth hp
      exact lstMeth_ok (s:={ s with heap:=h1,toks:=bh }) r1 hp1 rs1 h ha
    · rename_i l hn
      clear room hC n;cases hf
      have ha:a=2:=by
        unfold callF dctMeth at h
        dsimp only at h
        split at h
        · split at h
          · rfl
          · clear dc ra hr hs pl pos es C hn hQ Q E u;cases h
        · clear dc ra hr hs vs pl pos es C hn hQ Q E u;cases h
      subst ha
      refine method_dct hr ra hn fun p hp hu=>?_
      refine (callOther_ok (f:=.builtin "dict.get") hs rfl (dc s.toks) fun us h1 bh μ1 x1 r1 rs1=>?_).use fun u h' tk' μ' x p=>hQ u h' tk' μ' x p
      clear dc ra hr hs pl pos es hn hQ Q E;subst hu
      have hp1:μ1.l[m]?=some p:=x1.nth hp
      exact dctMeth_ok (s:={ s with heap:=h1,toks:=bh }) r1 hp1 rs1 h
    · clear h dc ra hr hs room hC σ' vs C n hQ;cases hf
  · clear h dc ra hr hs room hC σ' vs C n hQ;cases hf
end
end
section
open PySem PySem.W PySem.Calls PyProof.Rows
structure Drop (a:Addr) (h:Heap) (μ:Mu) (h':Heap) (μ':Mu):Prop where
  l:μ'.l=μ.l
  z:∃ ζ ξ,μ.z=ζ++a :: ξ∧μ'.z=ζ++ξ
  but:Heap.ExtBut a h h'
theorem Drop.chg {a:Addr} {h h':Heap} {μ μ':Mu} (d:Drop a h μ h' μ'):Mine.chg μ'=Mine.chg μ:=by unfold Mine.chg;exact ag d.l rfl
theorem Drop.mem {a b:Addr} {h h':Heap} {μ μ':Mu} (d:Drop a h μ h' μ') (hb:b∉aM μ):b∉aM μ'∧b≠a:=by
  refine dP d.z fun ζ ξ e1 e2=>?_
  unfold aM at hb ⊢
  refine ag d.l (ag e2 ?_)
  rw [e1] at hb
  simp only [List.mem_append,List.mem_cons,not_or] at hb ⊢
  exact ⟨⟨hb.1,hb.2.1,hb.2.2.2⟩,hb.2.2.1⟩
structure Mv (h:Heap) (μ:Mu) (h':Heap) (μ':Mu):Prop where
  l:∃ ν,μ'.l=μ.l++ν
  sub:∀ b,b∉aM μ→b∉aM μ'
  keep:∀ b o,h.get? b=some o→b∉aM μ→(∀ es n,o.data≠.dict es n)→(∀ v,o.data≠.cell v)→h'.get? b=some o
  chg:∀ b∈Mine.chg μ,∀ o,h.get? b=some o→h'.get? b=some o
section
variable {fa:Nat→Option Addr} {h h':Heap} {μ μ':Mu}
theorem Mv.moves (d:Mv h μ h' μ'):Moves fa fa h μ h' μ':=⟨fun _ _ e ha h1 h2=>d.keep _ _ e ha h1 h2,fun _ _ _ ha=>d.sub _ ha,fun _ _ e=>by obtain ⟨ν,e'⟩:=d.l;refine ag e' (ag (List.getElem?_append_left (List.getElem?_eq_some_iff.mp e).1) ?_);exact e,fun _ _ e=>e⟩
theorem Rep.mv (d:Mv h μ h' μ') {v:Value} {x:V} (r:Rep fa h μ v x):Rep fa h' μ' v x:=r.move d.moves
theorem aG.mv (d:Mv h μ h' μ') {vs:List Value} {l:List V} (r:aG fa h μ vs l):aG fa h' μ' vs l:=r.move d.moves
end
theorem Drop.mv {a:Addr} {h h':Heap} {μ μ':Mu} (d:Drop a h μ h' μ') (ha:a∉Mine.chg μ):Mv h μ h' μ':=
  ⟨⟨[],by refine ag d.l ?_;simp⟩,fun b hb=>(d.mem hb).1,fun b o e hb zz zz=>d.but _ _ (d.mem hb).2 e,fun b hb o e=>by
    by_cases q:b=a
    · clear d μ' e;subst q;exact absurd hb ha
    · exact d.but _ _ q e⟩
section
variable {prog:Program} {w:World} {fa:Nat→Option Addr} {ca:Nat→Addr} {a:Addr} {h h':Heap} {μ μ':Mu} {σ:St}
theorem dm.mv {p:Addr×Addr} (d:Mv h μ h' μ') (hp:p.2∈Mine.chg μ) {o:AO} (r:dm prog w fa ca h μ p o):dm prog w fa ca h' μ' p o:=r.move d.moves fun _ q=>d.chg _ hp _ q
theorem az.drop (d:Drop a h μ h' μ') (r:az prog w fa ca h μ σ):az prog w fa ca h' μ' σ:=by
  refine dP d.z fun ζ ξ e1 e2=>?_
  have ha:a∈μ.z:=by refine ag e1 ?_;simp
  have nd:=r.nodup
  refine ⟨by refine ag d.l ?_;exact r.len,?_,fun b hb=>?_,fun i p o h1 h2=>?_⟩
  · unfold aM at nd ⊢
    refine ag d.l (ag e2 ?_)
    rw [e1] at nd
    exact nd.sublist (List.Sublist.append_left (List.Sublist.append_left (List.sublist_cons_self _ _) _) _)
  · have bc:b≠a:=by
      rintro rfl
      have:=(List.nodup_append.mp nd).2.1
      rw [e1] at this
      rw [e2] at hb
      have h3:=List.nodup_append.mp this
      rcases List.mem_append.mp hb with hb | hb
      · exact h3.2.2 b hb b List.mem_cons_self rfl
      · exact (List.nodup_cons.mp h3.2.1).1 hb
    have hb':b∈μ.z:=by
      rw [e2] at hb;refine ag e1 ?_
      rcases List.mem_append.mp hb with hb | hb
      · exact List.mem_append.mpr (.inl hb)
      · exact List.mem_append.mpr (.inr (List.mem_cons_of_mem _ hb))
    refine aN (r.zlive b hb') fun o e=>?_
    exact ⟨o,d.but _ _ bc e⟩
  · rw [d.l] at h1
    exact (r.obj i p o h1 h2).mv (d.mv (r.z_chg ha)) (mem_chg h1)
end
section
variable {c:Cx} {A:Around} {s:Shared} {μ:Mu} {σ:St}
theorem Cx.Rel.drop {a:Addr} {h h':Heap} {μ':Mu} (d:Drop a h μ h' μ') (r:c.Rel h μ σ):c.Rel h' μ' σ:=
  ⟨⟨fun b o e=>d.but _ _ (d.mem (r.1.apart b o e)).2 (r.1.keep b o e),fun b o e=>(d.mem (r.1.apart b o e)).1,fun b hb=>r.1.high b (by
    refine dP d.z fun ζ ξ e1 e2=>?_
    unfold aM at hb ⊢
    rw [d.l,e2] at hb
    refine ag e1 ?_
    simp only [List.mem_append,List.mem_cons] at hb ⊢
    rcases hb with hb | hb | hb
    · exact .inl hb
    · exact .inr (.inl hb)
    · exact .inr (.inr (.inr hb))),by refine ag d.l ?_;exact r.1.pre⟩,r.2.drop d⟩
theorem At.drop {a:Addr} {h h':Heap} {μ':Mu} {k:Ck} {env:Env} {ρ:List V} (d:Drop a h μ h' μ') (ha:a∉Mine.chg μ) (z:At c k env h μ ρ):At c k env h' μ' ρ:=by
  have d':=d.mv ha
  obtain ⟨m,⟨oL,esL,nL,eL,rL⟩,hm⟩:=z.ok.ns
  refine ⟨z.names,⟨z.ok.kind,z.ok.glob,z.ok.bi,⟨m,⟨oL,esL,nL,d.but _ _ (d.mem z.ok.lap).2 eL,rL⟩,fun y i p q v r=>?_⟩,fun y i p q=>?_,(d.mem z.ok.lap).1,fun y b hb=>?_,z.ok.apart⟩,z.len,z.chk,z.mine⟩
  · refine aq (hm y i p q v r) fun u e t=>?_
    exact aI u e (t.mv d')
  · obtain ⟨b,u,e,⟨o,g,gd⟩,t⟩:=z.ok.cell y i p q
    have hc:=z.ok.cap y b (PySem.mem_of_lookup e)
    refine ⟨b,u,e,⟨o,d.but _ _ (d.mem hc.1).2 g,gd⟩,fun v hv=>?_⟩
    refine aq (t v hv) fun w e' t'=>?_
    exact aI w e' (t'.mv d')
  · obtain ⟨p,u,o,g,gd⟩:=z.ok.cap y b hb
    exact ⟨(d.mem p).1,u,o,d.but _ _ (d.mem p).2 g,gd⟩
theorem Ext.dropped {X:List Addr} {a:Addr} {h h₁ h₂ h₃:Heap} {μ₂:Mu} (hk:∀ b ob,h.get? b=some ob→h₁.get? b=some ob) (ha:h.get? a=Option.none) (x:Ext X h₁ (μ.bS a) h₂ μ₂) (hb:Heap.ExtBut a h₂ h₃):∃ μ',Ext X h μ h₃ μ'∧Drop a h₂ μ₂ h₃ μ':=by
  refine E2A3 x.grow fun ν ζ zq2 hν hζ=>?_
  subst zq2
  have back:∀ b,h₁.get? b=Option.none→h.get? b=Option.none:=fun b e=>by
    cases q:h.get? b with
    | none=>rfl
    | some o=>replace e:=(hk b o q)▸e;cases e
  refine aI ⟨μ.l++ν,ζ++μ.z⟩ ⟨fun b o e hb1 hb2=>hb b o ?_ (x.keep b o (hk b o e) hb1 hb2),fun b o e=>?_,ν,ζ,rfl,fun p hp=>⟨back _ (hν p hp).1,(hν p hp).2⟩,fun b hb1=>⟨back _ (hζ b hb1).1,(hζ b hb1).2⟩⟩ ⟨rfl,⟨ζ,μ.z,rfl,rfl⟩,hb⟩
  · rintro rfl;replace e:=ha▸e;cases e
  · have bc:b≠a:=by rintro rfl;replace e:=ha▸e;cases e
    refine aN (x.alive b o (hk b o e)) fun o' e'=>?_
    exact ⟨o',hb b o' bc e'⟩
noncomputable def ItAt (c:Cx) (h:Heap) (μ:Mu) (it:Addr):V→Nat→Prop
  | .tup l,i=>∃ a vs e,h.get? a=some (tupO vs e)∧a∉aM μ∧aG c.fa h μ vs l∧h.IsTupleIter it a i
  | .lst l,i=>∃ a vs e,h.get? a=some (lstO vs e)∧a∉aM μ∧aG c.fa h μ vs l∧h.IsListIter it a i
  | .obj n,i=>∃ p,μ.l[n]?=some p∧h.IsListIter it p.2 i
  | .rng n,i=>IsRangeIter h it (0+(i:Int)*1) (max n 0 - i) 1
  | _,_=>False
theorem ItAt.ext {X:List Addr} {h h':Heap} {μ':Mu} {it:Addr} {src:V} {i:Nat} (x:Ext X h μ h' μ') (ok:XOk X h μ) (h1:it∉chg μ) (h2:it∉X) (z:ItAt c h μ it src i):ItAt c h' μ' it src i:=by
  cases src <;> first | exact z.elim | skip
  · obtain ⟨a,vs,e,g,ha,r,o,go,q⟩:=z
    exact ⟨a,vs,e,x.keep _ _ g (cJ ha) (ok.notin g ha (by intro _ _;simp) (by intro _;simp)),x.notin g ha,r.ext x ok,o,x.keep _ _ go h1 h2,q⟩
  · obtain ⟨a,vs,e,g,ha,r,o,go,q⟩:=z
    exact ⟨a,vs,e,x.keep _ _ g (cJ ha) (ok.notin g ha (by intro _ _;simp) (by intro _;simp)),x.notin g ha,r.ext x ok,o,x.keep _ _ go h1 h2,q⟩
  · obtain ⟨p,hp,o,go,q⟩:=z
    exact ⟨p,x.nth hp,o,x.keep _ _ go h1 h2,q⟩
  · exact x.keep _ _ z h1 h2
theorem rangeSize_eq (n:Int):Builtin.Range.rangeSize 0 n 1=max n 0:=by
  unfold Builtin.Range.rangeSize
  simp only [show (1:Int) > 0 by decide,if_true]
  split
  · refine ag (Int.ediv_one ..) ?_;lia
  · lia
set_option tactic.hygienic true in
theorem pyIter_ok {u:Value} {src:V} {E:Value→Shared→Prop} {Q:Value→Shared→Prop} (hr:c.Rel s.heap μ σ) (ra:Rep c.fa s.heap μ u src) (h:cP src σ=true)
    (hQ:∀ h' o,(∀ b ob,s.heap.get? b=some ob→h'.get? b=some ob)→h'.get? s.heap.objs.size=some o→ItAt c h' (μ.bS s.heap.objs.size) s.heap.objs.size src 0→Q (.ref s.heap.objs.size) { s with heap:=h' }):
    wpAny (model c.prog c.w) A (pyIter u) Q E s:=by
  have hsz:=c.size hr
  have go:∀ o:Obj,o.isFreed=false→(∀ b ob,s.heap.get? b=some ob→(s.heap.push o).get? b=some ob)∧(s.heap.push o).get? s.heap.objs.size=some o∧Ext [] s.heap μ (s.heap.push o) (μ.bS s.heap.objs.size):=fun o ho=>
    ⟨fun b ob e=>Heap.get?_push_of_some _ e,Heap.get?_push_size _ ho,.bS (fun b ob e=>Heap.get?_push_of_some _ e) (aJ _ (Nat.le_refl _)) hsz⟩
  unfold cP a9 at h
  clear hsz;cases ra <;> dsimp only at h <;> first | (simp at h;done) | skip
  · rename_i a vs e l g ha r
    refine dJ (go { cls:=.type "tuple_iterator",data:=.fields #[.ref a,.int 0 0] } rfl) fun k l1 x=>?_
    exact wpAny_pyIter_tuple ⟨_,g,rfl,_,rfl⟩ (hQ _ _ k l1 ⟨a,vs,e,k _ _ g,x.notin g ha,r.ext x (.nil _),_,l1,rfl,rfl⟩)
  · rename_i a vs e l g ha r
    refine dJ (go { cls:=.type "list_iterator",data:=.fields #[.ref a,.int 0 0] } rfl) fun k l1 x=>?_
    exact wpAny_pyIter_list ⟨_,g,rfl,_,rfl⟩ (hQ _ _ k l1 ⟨a,vs,e,k _ _ g,x.notin g ha,r.ext x (.nil _),_,l1,rfl,rfl⟩)
  · rename_i n p hp
    split at h
    · rename_i l hl
      clear h;obtain ⟨p',dQ,e1,vs,hlst,rs⟩:=hr.2.get hl
      replace dQ:=hp▸dQ;clear hr rs hl l;cases dQ
      refine ag e1 ?_
      refine dJ (go { cls:=.type "list_iterator",data:=.fields #[.ref p.2,.int 0 0] } rfl) fun k l1 x=>?_
      exact wpAny_pyIter_list hlst.isList (hQ _ _ k l1 ⟨p,hp,_,l1,rfl,rfl⟩)
    · simp at h
  · rename_i a n t u v g ha
    split at h
    · rename_i q
      have hn:=idxOk_lt q
      have hs:Builtin.Range.rangeSize 0 n 1=max n 0:=rangeSize_eq n
      have hsm:Builtin.Range.small 0 n 1=true:=by
        unfold Builtin.Range.small
        refine ag hs ?_
        have:∀ x:Int,-1≤x∧x≤1000000∨x.natAbs < 1000001→Builtin.Range.rangeFitsLong x=true:=fun x hx=>by
          unfold Builtin.Range.rangeFitsLong
          simp
          omega
        refine ag (this 0 (by omega)) (ag (this n (by omega)) (ag (this 1 (by omega)) (ag (this (max n 0) (by omega)) ?_)))
        simp only [Bool.true_and,show (1:Int) > 0 by decide,if_true]
        refine ag (this (n+(1 - 1)) (by omega)) ?_
        simp
      refine dJ (go { cls:=.type "range_iterator",data:=.fields #[rawInt 0,rawInt (max n 0),rawInt 1] } rfl) fun k l1 x=>?_
      refine wpAny_pyIter_range g hsm ?_
      refine ag hs ?_
      refine hQ _ _ k l1 ?_
      show IsRangeIter _ _ _ _ _
      simpa using l1
    · simp at h
theorem Cx.Rel.iter {h h':Heap} {it:Addr} {o':Obj} (hr:c.Rel h μ σ) (hz:it∈μ.z) (hs:Heap.SameBut it h h') (hl:h'.get? it=some o'):Ext [it] h μ h' μ∧XOk [it] h μ∧c.Rel h' μ σ:=by
  have hx:it∉chg μ:=hr.2.z_chg hz
  have ex:Ext [it] h μ h' μ:=.same hs (.inr (List.mem_singleton.mpr rfl)) hl
  have ok:XOk [it] h μ:=fun a ha=>.inl (by refine ag (List.mem_singleton.mp ha) ?_;exact hz)
  refine ⟨ex,ok,hr.1.ext ex fun a ha=>?_,hr.2.frame hs hl hx ok⟩
  refine ag (List.mem_singleton.mp ha) ?_
  cases e:c.h0.get? it with
  | none=>rfl
  | some o=>exact absurd (List.mem_append.mpr (.inr hz)) (hr.1.apart _ _ e)
set_option tactic.hygienic true in
theorem next_some {it:Addr} {src v:V} {i:Nat} {E:Value→Shared→Prop} {Q:Option Value→Shared→Prop} (hr:c.Rel s.heap μ σ) (hz:it∈μ.z) (hi:ItAt c s.heap μ it src i) (h:a9 src i σ=some (some v))
    (hQ:∀ w h' tk,Ext [it] s.heap μ h' μ→XOk [it] s.heap μ→c.Rel h' μ σ→ItAt c h' μ it src (i+1)→Rep c.fa h' μ w v→Q (some w) { s with heap:=h',toks:=tk }):
    wpAny (model c.prog c.w) A (pyNext (.ref it)) Q E s:=by
  unfold a9 at h
  cases src <;> first | exact hi.elim | skip
  · refine E3A4 hi fun a vs e g ha r hit=>?_
    clear hi
    refine aq (r.get (by simpa using h)) fun w hw rw_=>?_
    refine wpAny_pyNext_tuple_item hit ⟨_,g,rfl,_,rfl⟩ (x:=w) (by simpa using hw) fun h' hit' hs=>?_
    refine aq (id hit') fun o' go q=>?_
    refine dJ (hr.iter hz hs go) fun ex ok hr'=>?_
    exact hQ w h' s.toks ex ok hr' (I3A4 a vs e (ex.keep _ _ g (cJ ha) (ok.notin g ha (by intro _ _;simp) (by intro _;simp))) ha (r.ext ex ok) hit') (rw_.ext ex ok)
  · refine E3A4 hi fun a vs e g ha r hit=>?_
    clear hi
    refine aq (r.get (by simpa using h)) fun w hw rw_=>?_
    refine wpAny_pyNext_list_item hit ⟨_,g,rfl,_,rfl⟩ (x:=w) (by simpa using hw) fun h' hit' hs=>?_
    refine aq (id hit') fun o' go q=>?_
    refine dJ (hr.iter hz hs go) fun ex ok hr'=>?_
    exact hQ w h' s.toks ex ok hr' (I3A4 a vs e (ex.keep _ _ g (cJ ha) (ok.notin g ha (by intro _ _;simp) (by intro _;simp))) ha (r.ext ex ok) hit') (rw_.ext ex ok)
  · rename_i n
    refine aq hi fun p hp hit=>?_
    clear hi
    dsimp only at h
    split at h
    · rename_i l hl
      obtain ⟨p',dQ,e1,vs,hlst,rs⟩:=hr.2.get hl
      replace dQ:=hp▸dQ;cases dQ
      refine aq (rs.get (by simpa using h)) fun w hw rw_=>?_
      refine wpAny_pyNext_list_item hit hlst.isList (x:=w) (by simpa using hw) fun h' hit' hs=>?_
      refine aq (id hit') fun o' go q=>?_
      refine dJ (hr.iter hz hs go) fun ex ok hr'=>?_
      exact hQ w h' s.toks ex ok hr' (aI p hp hit') (rw_.ext ex ok)
    · cases h
  · rename_i n
    dsimp only at h
    split at h
    · split at h
      · rename_i q1 q2
        cases h
        refine wpAny_pyNext_range_item hi (by lia) fun h' hit' hs=>?_
        refine dJ (hr.iter hz hs hit') fun ex ok hr'=>?_
        refine hQ _ h' _ ex ok hr' ?_ ?_
        · show IsRangeIter _ _ _ _ _
          have e1:(0+((i+1:Nat):Int)*1)=0+(i:Int)*1+1:=by lia
          have e2:max n 0 - ((i+1:Nat):Int)=max n 0 - (i:Int) - 1:=by lia
          refine ag e1 (ag e2 ?_);exact hit'
        · have:(0+(i:Int)*1)=i:=by lia
          refine ag this ?_;exact .int _ _
      · cases h
    · cases h
set_option tactic.hygienic true in
theorem next_none {it:Addr} {src:V} {i:Nat} {E:Value→Shared→Prop} {Q:Option Value→Shared→Prop} (hh:A.handled=Option.none) (hr:c.Rel s.heap μ σ) (hi:ItAt c s.heap μ it src i) (h:a9 src i σ=some Option.none)
    (hQ:∀ h',Heap.ExtBut it s.heap h'→Q Option.none { s with heap:=h' }):
    wpAny (model c.prog c.w) A (pyNext (.ref it)) Q E s:=by
  unfold a9 at h
  cases src <;> first | exact hi.elim | skip
  · refine E3A4 hi fun a vs e g ha r hit=>?_
    clear hi
    refine wpAny_pyNext_tuple_end hh hit ⟨_,g,rfl,_,rfl⟩ ?_ hQ
    have hl:=r.len
    simp at h ⊢;exact lZ (aZ (Nat.le_of_eq hl) h)
  · refine E3A4 hi fun a vs e g ha r hit=>?_
    clear hi
    refine wpAny_pyNext_list_end hh hit ⟨_,g,rfl,_,rfl⟩ ?_ hQ
    have hl:=r.len
    simp at h ⊢;exact lZ (aZ (Nat.le_of_eq hl) h)
  · rename_i n
    refine aq hi fun p hp hit=>?_
    clear hi
    dsimp only at h
    split at h
    · rename_i l hl
      obtain ⟨p',dQ,e1,vs,hlst,rs⟩:=hr.2.get hl
      replace dQ:=hp▸dQ;cases dQ
      refine wpAny_pyNext_list_end hh hit hlst.isList ?_ hQ
      have hl:=rs.len
      simp at h ⊢;exact lZ (aZ (Nat.le_of_eq hl) h)
    · cases h
  · rename_i n
    dsimp only at h
    split at h
    · split at h
      · cases h
      · exact wpAny_pyNext_range_end hh hi (by lia) hQ
    · cases h
end
end
section
open PySem PySem.W PySem.Calls PyProof.Rows
theorem vw {P Q:Prop} [Decidable P] {g:P→Bool} (h:dite P g (fun _=>false)=true) (k:P→∀ hp:P,g hp=true→Q):Q:=by
  by_cases hp:P
  · rw [dif_pos hp] at h;exact k hp hp h
  · rw [dif_neg hp] at h;cases h
noncomputable def onK (e:Expr) (f:Const→Bool):Bool:=if h:e.ctorIdx=19 then Expr.Constant.elim (motive_1:=fun _=>Bool) e h (fun c _ _=>f c) else false
@[elab_as_elim] theorem onK_ok {P:Expr→Prop} {e f} (h:onK e f=true) (q:∀ c k p,f c=true→P (.Constant c k p)):P e:=vw h fun hp=>Expr.Constant.elim e hp fun c k p _ h=>q c k p h
noncomputable def onNm (e:Expr) (f:PySem.Str→Bool):Bool:=if h:e.ctorIdx=23 then Expr.Name.elim (motive_1:=fun _=>Bool) e h (fun x _=>f x) else false
@[elab_as_elim] theorem dU {P:Expr→Prop} {e f} (h:onNm e f=true) (q:∀ x p,f x=true→P (.Name x p)):P e:=vw h fun hp=>Expr.Name.elim e hp fun x p _ h=>q x p h
noncomputable def onBO (e:Expr) (f:PySem.BoolOp→List Expr→Bool):Bool:=if h:e.ctorIdx=0 then Expr.BoolOp.elim (motive_1:=fun _=>Bool) e h (fun o l _=>f o l) else false
@[elab_as_elim] theorem onBO_ok {P:Expr→Prop} {e f} (h:onBO e f=true) (q:∀ o l p,f o l=true→P (.BoolOp o l p)):P e:=vw h fun hp=>Expr.BoolOp.elim e hp fun o l p _ h=>q o l p h
noncomputable def onBin (e:Expr) (f:Expr→PySem.Operator→Expr→Bool):Bool:=if h:e.ctorIdx=2 then Expr.BinOp.elim (motive_1:=fun _=>Bool) e h (fun x o y _=>f x o y) else false
@[elab_as_elim] theorem onBin_ok {P:Expr→Prop} {e f} (h:onBin e f=true) (q:∀ x o y p,f x o y=true→P (.BinOp x o y p)):P e:=vw h fun hp=>Expr.BinOp.elim e hp fun x o y p _ h=>q x o y p h
noncomputable def onUn (e:Expr) (f:PySem.UnaryOp→Expr→Bool):Bool:=if h:e.ctorIdx=3 then Expr.UnaryOp.elim (motive_1:=fun _=>Bool) e h (fun o x _=>f o x) else false
@[elab_as_elim] theorem onUn_ok {P:Expr→Prop} {e f} (h:onUn e f=true) (q:∀ o x p,f o x=true→P (.UnaryOp o x p)):P e:=vw h fun hp=>Expr.UnaryOp.elim e hp fun o x p _ h=>q o x p h
noncomputable def onIf (e:Expr) (f:Expr→Expr→Expr→Bool):Bool:=if h:e.ctorIdx=5 then Expr.IfExp.elim (motive_1:=fun _=>Bool) e h (fun x y z _=>f x y z) else false
@[elab_as_elim] theorem onIf_ok {P:Expr→Prop} {e f} (h:onIf e f=true) (q:∀ x y z p,f x y z=true→P (.IfExp x y z p)):P e:=vw h fun hp=>Expr.IfExp.elim e hp fun x y z p _ h=>q x y z p h
noncomputable def onTup (e:Expr) (f:List Expr→Bool):Bool:=if h:e.ctorIdx=25 then Expr.Tuple.elim (motive_1:=fun _=>Bool) e h (fun l _ _=>f l) else false
@[elab_as_elim] theorem onTup_ok {P:Expr→Prop} {e f} (h:onTup e f=true) (q:∀ l k p,f l=true→P (.Tuple l k p)):P e:=vw h fun hp=>Expr.Tuple.elim e hp fun l k p _ h=>q l k p h
noncomputable def onLst (e:Expr) (f:List Expr→Bool):Bool:=if h:e.ctorIdx=24 then Expr.List.elim (motive_1:=fun _=>Bool) e h (fun l _=>f l) else false
@[elab_as_elim] theorem onLst_ok {P:Expr→Prop} {e f} (h:onLst e f=true) (q:∀ l p,f l=true→P (.List l p)):P e:=vw h fun hp=>Expr.List.elim e hp fun l p _ h=>q l p h
noncomputable def onDic (e:Expr) (f:List (Option Expr)→List Expr→Bool):Bool:=if h:e.ctorIdx=6 then Expr.Dict.elim (motive_1:=fun _=>Bool) e h (fun a b _=>f a b) else false
@[elab_as_elim] theorem onDic_ok {P:Expr→Prop} {e f} (h:onDic e f=true) (q:∀ a b p,f a b=true→P (.Dict a b p)):P e:=vw h fun hp=>Expr.Dict.elim e hp fun a b p _ h=>q a b p h
noncomputable def onLC (e:Expr) (f:Expr→List Comprehension→Scope→Bool):Bool:=if h:e.ctorIdx=8 then Expr.ListComp.elim (motive_1:=fun _=>Bool) e h (fun x g s _=>f x g s) else false
@[elab_as_elim] theorem onLC_ok {P:Expr→Prop} {e f} (h:onLC e f=true) (q:∀ x g s p,f x g s=true→P (.ListComp x g s p)):P e:=vw h fun hp=>Expr.ListComp.elim e hp fun x g s p _ h=>q x g s p h
noncomputable def onCmp (e:Expr) (f:Expr→List PySem.CmpOp→List Expr→Bool):Bool:=if h:e.ctorIdx=15 then Expr.Compare.elim (motive_1:=fun _=>Bool) e h (fun x o l _=>f x o l) else false
@[elab_as_elim] theorem onCmp_ok {P:Expr→Prop} {e f} (h:onCmp e f=true) (q:∀ x o l p,f x o l=true→P (.Compare x o l p)):P e:=vw h fun hp=>Expr.Compare.elim e hp fun x o l p _ h=>q x o l p h
noncomputable def onCall (e:Expr) (f:Expr→List Expr→List Keyword→Pos→Bool):Bool:=if h:e.ctorIdx=16 then Expr.Call.elim (motive_1:=fun _=>Bool) e h (fun x l k p=>f x l k p) else false
@[elab_as_elim] theorem onCall_ok {P:Expr→Prop} {e f} (h:onCall e f=true) (q:∀ x l k p,f x l k p=true→P (.Call x l k p)):P e:=vw h fun hp=>Expr.Call.elim e hp fun x l k p _ h=>q x l k p h
noncomputable def onAt (e:Expr) (f:Expr→PySem.Str→Pos→Bool):Bool:=if h:e.ctorIdx=20 then Expr.Attribute.elim (motive_1:=fun _=>Bool) e h (fun x a p=>f x a p) else false
@[elab_as_elim] theorem onAt_ok {P:Expr→Prop} {e f} (h:onAt e f=true) (q:∀ x a p,f x a p=true→P (.Attribute x a p)):P e:=vw h fun hp=>Expr.Attribute.elim e hp fun x a p _ h=>q x a p h
noncomputable def onSub (e:Expr) (f:Expr→Expr→Bool):Bool:=if h:e.ctorIdx=21 then Expr.Subscript.elim (motive_1:=fun _=>Bool) e h (fun x y _=>f x y) else false
@[elab_as_elim] theorem onSub_ok {P:Expr→Prop} {e f} (h:onSub e f=true) (q:∀ x y p,f x y=true→P (.Subscript x y p)):P e:=vw h fun hp=>Expr.Subscript.elim e hp fun x y p _ h=>q x y p h
noncomputable def onSl (e:Expr) (f:Option Expr→Option Expr→Option Expr→Bool):Bool:=if h:e.ctorIdx=26 then Expr.Slice.elim (motive_1:=fun _=>Bool) e h (fun x y z _=>f x y z) else false
@[elab_as_elim] theorem onSl_ok {P:Expr→Prop} {e f} (h:onSl e f=true) (q:∀ x y z p,f x y z=true→P (.Slice x y z p)):P e:=vw h fun hp=>Expr.Slice.elim e hp fun x y z p _ h=>q x y z p h
noncomputable def onBool (e:Const) (f:Bool→Bool):Bool:=if h:e.ctorIdx=1 then Const.bool.elim (motive:=fun _=>Bool) e h (fun b=>f b) else false
@[elab_as_elim] theorem onBool_ok {P:Const→Prop} {e f} (h:onBool e f=true) (q:∀ b,f b=true→P (.bool b)):P e:=vw h fun hp=>Const.bool.elim e hp fun b _ h=>q b h
noncomputable def onInt (e:Const) (f:Int→Bool):Bool:=if h:e.ctorIdx=2 then Const.int.elim (motive:=fun _=>Bool) e h (fun b=>f b) else false
@[elab_as_elim] theorem onInt_ok {P:Const→Prop} {e f} (h:onInt e f=true) (q:∀ b,f b=true→P (.int b)):P e:=vw h fun hp=>Const.int.elim e hp fun b _ h=>q b h
noncomputable def onStr (e:Const) (f:PySem.Str→Bool):Bool:=if h:e.ctorIdx=5 then Const.str.elim (motive:=fun _=>Bool) e h (fun b=>f b) else false
@[elab_as_elim] theorem onStr_ok {P:Const→Prop} {e f} (h:onStr e f=true) (q:∀ b,f b=true→P (.str b)):P e:=vw h fun hp=>Const.str.elim e hp fun b _ h=>q b h
@[elab_as_elim] theorem cNone_ok {P:Const→Prop} {c:Const} (h:(c.ctorIdx ==0)=true) (q:P .none):P c:=Const.none.elim (motive:=P) c (beq_iff_eq.mp h) q
noncomputable def onC {α:Type} (l:List α) (f:α→List α→Bool):Bool:=List.casesOn (motive:=fun _=>Bool) l false f
noncomputable def on1 {α:Type} (l:List α) (f:α→Bool):Bool:=onC l fun x t=>t.isEmpty && f x
noncomputable def on2 {α:Type} (l:List α) (f:α→α→Bool):Bool:=onC l fun x t=>on1 t (f x)
theorem ek {a b:Bool} (h:(a && b)=true):a=true∧b=true:=Bool.and_eq_true_iff.mp h
theorem a1 {a b:Bool} (h:(a && b)=true):a=true:=(Bool.and_eq_true_iff.mp h).1
theorem a2 {a b:Bool} (h:(a && b)=true):b=true:=(Bool.and_eq_true_iff.mp h).2
@[elab_as_elim] theorem lem {α:Type} {P:α→Prop} [BEq α] [LawfulBEq α] {a b:α} {q:Bool} (h:(a ==b && q)=true) (k:q=true→P a):P b:=eq_of_beq (a1 h)▸k (a2 h)
@[elab_as_elim] theorem lem' {α:Type} {P:α→Prop} [BEq α] [LawfulBEq α] {a b:α} {q:Bool} (h:(a ==b && q)=true) (k:q=true→P b):P a:=eq_of_beq (a1 h)▸k (a2 h)
@[elab_as_elim] theorem nil_e {α:Type} {P:List α→Prop} {l:List α} (h:l.isEmpty=true) (k:P []):P l:=(List.isEmpty_iff.mp h).symm▸k
@[elab_as_elim] theorem nilOf {α:Type} {P:List α→Prop} {l:List α} {q:Bool} (h:(l.isEmpty && q)=true) (k:q=true→P []):P l:=nil_e (a1 h) (k (a2 h))
@[elab_as_elim] theorem noneOf {α:Type} {P:Option α→Prop} {l:Option α} {q:Bool} (h:(l.isNone && q)=true) (k:q=true→P none):P l:=(Option.isNone_iff_eq_none.mp (a1 h)).symm▸k (a2 h)
@[elab_as_elim] theorem onC_ok {α:Type} {P:List α→Prop} {l:List α} {f} (h:onC l f=true) (q:∀ x t,f x t=true→P (x :: t)):P l:=List.casesOn (motive:=fun l=>onC l f=true→P l) l (fun h=>nomatch h) (fun x t h=>q x t h) h
@[elab_as_elim] theorem on1_ok {α:Type} {P:List α→Prop} {l:List α} {f} (h:on1 l f=true) (q:∀ x,f x=true→P [x]):P l:=onC_ok h fun x t h=>nilOf h (q x)
@[elab_as_elim] theorem on2_ok {α:Type} {P:List α→Prop} {l:List α} {f} (h:on2 l f=true) (q:∀ x y,f x y=true→P [x,y]):P l:=onC_ok h fun x t h=>on1_ok h (q x)
noncomputable def onS {α:Type} (l:Option α) (f:α→Bool):Bool:=Option.casesOn (motive:=fun _=>Bool) l false f
@[elab_as_elim] theorem onS_ok {α:Type} {P:Option α→Prop} {l:Option α} {f} (h:onS l f=true) (q:∀ x,f x=true→P (some x)):P l:=Option.casesOn (motive:=fun l=>onS l f=true→P l) l (fun h=>nomatch h) (fun x h=>q x h) h
noncomputable def onRet (e:Stmt) (f:Option Expr→Bool):Bool:=if h:e.ctorIdx=3 then Stmt.Return.elim (motive_2:=fun _=>Bool) e h (fun x _=>f x) else false
@[elab_as_elim] theorem onRet_ok {P:Stmt→Prop} {e f} (h:onRet e f=true) (q:∀ x p,f x=true→P (.Return x p)):P e:=vw h fun hp=>Stmt.Return.elim e hp fun x p _ h=>q x p h
noncomputable def onAsg (e:Stmt) (f:List Expr→Expr→Bool):Bool:=if h:e.ctorIdx=5 then Stmt.Assign.elim (motive_2:=fun _=>Bool) e h (fun l x _=>f l x) else false
@[elab_as_elim] theorem onAsg_ok {P:Stmt→Prop} {e f} (h:onAsg e f=true) (q:∀ l x p,f l x=true→P (.Assign l x p)):P e:=vw h fun hp=>Stmt.Assign.elim e hp fun l x p _ h=>q l x p h
noncomputable def onAug (e:Stmt) (f:Expr→PySem.Operator→Expr→Bool):Bool:=if h:e.ctorIdx=7 then Stmt.AugAssign.elim (motive_2:=fun _=>Bool) e h (fun x o y _=>f x o y) else false
@[elab_as_elim] theorem onAug_ok {P:Stmt→Prop} {e f} (h:onAug e f=true) (q:∀ x o y p,f x o y=true→P (.AugAssign x o y p)):P e:=vw h fun hp=>Stmt.AugAssign.elim e hp fun x o y p _ h=>q x o y p h
noncomputable def onFor (e:Stmt) (f:Expr→Expr→List Stmt→List Stmt→Bool):Bool:=if h:e.ctorIdx=9 then Stmt.For.elim (motive_2:=fun _=>Bool) e h (fun x y l m _=>f x y l m) else false
@[elab_as_elim] theorem onFor_ok {P:Stmt→Prop} {e f} (h:onFor e f=true) (q:∀ x y l m p,f x y l m=true→P (.For x y l m p)):P e:=vw h fun hp=>Stmt.For.elim e hp fun x y l m p _ h=>q x y l m p h
noncomputable def onWh (e:Stmt) (f:Expr→List Stmt→List Stmt→Bool):Bool:=if h:e.ctorIdx=11 then Stmt.While.elim (motive_2:=fun _=>Bool) e h (fun x l m _=>f x l m) else false
@[elab_as_elim] theorem onWh_ok {P:Stmt→Prop} {e f} (h:onWh e f=true) (q:∀ x l m p,f x l m=true→P (.While x l m p)):P e:=vw h fun hp=>Stmt.While.elim e hp fun x l m p _ h=>q x l m p h
noncomputable def onIff (e:Stmt) (f:Expr→List Stmt→List Stmt→Bool):Bool:=if h:e.ctorIdx=12 then Stmt.If.elim (motive_2:=fun _=>Bool) e h (fun x l m _=>f x l m) else false
@[elab_as_elim] theorem onIff_ok {P:Stmt→Prop} {e f} (h:onIff e f=true) (q:∀ x l m p,f x l m=true→P (.If x l m p)):P e:=vw h fun hp=>Stmt.If.elim e hp fun x l m p _ h=>q x l m p h
noncomputable def onTry (e:Stmt) (f:List Stmt→List ExceptHandler→List Stmt→List Stmt→Bool):Bool:=if h:e.ctorIdx=17 then Stmt.Try.elim (motive_2:=fun _=>Bool) e h (fun a b l m _=>f a b l m) else false
@[elab_as_elim] theorem onTry_ok {P:Stmt→Prop} {e f} (h:onTry e f=true) (q:∀ a b l m p,f a b l m=true→P (.Try a b l m p)):P e:=vw h fun hp=>Stmt.Try.elim e hp fun a b l m p _ h=>q a b l m p h
noncomputable def onPass (e:Stmt) (f:Bool):Bool:=if h:e.ctorIdx=25 then Stmt.Pass.elim (motive_2:=fun _=>Bool) e h (fun _=>f ) else false
@[elab_as_elim] theorem onPass_ok {P:Stmt→Prop} {e f} (h:onPass e f=true) (q:∀ p,f=true→P (.Pass p)):P e:=vw h fun hp=>Stmt.Pass.elim e hp fun p _ h=>q p h
noncomputable def onCont (e:Stmt) (f:Bool):Bool:=if h:e.ctorIdx=27 then Stmt.Continue.elim (motive_2:=fun _=>Bool) e h (fun _=>f ) else false
@[elab_as_elim] theorem onCont_ok {P:Stmt→Prop} {e f} (h:onCont e f=true) (q:∀ p,f=true→P (.Continue p)):P e:=vw h fun hp=>Stmt.Continue.elim e hp fun p _ h=>q p h
noncomputable def onEx (e:Stmt) (f:PySem.Expr→Bool):Bool:=if h:e.ctorIdx=24 then Stmt.Expr.elim (motive_2:=fun _=>Bool) e h (fun x _=>f x) else false
@[elab_as_elim] theorem onEx_ok {P:Stmt→Prop} {e f} (h:onEx e f=true) (q:∀ x p,f x=true→P (.Expr x p)):P e:=vw h fun hp=>Stmt.Expr.elim e hp fun x p _ h=>q x p h
end
section
open PySem PySem.W PySem.Calls PyProof.Rows
noncomputable def bltName:Bl→String
  | .max2=> "max" | .maxL=> "max" | .min2=> "min" | .abs=> "abs" | .int=> "int" | .len=> "len" | .range=> "range" | .list=> "list" | .sorted=> "sorted"
theorem blt_boot (b:Bl):bootBuiltins (PySem.Str.ofString (bltName b))=some (blOf b):=by
  cases b <;> decide +kernel
theorem blt_keeper (b:Bl):keeperOf (blOf b)=pure .machine:=by cases b <;> rfl
noncomputable def relabelN (k:Ck) (names:List (PySem.Str×NameKind)):List (PySem.Str×NameKind):=names.map fun (n,kd)=>if kd ==.free && k.names.lookup n ==some .cell then (n,.cell) else (n,kd)
noncomputable def Ck.comp (k:Ck) (scope:Scope) (v:PySem.Str):Ck:=⟨relabelN k scope.names,(v,k.n) :: k.res.filter (fun p=>!(p.1 ==v)),k.n+1,k.frz⟩
noncomputable def compOk (k:Ck) (scope:Scope) (v:PySem.Str):Bool:=
  scope.kind ==.function && scope.names.all (fun p=>p.2 !=.cell) && decide ((scope.names.map (·.1)).Nodup) && scope.names.lookup v ==some .local
  && scope.names.all (fun p=>p.2 !=.free || ((k.names.lookup p.1 ==some .cell || k.names.lookup p.1 ==some .free) && (k.res.lookup p.1).isSome))
  && (k.comp scope v).ok
  && (k.comp scope v).res.all (fun p=>p.1 ==v || (k.comp scope v).names.lookup p.1 !=some .local)
noncomputable def dH (e:Expr):Bool:=!(e.ctorIdx.beq 7)
noncomputable def notSlice (e:Expr):Bool:=!(e.ctorIdx.beq 26)
mutual
noncomputable def aS (g:Gt) (k:Ck):XE→Expr→Bool
  | .none,e=>onK e fun c=>c.ctorIdx ==0
  | .bool b,e=>onK e fun c=>onBool c fun b'=>b ==b'
  | .int i,e=>onK e fun c=>onInt c fun j=>i ==j
  | .str s,e=>onK e fun c=>onStr c fun t=>strOf s ==t
  | .loc i,e=>onNm e fun x=>k.nm x i
  | .gl i,e=>onNm e fun x=>k.gn x && g.gl.lookup x ==some i
  | .and l,e=>onBO e fun o es=>o ==.And && cH g k l es
  | .or l,e=>onBO e fun o es=>o ==.Or && cH g k l es
  | .bin o a b,e=>onBin e fun x op y=>opOf o ==op && (aS g k a x && aS g k b y)
  | .neg a,e=>onUn e fun o x=>o ==.USub && aS g k a x
  | .not a,e=>onUn e fun o x=>o ==.Not && aS g k a x
  | .ite t a b,e=>onIf e fun x y z=>aS g k t x && (aS g k a y && aS g k b z)
  | .tup l,e=>onTup e fun es=>cH g k l es
  | .lst _ l,e=>onLst e fun es=>cH g k l es
  | .dict0,e=>onDic e fun a b=>a.isEmpty && b.isEmpty
  | .comp _ elt iter cond,e=>onLC e fun x gs scope=>on1 gs fun q=>onNm q.target fun v=>q.is_async ==0 && (compOk k scope v && (dH q.iter && (aS g k iter q.iter && (aS g (k.comp scope v) elt x && chkC g (k.comp scope v) cond q.ifs))))
  | .cmp o a b,e=>onCmp e fun x os es=>on1 os fun op=>on1 es fun y=>cmOf o ==op && (dH y && (aS g k a x && aS g k b y))
  | .cmp2 a o b o' c,e=>onCmp e fun x os es=>on2 os fun op op'=>on2 es fun y z=>cmOf o ==op && (cmOf o' ==op' && (dH z && (aS g k a x && (aS g k b y && aS g k c z))))
  | .call n l,e=>onCall e fun f es ks pos=>ks.isEmpty && (cH g k l es && (onNm f (fun x=>k.gn x && g.fn.lookup x ==some n) ||
      onAt f fun b at_ apos=>onNm b fun x=>k.gn x && (g.cm.lookup (x,at_) ==some n && (apos.endLine ==pos.line && decide (es.length < 30)))))
  | .new n l,e=>onCall e fun f es ks zz=>ks.isEmpty && onNm f fun x=>k.gn x && (g.cl.lookup x ==some n && cH g k l es)
  | .blt b l,e=>onCall e fun f es ks zz=>ks.isEmpty && onNm f fun x=>x ==PySem.Str.ofString (bltName b) && (k.gn x && (g.bl.contains x && cH g k l es))
  | .aV o a l,e=>onCall e fun f es ks pos=>ks.isEmpty && onAt f fun x at_ apos=>aH a ==at_ && (cA x && (apos.endLine ==pos.line && (decide (es.length < 30) && (aS g k o x && cH g k l es))))
  | .attr o a,e=>onAt e fun x at_ zz=>aH a ==at_ && (cA x && aS g k o x)
  | .idx o i,e=>onSub e fun x y=>notSlice y && (aS g k o x && aS g k i y)
  | .sliceTo _ o n,e=>onSub e fun x y=>onSl y fun a b c=>a.isNone && (c.isNone && onS b fun m=>onK m fun c=>onInt c fun m=>(n:Int) ==m && aS g k o x)
  | .sliceFrom _ o n,e=>onSub e fun x y=>onSl y fun a b c=>b.isNone && (c.isNone && onS a fun m=>onK m fun c=>onInt c fun m=>(n:Int) ==m && aS g k o x)
noncomputable def cH (g:Gt) (k:Ck):List XE→List Expr→Bool
  | [],es=>es.isEmpty
  | a :: l,es=>onC es fun e es=>notStar e && (aS g k a e && cH g k l es)
noncomputable def chkC (g:Gt) (k:Ck):Option XE→List Expr→Bool
  | .none,es=>es.isEmpty
  | some a,es=>on1 es fun e=>aS g k a e
end
section
variable {c:Cx} {n:Nat} {C:aw} {k:Ck}
noncomputable def SndE (c:Cx) (n:Nat) (C:aw) (k:Ck) (x:XE) (e:Expr):Prop:=∀ {A:Around},Room A (4*n+5) (16*n+213)→∀ {s:Shared} {μ:Mu} {σ:St} {env:Env} {ρ:List V} {v:V} {σ':St},
  c.Rel s.heap μ σ→At c k env s.heap μ ρ→ae c.T C x ρ σ=some (v,σ')→Runs c A [] (eval e env) s μ (fun h' μ' u=>c.Rel h' μ' σ'∧Rep c.fa h' μ' u v)
noncomputable def SndT (c:Cx) (n:Nat) (C:aw) (k:Ck) (x:XE) (e:Expr):Prop:=∀ {A:Around},Room A (4*n+5) (16*n+213)→∀ {s:Shared} {μ:Mu} {σ:St} {env:Env} {ρ:List V} {v:V} {σ':St} {b:Bool},
  c.Rel s.heap μ σ→At c k env s.heap μ ρ→ae c.T C x ρ σ=some (v,σ')→truth v=some b→Runs c A [] (isTrue e env (eval e env)) s μ (fun h' μ' r=>c.Rel h' μ' σ'∧r=b)
noncomputable def Snd (c:Cx) (n:Nat) (C:aw) (k:Ck) (x:XE) (e:Expr):Prop:=SndE c n C k x e∧SndT c n C k x e
noncomputable def SndL (c:Cx) (n:Nat) (C:aw) (k:Ck) (l:List XE) (es:List Expr):Prop:=∀ {A:Around},Room A (4*n+5) (16*n+213)→∀ {s:Shared} {μ:Mu} {σ:St} {env:Env} {ρ:List V} {vs:List V} {σ':St},
  c.Rel s.heap μ σ→At c k env s.heap μ ρ→bp c.T C l ρ σ=some (vs,σ')→ArgsOk c A env s μ es vs σ'
noncomputable def plainTest:Expr→Bool
  | .UnaryOp .Not _ _=>false
  | .BoolOp ..=>false
  | .IfExp ..=>false
  | .Compare ..=>false
  | _=>true
set_option tactic.hygienic true in
theorem aQ {x:XE} {e:Expr} (h:SndE c n C k x e) (hp:plainTest e=true):Snd c n C k x e:=by
  refine ⟨h,fun room s μ σ env ρ v σ' b hr z hx ht=>?_⟩
  intro E Q hQ
  refine isTrue_plain ((h room hr z hx).use fun u h1 bh μ1 x1 p1=>(truth_ok p1.2 ht).use fun r h2 bN μ2 x2 p2=>?_) ?_
  · refine dJ p2 fun zq0 aW zq2=>?_
    clear p2
    clear hp h e E ht hx z hr ρ env σ room;subst zq0 aW zq2
    exact hQ _ _ bN _ (x1.trans x2) ⟨p1.1,rfl⟩
  · unfold plainTest at hp
    clear h hQ Q E ht hx z hr b σ' v ρ σ μ s room;cases e <;> first | rfl | (simp at hp;done) | skip
    all_goals (rename_i op _ _;clear x;cases op <;> first | rfl | (simp at hp;done))
theorem snd_none {kk p}:SndE c n C k .none (.Constant .none kk p):=fun room s μ σ env ρ v σ' hr z h=>by
  refine bx h ?_
  exact fun E Q hQ=>Constant_none (hQ _ s.heap s.toks μ (.refl ..) ⟨hr,.none⟩)
theorem snd_bool {b kk p}:SndE c n C k (.bool b) (.Constant (.bool b) kk p):=fun room s μ σ env ρ v σ' hr z h=>by
  refine bx h ?_
  exact fun E Q hQ=>Constant_bool (hQ _ s.heap s.toks μ (.refl ..) ⟨hr,.bool b⟩)
theorem snd_int {i kk p}:SndE c n C k (.int i) (.Constant (.int i) kk p):=fun room s μ σ env ρ v σ' hr z h=>by
  refine bx h ?_
  exact fun E Q hQ=>wpAny_Constant_int (hQ _ s.heap _ μ (.refl ..) ⟨hr,.int i _⟩)
theorem snd_str {i kk p}:SndE c n C k (.str i) (.Constant (.str (strOf i)) kk p):=fun room s μ σ env ρ v σ' hr z h=>by
  refine bx h ?_
  exact fun E Q hQ=>Constant_str (hQ _ s.heap _ μ (.refl ..) ⟨hr,.str i _⟩)
theorem snd_loc {i x p} (hn:k.nm x i=true):SndE c n C k (.loc i) (.Name x p):=fun room s μ σ env ρ v σ' hr z h=>by
  clear room;obtain ⟨hw,rfl⟩:=i_loc h
  clear h
  exact (name_ok z hn hw).mono fun h' μ' u x ⟨e1,e2,r⟩=>by clear hn hw z ρ env;subst e1 e2;exact ⟨hr,r⟩
theorem snd_gl {i x p} (hn:k.gn x=true) (hg:c.gt.gl.lookup x=some i):SndE c n C k (.gl i) (.Name x p):=fun room s μ σ env ρ v σ' hr z h=>by
  refine bx h ?_
  refine dP (c.ggl x i hg) fun j t h1 h2=>?_
  intro E Q hQ
  refine global_ok hr z hn h1 ?_
  have:=hQ (.int j t) s.heap s.toks μ (.refl ..) ⟨hr,by refine ag h2 ?_;exact .int j t⟩
  exact this
theorem snd_bin {o a b x y p} (ha:SndE c n C k a x) (hb:SndE c n C k b y):SndE c n C k (.bin o a b) (.BinOp x (opOf o) y p):=fun room s μ σ env ρ v σ' hr z h=>by
  refine E3A3 (i_bin h) fun va σ1 vb ea eb hw=>?_
  clear h
  intro E Q hQ
  refine wpAny_BinOp ((ha room hr z ea).use fun u h1 bh μ1 x1 p1=>(hb (s:={ s with heap:=h1,toks:=bh }) room p1.1 (z.ext x1) eb).use fun t h2 bN μ2 x2 p2=>?_)
  have ra:=p1.2.ext x2 (.nil _)
  have fin:∀ r h3 tk3 μ3,Ext [] h2 μ2 h3 μ3→c.Rel h3 μ3 σ'∧Rep c.fa h3 μ3 r v→Q r { s with heap:=h3,toks:=tk3 }:=fun r h3 tk3 μ3 x3 p3=>hQ r h3 tk3 μ3 ((x1.trans x2).trans x3) p3
  clear hb ha hQ x2 p1 x1 μ1 eb ea σ1 z hr ρ env σ μ room;rcases binV_ok hw with ⟨i,j,rfl,rfl,hw⟩ | ⟨rfl,i,j,rfl,rfl,hw⟩
  · refine aN ra.intI fun t1 aW=>?_
    clear ra;subst aW
    refine aN p2.2.intI fun t2 e0=>?_
    refine ag e0 ?_
    exact (ints_ok (s:={ s with heap:=h2,toks:=bN }) hw).use fun r h3 tk3 μ3 x3 ⟨e1,e2,i,t,e3,e4⟩=>fin r h3 tk3 μ3 x3 (by clear fin Q E e0 t2 t1 x3 tk3 bh h1 hw;subst e1 e2 e3 e4;exact ⟨p2.1,.int i t⟩)
  · exact (addl_ok (s:={ s with heap:=h2,toks:=bN }) p2.1 ra p2.2 hw).use fun r h3 tk3 μ3 x3 p3=>fin r h3 tk3 μ3 x3 p3
theorem snd_neg {a x p} (ha:SndE c n C k a x):SndE c n C k (.neg a) (.UnaryOp .USub x p):=fun room s μ σ env ρ v σ' hr z h=>by
  refine aq (i_neg h) fun i ea zq2=>?_
  subst zq2
  clear h
  intro E Q hQ
  refine wpAny_UnaryOp ((ha room hr z ea).use fun u h1 bh μ1 x1 p1=>?_)
  refine aN p1.2.intI fun t aW=>?_
  subst aW
  exact PyProof.Rows.neg_int (hQ _ h1 _ μ1 x1 ⟨p1.1,.int _ _⟩)
theorem snd_not {a x p} (ha:Snd c n C k a x):Snd c n C k (.not a) (.UnaryOp .Not x p):=by
  refine ⟨fun room s μ σ env ρ v σ' hr z h=>?_,fun room s μ σ env ρ v σ' b hr z h ht=>?_⟩
  · refine E2A3 (i_not h) fun va w ea hw zq4=>?_
    subst zq4
    clear h
    intro E Q hQ
    refine wpAny_UnaryOp ((ha.1 room hr z ea).use fun u h1 bh μ1 x1 p1=>not_of ((truth_ok (s:={ s with heap:=h1,toks:=bh }) p1.2 hw).use fun r h2 bN μ2 x2 zp=>?_))
    clear ha E x2 hw ea z hr ρ env σ room;obtain ⟨e1,e2,e3⟩:=zp
    subst e1 e2 e3
    exact hQ _ _ bN _ x1 ⟨p1.1,.bool _⟩
  · refine E2A3 (i_not h) fun va w ea hw zq4=>?_
    subst zq4
    clear h
    refine someO ht ?_
    intro E Q hQ
    exact wpAny_isTrue_Not ((ha.2 room hr z ea hw).use fun r h1 bh μ1 x1 p1=>hQ _ h1 bh μ1 x1 ⟨p1.1,by exact ag p1.2 rfl⟩)
theorem snd_ite {t a b x y w p} (ht:Snd c n C k t x) (ha:Snd c n C k a y) (hb:Snd c n C k b w):Snd c n C k (.ite t a b) (.IfExp x y w p):=by
  refine ⟨fun room s μ σ env ρ v σ' hr z h=>?_,fun room s μ σ env ρ v σ' q hr z h htr=>?_⟩
  all_goals
    refine E3A3 (i_ite h) fun vt σ1 r et tr h=>?_
    intro E Q hQ
  · refine wpAny_IfExp ((ht.2 room hr z et tr).use fun r' h1 bh μ1 x1 p1=>?_)
    refine ag p1.2 ?_
    clear ht tr et vt hr;cases r
    · exact (hb.1 (s:={ s with heap:=h1,toks:=bh }) room p1.1 (z.ext x1) h).use fun u h2 bN μ2 x2 p2=>hQ u h2 bN μ2 (x1.trans x2) p2
    · exact (ha.1 (s:={ s with heap:=h1,toks:=bh }) room p1.1 (z.ext x1) h).use fun u h2 bN μ2 x2 p2=>hQ u h2 bN μ2 (x1.trans x2) p2
  · show wpAny _ _ (do if ← isTrue x env (eval x env) then isTrue y env (eval y env) else isTrue w env (eval w env)) _ _ s
    refine wpAny_bind ((ht.2 room hr z et tr).use fun r' h1 bh μ1 x1 p1=>?_)
    refine ag p1.2 ?_
    clear ht tr et vt hr;cases r
    · exact (hb.2 (s:={ s with heap:=h1,toks:=bh }) room p1.1 (z.ext x1) h htr).use fun u h2 bN μ2 x2 p2=>hQ u h2 bN μ2 (x1.trans x2) p2
    · exact (ha.2 (s:={ s with heap:=h1,toks:=bh }) room p1.1 (z.ext x1) h htr).use fun u h2 bN μ2 x2 p2=>hQ u h2 bN μ2 (x1.trans x2) p2
end
end
section
open PySem PySem.W PySem.Calls PyProof.Rows
section
variable {c:Cx} {n:Nat} {C:aw} {k:Ck}
noncomputable def SndAnd (c:Cx) (n:Nat) (C:aw) (k:Ck) (l:List XE) (es:List Expr):Prop:=∀ {A:Around},Room A (4*n+5) (16*n+213)→∀ {s:Shared} {μ:Mu} {σ:St} {env:Env} {ρ:List V} {v:V} {σ':St} {p:Pos},
  c.Rel s.heap μ σ→At c k env s.heap μ ρ→andX c.T C l ρ σ=some (v,σ')→
    Runs c A [] (eval (.BoolOp .And es p) env) s μ (fun h' μ' u=>c.Rel h' μ' σ'∧Rep c.fa h' μ' u v)∧
    ∀ b,truth v=some b→Runs c A [] (allTrue .And es env) s μ (fun h' μ' r=>c.Rel h' μ' σ'∧r=b)
noncomputable def SndOr (c:Cx) (n:Nat) (C:aw) (k:Ck) (l:List XE) (es:List Expr):Prop:=∀ {A:Around},Room A (4*n+5) (16*n+213)→∀ {s:Shared} {μ:Mu} {σ:St} {env:Env} {ρ:List V} {v:V} {σ':St} {p:Pos},
  c.Rel s.heap μ σ→At c k env s.heap μ ρ→orX c.T C l ρ σ=some (v,σ')→
    Runs c A [] (eval (.BoolOp .Or es p) env) s μ (fun h' μ' u=>c.Rel h' μ' σ'∧Rep c.fa h' μ' u v)∧
    ∀ b,truth v=some b→Runs c A [] (allTrue .Or es env) s μ (fun h' μ' r=>c.Rel h' μ' σ'∧r=b)
theorem sndAnd_nil:SndAnd c n C k [] []:=fun room s μ σ env ρ v σ' p hr z h=>by cases h
theorem sndOr_nil:SndOr c n C k [] []:=fun room s μ σ env ρ v σ' p hr z h=>by cases h
theorem sndAnd_one {x:XE} {e:Expr} (hx:Snd c n C k x e):SndAnd c n C k [x] [e]:=fun room s μ σ env ρ v σ' p hr z h=>by
  replace h:ae c.T C x ρ σ=some (v,σ'):=i_one h
  refine ⟨fun E Q hQ=>BoolOp_one ((hx.1 room hr z h).use hQ),fun b hb E Q hQ=>wpAny_allTrue_And_cons ((hx.2 room hr z h hb).use fun r h1 bh μ1 x1 p1=>?_)⟩
  refine aY p1 fun r1 aW=>?_
  clear p1
  clear hx e hb h z hr p v ρ σ room;subst aW
  have:=hQ r h1 bh μ1 x1 ⟨r1,rfl⟩
  clear x r1 x1 μ1 hQ σ' μ;cases r
  · exact this
  · exact wpAny_allTrue_And_nil this
theorem sndOr_one {x:XE} {e:Expr} (hx:Snd c n C k x e):SndOr c n C k [x] [e]:=fun room s μ σ env ρ v σ' p hr z h=>by
  replace h:ae c.T C x ρ σ=some (v,σ'):=i_one h
  refine ⟨fun E Q hQ=>BoolOp_one ((hx.1 room hr z h).use hQ),fun b hb E Q hQ=>wpAny_allTrue_Or_cons ((hx.2 room hr z h hb).use fun r h1 bh μ1 x1 p1=>?_)⟩
  refine aY p1 fun r1 aW=>?_
  clear p1
  clear hx e hb h z hr p v ρ σ room;subst aW
  have:=hQ r h1 bh μ1 x1 ⟨r1,rfl⟩
  clear x r1 x1 μ1 hQ σ' μ;cases r
  · exact wpAny_allTrue_Or_nil this
  · exact this
theorem sndAnd_cons {x y:XE} {l:List XE} {e e':Expr} {es:List Expr} (hx:Snd c n C k x e) (hl:SndAnd c n C k (y :: l) (e' :: es)):SndAnd c n C k (x :: y :: l) (e :: e' :: es):=fun room s μ σ env ρ v σ' p hr z h=>by
  refine E3A3 (i_and h) fun w σ1 q ex tw h=>?_
  rcases h with ⟨rfl,h⟩ | ⟨rfl,rfl,rfl⟩
  · refine ⟨fun E Q hQ=>BoolOp_and ((hx.1 room hr z ex).use fun u h1 bh μ1 x1 p1=>(truth_ok (s:={ s with heap:=h1,toks:=bh }) p1.2 tw).use fun r h2 bN μ2 x2 ⟨e1,e2,e3⟩=>?_),fun b hb E Q hQ=>wpAny_allTrue_And_cons ((hx.2 room hr z ex tw).use fun r h1 bh μ1 x1 p1=>?_)⟩
    · subst e1 e2 e3
      exact ((hl (s:={ s with heap:=h2,toks:=bN }) room p1.1 (z.ext x1) h).1).use fun u h3 tk3 μ3 x3 p3=>hQ u h3 tk3 μ3 (x1.trans x3) p3
    · refine aY p1 fun r1 aW=>?_
      clear p1
      subst aW
      exact ((hl (s:={ s with heap:=h1,toks:=bh }) (p:=p) room r1 (z.ext x1) h).2 b hb).use fun u h3 tk3 μ3 x3 p3=>hQ u h3 tk3 μ3 (x1.trans x3) p3
  · refine ⟨fun E Q hQ=>BoolOp_and ((hx.1 room hr z ex).use fun u h1 bh μ1 x1 p1=>(truth_ok (s:={ s with heap:=h1,toks:=bh }) p1.2 tw).use fun r h2 bN μ2 x2 ⟨e1,e2,e3⟩=>?_),fun b hb E Q hQ=>wpAny_allTrue_And_cons ((hx.2 room hr z ex tw).use fun r h1 bh μ1 x1 p1=>?_)⟩
    · subst e1 e2 e3
      exact hQ u _ bN _ x1 p1
    · refine aY p1 fun r1 aW=>?_
      clear p1
      subst aW
      replace hb:=tw▸hb;cases hb
      exact hQ _ h1 bh μ1 x1 ⟨r1,rfl⟩
theorem sndOr_cons {x y:XE} {l:List XE} {e e':Expr} {es:List Expr} (hx:Snd c n C k x e) (hl:SndOr c n C k (y :: l) (e' :: es)):SndOr c n C k (x :: y :: l) (e :: e' :: es):=fun room s μ σ env ρ v σ' p hr z h=>by
  refine E3A3 (i_or h) fun w σ1 q ex tw h=>?_
  rcases h with ⟨rfl,rfl,rfl⟩ | ⟨rfl,h⟩
  · refine ⟨fun E Q hQ=>BoolOp_or ((hx.1 room hr z ex).use fun u h1 bh μ1 x1 p1=>(truth_ok (s:={ s with heap:=h1,toks:=bh }) p1.2 tw).use fun r h2 bN μ2 x2 ⟨e1,e2,e3⟩=>?_),fun b hb E Q hQ=>wpAny_allTrue_Or_cons ((hx.2 room hr z ex tw).use fun r h1 bh μ1 x1 p1=>?_)⟩
    · subst e1 e2 e3
      exact hQ u _ bN _ x1 p1
    · refine aY p1 fun r1 aW=>?_
      clear p1
      subst aW
      replace hb:=tw▸hb;cases hb
      exact hQ _ h1 bh μ1 x1 ⟨r1,rfl⟩
  · refine ⟨fun E Q hQ=>BoolOp_or ((hx.1 room hr z ex).use fun u h1 bh μ1 x1 p1=>(truth_ok (s:={ s with heap:=h1,toks:=bh }) p1.2 tw).use fun r h2 bN μ2 x2 ⟨e1,e2,e3⟩=>?_),fun b hb E Q hQ=>wpAny_allTrue_Or_cons ((hx.2 room hr z ex tw).use fun r h1 bh μ1 x1 p1=>?_)⟩
    · subst e1 e2 e3
      exact ((hl (s:={ s with heap:=h2,toks:=bN }) room p1.1 (z.ext x1) h).1).use fun u h3 tk3 μ3 x3 p3=>hQ u h3 tk3 μ3 (x1.trans x3) p3
    · refine aY p1 fun r1 aW=>?_
      clear p1
      subst aW
      exact ((hl (s:={ s with heap:=h1,toks:=bh }) (p:=p) room r1 (z.ext x1) h).2 b hb).use fun u h3 tk3 μ3 x3 p3=>hQ u h3 tk3 μ3 (x1.trans x3) p3
theorem snd_and {l:List XE} {es:List Expr} {p:Pos} (hl:SndAnd c n C k l es):Snd c n C k (.and l) (.BoolOp .And es p):=
  ⟨fun room s μ σ env ρ v σ' hr z h=>(hl room hr z h).1,fun room s μ σ env ρ v σ' b hr z h ht E Q hQ=>wpAny_isTrue_BoolOp (((hl (p:=p) room hr z h).2 b ht).use hQ)⟩
theorem snd_or {l:List XE} {es:List Expr} {p:Pos} (hl:SndOr c n C k l es):Snd c n C k (.or l) (.BoolOp .Or es p):=
  ⟨fun room s μ σ env ρ v σ' hr z h=>(hl room hr z h).1,fun room s μ σ env ρ v σ' b hr z h ht E Q hQ=>wpAny_isTrue_BoolOp (((hl (p:=p) room hr z h).2 b ht).use hQ)⟩
theorem sndL_nil:SndL c n C k [] []:=fun room s μ σ env ρ vs σ' hr z h=>by
  refine bx h ?_
  exact fun pos E Q hQ=>args_nil (hQ _ s.heap s.toks μ (.refl ..) ⟨hr,.nil⟩)
theorem sndL_cons {x:XE} {l:List XE} {e:Expr} {es:List Expr} (hs:notStar e=true) (hx:Snd c n C k x e) (hl:SndL c n C k l es):SndL c n C k (x :: l) (e :: es):=fun room s μ σ env ρ vs σ' hr z h=>by
  refine E3A3 (i_cons h) fun v σ1 ws ex el zq5=>?_
  subst zq5
  clear h
  intro pos E Q hQ
  refine args_cons ((hx.1 room hr z ex).use fun u h1 bh μ1 x1 p1=>(hl (s:={ s with heap:=h1,toks:=bh }) room p1.1 (z.ext x1) el pos).use fun us h2 bN μ2 x2 p2=>?_) (starEach_cons hs)
  exact hQ _ h2 bN μ2 (x1.trans x2) ⟨p2.1,.cons (p1.2.ext x2 (.nil _)) p2.2⟩
theorem snd_tup {l:List XE} {es:List Expr} {kk:Nat} {p:Pos} (hl:SndL c n C k l es):SndE c n C k (.tup l) (.Tuple es kk p):=fun room s μ σ env ρ v σ' hr z h=>by
  refine ay (j_tup h) fun ws el q zq3=>?_
  subst zq3
  clear h
  intro E Q hQ
  exact Tuple_ ((hl room hr z el p).use fun us h1 bh μ1 x1 p1=>(newTup_ok (s:={ s with heap:=h1,toks:=bh }) p1.1 p1.2 q).use fun u h2 bN μ2 x2 p2=>hQ u h2 bN μ2 (x1.trans x2) p2)
theorem snd_lst {m:Bool} {l:List XE} {es:List Expr} {p:Pos} (hl:SndL c n C k l es):SndE c n C k (.lst m l) (.List es p):=fun room s μ σ env ρ v σ' hr z h=>by
  refine dP (j_lst h) fun ws σ1 el h=>?_
  intro E Q hQ
  refine List_ ((hl room hr z el p).use fun us h1 bh μ1 x1 p1=>?_)
  have hsz:=c.size p1.1
  refine ay (newL_ok (s:={ s with heap:=h1,toks:=bh }) (us:=us) (e:=0) (a:=h1.objs.size) (h':=h1.push (lstO us 0)) p1.1 (fun b o e=>Heap.get?_push_of_some _ e) (aJ _ (Nat.le_refl _)) hsz (Heap.get?_push_size _ rfl) p1.2 h) fun μ2 x2 r2 rr=>?_
  exact wpAny_newObj_type (hQ _ _ bh μ2 (x1.trans x2) ⟨r2,rr⟩) (by show us.toArray.size≤sizeLine;refine ag List.size_toArray (ag p1.2.len (ag sizeLine_eq ?_));exact Nat.le_trans (Nat.le_of_lt (newL_len h)) (by decide))
theorem snd_dict0 {p:Pos}:SndE c n C k .dict0 (.Dict [] [] p):=fun room s μ σ env ρ v σ' hr z h=>by
  refine bx h ?_
  intro E Q hQ
  refine wpAny_Dict_empty ?_
  have hsz:=c.size hr
  have hk:∀ b ob,s.heap.get? b=some ob→(s.heap.push { cls:=.type "dict",data:=.dict #[] }).get? b=some ob:=fun b ob e=>Heap.get?_push_of_some _ e
  have x:Ext [] s.heap μ (s.heap.push { cls:=.type "dict",data:=.dict #[] }) (μ.add (s.heap.objs.size,s.heap.objs.size)):=
    ⟨fun b ob e zz zz=>hk b ob e,fun b ob e=>⟨ob,hk b ob e⟩,[_],[],rfl,fun q hq=>by refine ag (List.mem_singleton.mp hq) ?_;exact ⟨aJ _ (Nat.le_refl _),hsz⟩,fun zz h=>nomatch h⟩
  refine hQ _ _ s.toks _ x ⟨⟨hr.1.ext x (by simp),hr.2.new hk (aJ _ (Nat.le_refl _)) hsz ⟨rfl,[],Heap.DictOf.new ..,.nil⟩⟩,?_⟩
  exact .obj (p:=(s.heap.objs.size,s.heap.objs.size)) (by refine cw hr.2.len ?_;simp [Mu.add])
theorem marks_no {op:CmpOp} {e:Expr} (h:dH e=true):behindInMarks op e=false:=by
  cases e <;> first | rfl | cases h
theorem snd_cmp {o:Cm} {a b:XE} {x y:Expr} {p:Pos} (hy:dH y=true) (ha:Snd c n C k a x) (hb:Snd c n C k b y):Snd c n C k (.cmp o a b) (.Compare x [cmOf o] [y] p):=by
  have key:∀ {A:Around},Room A (4*n+5) (16*n+213)→∀ {s:Shared} {μ:Mu} {σ:St} {env:Env} {ρ:List V} {v:V} {σ':St},c.Rel s.heap μ σ→At c k env s.heap μ ρ→ae c.T C (.cmp o a b) ρ σ=some (v,σ')→
      ∃ r,v=.bool r∧∀ (E:Value→Shared→Prop) (Q:Value→Shared→Prop),(∀ h' tk μ',Ext [] s.heap μ h' μ'→c.Rel h' μ' σ'→Q (.bool r) { s with heap:=h',toks:=tk })→
        wpAny (model c.prog c.w) A (eval x env) (fun u s₁=>wpAny (model c.prog c.w) A (eval y env) (fun t s₂=>wpAny (model c.prog c.w) A (compareOp (cmOf o) u t) Q E s₂) E s₁) E s:=by
    intro A room s μ σ env ρ v σ' hr z h
    refine E4A4 (i_cmp h) fun va σ1 vb w ea eb hw zq7=>?_
    clear hy p;subst zq7
    clear h
    refine aI w rfl (fun E Q hQ=>(ha.1 room hr z ea).use fun u h1 bh μ1 x1 p1=>(hb.1 (s:={ s with heap:=h1,toks:=bh }) room p1.1 (z.ext x1) eb).use fun t h2 bN μ2 x2 p2=>?_)
    have hu:=room.units
    refine (cmp_ok (s:={ s with heap:=h2,toks:=bN }) (by show A.units+64 < 9900;exact lZ hu) p2.1.2 (p1.2.ext x2 (.nil _)) p2.2 hw).use fun r h3 tk3 μ3 x3 zp=>?_
    clear hb ha y x hu z hr env room A x3 p1 E hw eb ea σ1 va u;obtain ⟨e1,e2,e3⟩:=zp
    clear b a o ρ σ;subst e1 e2 e3
    exact hQ _ tk3 _ (x1.trans x2) p2.1
  refine ⟨fun room s μ σ env ρ v σ' hr z h E Q hQ=>?_,fun room s μ σ env ρ v σ' b' hr z h ht E Q hQ=>?_⟩
  · refine aq (key room hr z h) fun r aW run=>?_
    clear hb ha key h z hr ρ σ room;subst aW
    exact wpAny_Compare1 (run E Q fun h' tk μ' x r'=>hQ _ h' tk μ' x ⟨r',.bool r⟩) (marks_no hy)
  · refine aq (key room hr z h) fun r aW run=>?_
    clear hb ha key h z hr ρ σ room;subst aW
    clear b a;cases ht
    exact wpAny_isTrue_Compare1 (run E _ fun h' tk μ' x r'=>wpAny_truthy_bool (hQ _ h' tk μ' x ⟨r',rfl⟩)) (marks_no hy)
theorem snd_cmp2 {o o':Cm} {a b d:XE} {x y w:Expr} {p:Pos} (hw:dH w=true) (ha:Snd c n C k a x) (hb:Snd c n C k b y) (hd:Snd c n C k d w):Snd c n C k (.cmp2 a o b o' d) (.Compare x [cmOf o,cmOf o'] [y,w] p):=by
  have key:∀ {A:Around},Room A (4*n+5) (16*n+213)→∀ {s:Shared} {μ:Mu} {σ:St} {env:Env} {ρ:List V} {v:V} {σ':St},c.Rel s.heap μ σ→At c k env s.heap μ ρ→ae c.T C (.cmp2 a o b o' d) ρ σ=some (v,σ')→
      ∃ r,v=.bool r∧∀ (E:Value→Shared→Prop) (Q:Value→Shared→Prop),(∀ h' tk μ',Ext [] s.heap μ h' μ'→c.Rel h' μ' σ'→Q (.bool r) { s with heap:=h',toks:=tk })→
        wpAny (model c.prog c.w) A (eval x env) (fun u s₁=>wpAny (model c.prog c.w) A (eval y env) (fun t s₂=>wpAny (model c.prog c.w) A (compareOp (cmOf o) u t)
          (fun q s₃=>∃ qb,q=.bool qb∧if qb=true then wpAny (model c.prog c.w) A (eval w env) (fun t' s₄=>wpAny (model c.prog c.w) A (compareOp (cmOf o') t t') Q E s₄) E s₃ else Q (.bool false) s₃) E s₂) E s₁) E s:=by
    intro A room s μ σ env ρ v σ' hr z h
    replace h:=i_cmp2 h
    refine E6A5 h fun va σ1 vb σ2 q r ea eb q1 zq9 h=>?_
    rename_i zz;clear zz
    clear hw p;subst zq9
    have hu:A.units+64 < 9900:=by have:=room.units;exact lZ this
    refine ⟨r,rfl,fun E Q hQ=>(ha.1 room hr z ea).use fun u h1 bh μ1 x1 p1=>(hb.1 (s:={ s with heap:=h1,toks:=bh }) room p1.1 (z.ext x1) eb).use fun t h2 bN μ2 x2 p2=>
      (cmp_ok (s:={ s with heap:=h2,toks:=bN }) hu p2.1.2 (p1.2.ext x2 (.nil _)) p2.2 q1).use fun r' h3 tk3 μ3 x3 ⟨e1,e2,e3⟩=>aI q e3 ?_⟩
    clear hr p1 eb u;subst e1 e2
    clear e3 q1 ea ha hb
    clear y x b a o σ σ1 va;rcases h with ⟨rfl,vd,ed,hr'⟩ | ⟨rfl,rfl,rfl⟩
    · rw [if_pos rfl]
      refine (hd.1 (s:={ s with heap:=h3,toks:=tk3 }) room p2.1 ((z.ext x1).ext x2) ed).use fun t' h4 tk4 μ4 x4 p4=>(cmp_ok (s:={ s with heap:=h4,toks:=tk4 }) hu p4.1.2 (p2.2.ext x4 (.nil _)) p4.2 hr').use fun r'' h5 tk5 μ5 x5 ⟨e1,e2,e3⟩=>?_
      clear hd w hu hr' ed z ρ env room A p2 E σ2 vb t;subst e1 e2 e3
      exact hQ _ tk5 _ ((x1.trans x2).trans x4) p4.1
    · rw [if_neg nofun]
      exact hQ _ tk3 _ (x1.trans x2) p2.1
  have hm:∀ env,markedEach [cmOf o,cmOf o'] [y,w] (evalEach [y,w] env)=[eval y env,eval w env]:=fun env=>by
    show [eval y env,markedBehindIn (cmOf o') w (eval w env)]=_
    exact ag (markedBehindIn_of_false (marks_no hw) ..) rfl
  refine ⟨fun room s μ σ env ρ v σ' hr z h E Q hQ=>?_,fun room s μ σ env ρ v σ' b' hr z h ht E Q hQ=>?_⟩
  · refine aq (key room hr z h) fun r aW run=>?_
    clear hd hb ha hw key z hr room h;subst aW
    show wpAny _ _ (eval x env >>=fun l=>compareChain p l [cmOf o,cmOf o'] (markedEach [cmOf o,cmOf o'] [y,w] (evalEach [y,w] env))) Q E s
    rw [hm]
    refine wpAny_bind (wpAny_mono (run E Q fun h' tk μ' x r'=>hQ _ h' tk μ' x ⟨r',.bool r⟩) (fun u s1 h1=>?_) fun zz zz e=>e)
    show wpAny _ _ (holding [u] (eval y env) >>=_) Q E s1
    refine wpAny_bind (wpAny_holding (wpAny_mono h1 (fun t s2 h2=>wpAny_bind (wpAny_standAt (wpAny_bind (wpAny_holding (wpAny_mono h2 (fun q s3 h3=>?_) fun zz zz e=>e))))) fun zz zz e=>e))
    refine aq h3 fun qb aW h3=>?_
    rename_i zz;clear zz
    clear d b a hm run ρ σ h2 h1 hQ r;subst aW
    refine wpAny_bind (wpAny_release (wpAny_bind (wpAny_holding (wpAny_truthy_bool ?_))))
    clear y o s2 s1 x σ' μ s u;cases qb
    · exact wpAny_pure h3
    · show wpAny _ _ (holding [t] (eval w env) >>=_) Q E s3
      refine wpAny_bind (wpAny_holding (wpAny_mono h3 (fun t' s4 h4=>wpAny_bind (wpAny_standAt ?_)) fun zz zz e=>e))
      exact wpAny_operating h4
  · refine aq (key room hr z h) fun r aW run=>?_
    clear hd hb ha hw key z hr room h;subst aW
    clear d b a ρ σ;cases ht
    show wpAny _ _ (eval x env >>=fun l=>testChain p l [cmOf o,cmOf o'] (markedEach [cmOf o,cmOf o'] [y,w] (evalEach [y,w] env))) Q E s
    rw [hm]
    refine wpAny_bind (wpAny_mono (run E (fun q s'=>∃ qb,q=.bool qb∧Q qb s') fun h' tk μ' x r'=>aI _ rfl (hQ _ h' tk μ' x ⟨r',rfl⟩)) (fun u s1 h1=>?_) fun zz zz e=>e)
    show wpAny _ _ (holding [u] (eval y env) >>=_) Q E s1
    refine wpAny_bind (wpAny_holding (wpAny_mono h1 (fun t s2 h2=>wpAny_bind (wpAny_standAt (wpAny_bind (wpAny_holding (wpAny_mono h2 (fun q s3 h3=>?_) fun zz zz e=>e))))) fun zz zz e=>e))
    refine aq h3 fun qb aW h3=>?_
    rename_i zz;clear zz
    clear hm run h2 h1 hQ;subst aW
    refine wpAny_bind (wpAny_release (wpAny_bind (wpAny_holding (wpAny_truthy_bool ?_))))
    clear y o s2 s1 x b' σ' μ s u;cases qb
    · obtain ⟨_,e,h3⟩:=h3
      cases e
      exact wpAny_pure h3
    · show wpAny _ _ (holding [t] (eval w env) >>=_) Q E s3
      refine wpAny_bind (wpAny_holding (wpAny_mono h3 (fun t' s4 h4=>wpAny_bind (wpAny_standAt (wpAny_bind (wpAny_operating (wpAny_mono h4 (fun q s5 h5=>?_) fun zz zz e=>e))))) fun zz zz e=>e))
      clear p h3 s3 env h4 t' t;obtain ⟨_,rfl,h5⟩:=h5
      exact wpAny_holding (wpAny_truthy_bool h5)
end
end
section
open PySem PySem.W PySem.Calls PyProof.Rows
section
variable {c:Cx} {n:Nat} {C:aw} {k:Ck}
theorem chkEs_star {g:Gt} {k:Ck}:∀ {l:List XE} {es:List Expr},cH g k l es=true→es.all notStar=true
  | [],es,h=>nil_e h rfl
  | _ :: l,es,h=>onC_ok h fun e t h=>Bool.and_eq_true_iff.mpr ⟨a1 h,chkEs_star (a2 (a2 h))⟩
theorem snd_call {f:Nat} {l:List XE} {x:PySem.Str} {p pos:Pos} {es:List Expr} (hC:bC c n C) (hg:k.gn x=true) (hf:c.gt.fn.lookup x=some f) (hs:es.all notStar=true) (hl:SndL c n C k l es):
    SndE c n C k (.call f l) (.Call (.Name x p) es [] pos):=fun room s μ σ env ρ v σ' hr z h=>by
  refine dP (i_call h) fun vs σ1 el h=>?_
  refine aq (c.gfn x f hf) fun a ha hfa=>?_
  intro E Q hQ
  refine Call_ (global_ok hr z hg ha ?_)
  exact (callFn_ok (self:=[]) hC room hs (hl room hr z el) h .nil hfa).use hQ
theorem snd_new {f:Nat} {l:List XE} {x:PySem.Str} {p pos:Pos} {es:List Expr} (hC:bC c n C) (hg:k.gn x=true) (hf:c.gt.cl.lookup x=some f) (hs:es.all notStar=true) (hl:SndL c n C k l es):
    SndE c n C k (.new f l) (.Call (.Name x p) es [] pos):=fun room s μ σ env ρ v σ' hr z h=>by
  refine E3A4 (i_new h) fun vs σ1 i el hi hc zq6=>?_
  subst zq6
  clear h
  refine aY (c.gcl x f hf) fun ha hk=>?_
  intro E Q hQ
  refine Call_ (global_ok hr z hg ha ?_)
  exact (new_ok hC room hs (hl room hr z el) hi hc hk hr).use hQ
theorem snd_blt {b:Bl} {l:List XE} {p pos:Pos} {es:List Expr} (hg:k.gn (PySem.Str.ofString (bltName b))=true) (hb:c.gt.bl.contains (PySem.Str.ofString (bltName b))=true) (hs:es.all notStar=true) (hl:SndL c n C k l es):
    SndE c n C k (.blt b l) (.Call (.Name (PySem.Str.ofString (bltName b)) p) es [] pos):=fun room s μ σ env ρ v σ' hr z h=>by
  refine dP (i_blt h) fun vs σ1 el h=>?_
  intro E Q hQ
  refine Call_ (builtin_ok hr z hg hb (blt_boot b) ?_)
  exact (callOther_ok (first:=[]) hs (blt_keeper b) (hl room hr z el) fun us h1 bh μ1 x1 r1 rs1=>blt_ok (s:={ s with heap:=h1,toks:=bh }) room.hh r1 rs1 h).use hQ
theorem base_eq {x:Expr} {at_:PySem.Str} {env:Env} {whole:Sem Value} (h:cA x=true):attributeBase x at_ env whole=whole:=by
  cases x <;> first | rfl | cases h
theorem backTo_all {pos:Pos} {env:Env}:∀ {es:List Expr},es.all notStar=true→(backTo pos (starEach es env)).all (!·.1)=true
  | [],_=>rfl
  | e :: es,h=>by
    simp only [List.all_cons,Bool.and_eq_true] at h
    refine ag (starEach_cons h.1) ?_
    show (true && (backTo pos (starEach es env)).all (!·.1))=true
    refine ag (backTo_all h.2) ?_;rfl
theorem methodCall_eq {x:Expr} {at_:PySem.Str} {apos pos:Pos} {es:List Expr} {env:Env} (hb:cA x=true) (hp:(apos.endLine ==pos.line)=true) (hn:es.length < 30) (hs:es.all notStar=true):
    ∃ pl,eval (.Call (.Attribute x at_ apos) es [] pos) env=(do
      let ov ← eval x env
      standAt apos.atName
      let (f,first) ← holding [ov] (getMethod ov at_ pl)
      callWith pos f first (backTo pos (starEach es env)) []):=by
  refine ⟨(do return (← importBound x env).getD true),?_⟩
  have e1:eval (.Call (.Attribute x at_ apos) es [] pos) env=(do
      let ov ← attributeBase x at_ env (eval x env)
      standAt apos.atName
      methodCall x at_ apos pos env ov (es.length+0) (backTo pos (starEach es env)) []):=rfl
  refine ag e1 (ag (base_eq hb) ?_)
  have hform:methodCallForm (es.length+0) (backTo pos (starEach es env)) []=true:=by
    unfold methodCallForm
    refine ag (backTo_all hs) ?_
    simp
    exact hn
  unfold methodCall
  refine ag hform ?_
  have hpos:methodCallPos true x env apos pos=pure pos:=by
    unfold methodCallPos
    refine ag hp ?_;rfl
  refine ag hpos ?_
  rfl
theorem snd_meth {o:XE} {a:Nat} {l:List XE} {x:Expr} {apos pos:Pos} {es:List Expr} (hC:bC c n C) (hb:cA x=true) (hp:(apos.endLine ==pos.line)=true) (hn:es.length < 30) (hs:es.all notStar=true) (ho:Snd c n C k o x) (hl:SndL c n C k l es):
    SndE c n C k (.aV o a l) (.Call (.Attribute x (aH a) apos) es [] pos):=fun room s μ σ env ρ v σ' hr z h=>by
  refine E5A4 (i_meth h) fun vo σ1 f vs σ2 eo hf el hc=>?_
  clear h
  refine aN (methodCall_eq (at_:=aH a) (env:=env) hb hp hn hs) fun pl he=>?_
  intro E Q hQ
  refine ag he ?_
  refine wpAny_bind ((ho.1 room hr z eo).use fun u h1 bh μ1 x1 p1=>wpAny_bind (wpAny_standAt ?_))
  have z':=z.ext x1
  have:=methCall_ok (s:={ s with heap:=h1,toks:=bh }) (env:=env) (pos:=pos) (pl:=pl) hC room hs p1.1 p1.2 hf (fun tk=>hl (s:={ s with heap:=h1,toks:=tk }) room p1.1 z' el) hc
  exact wpAny_bind (wpAny_holding (this E Q fun r h2 bN μ2 x2 p2=>hQ r h2 bN μ2 (x1.trans x2) p2))
theorem snd_callm {f:Nat} {l:List XE} {x at_:PySem.Str} {px apos pos:Pos} {es:List Expr} (hC:bC c n C) (hg:k.gn x=true) (hf:c.gt.cm.lookup (x,at_)=some f) (hp:(apos.endLine ==pos.line)=true) (hn:es.length < 30) (hs:es.all notStar=true) (hl:SndL c n C k l es):
    SndE c n C k (.call f l) (.Call (.Attribute (.Name x px) at_ apos) es [] pos):=fun room s μ σ env ρ v σ' hr z h=>by
  refine dP (i_call h) fun vs σ1 el h=>?_
  refine E3A5 (c.gcm x at_ f hf) fun Cc a mc ha hfa h1 h2 h3=>?_
  refine aN (methodCall_eq (x:=.Name x px) (at_:=at_) (env:=env) rfl hp hn hs) fun pl he=>?_
  intro E Q hQ
  refine ag he ?_
  refine wpAny_bind (global_ok hr z hg ha (wpAny_bind (wpAny_standAt (wpAny_bind (wpAny_holding ?_)))))
  refine method_cls hr.dW h1 (cls_value hr.dW h2 h3 rfl ?_)
  exact (callFn_ok (s:={ s with toks:=s.toks+1 }) (self:=[]) hC room hs (hl (s:={ s with toks:=s.toks+1 }) room hr z el) h .nil hfa).use hQ
end
end
section
open PySem PySem.W PySem.Calls PyProof.Rows
section
variable {c:Cx} {n:Nat} {C:aw} {k:Ck}
theorem snd_attr {o:XE} {a:Nat} {x:Expr} {p:Pos} (hb:cA x=true) (ho:Snd c n C k o x):SndE c n C k (.attr o a) (.Attribute x (aH a) p):=fun room s μ σ env ρ v σ' hr z h=>by
  refine aq (i_attr h) fun vo eo hw=>?_
  clear h
  intro E Q hQ
  refine Attribute_any_ ((ho.1 room hr z eo).use fun u h1 bh μ1 x1 p1=>(getA_ok (s:={ s with heap:=h1,toks:=bh }) p1.1 p1.2 hw).use fun r h2 bN μ2 x2 ⟨e1,e2,rr⟩=>?_) ?_
  · subst e1 e2
    exact hQ r _ bN _ x1 ⟨p1.1,rr⟩
  · show (do let o ← attributeBase x (aH a) env (eval x env);standAt p.atName;let r ← holding [o] (getAttr o (aH a) true);letTemporaryGo x o r;pure r)=_
    exact ag (base_eq hb) rfl
theorem sub_plain {slice:Expr} {o i:Value} (h:notSlice slice=true):subscripted slice false o i=operate [o,i] (getItem o i):=by
  cases slice <;> first | rfl | cases h
theorem snd_idx {o i:XE} {x y:Expr} {p:Pos} (hy:notSlice y=true) (ho:Snd c n C k o x) (hi:Snd c n C k i y):SndE c n C k (.idx o i) (.Subscript x y p):=fun room s μ σ env ρ v σ' hr z h=>by
  refine E3A3 (i_idx h) fun vo σ1 vi eo ei hw=>?_
  clear h
  intro E Q hQ
  refine Subscript_ ((ho.1 room hr z eo).use fun u h1 bh μ1 x1 p1=>(hi.1 (s:={ s with heap:=h1,toks:=bh }) room p1.1 (z.ext x1) ei).use fun t h2 bN μ2 x2 p2=>?_)
  clear hi ho p ei eo z hr ρ env σ room;obtain ⟨T,id,hT,hl,_,run⟩:=getItem_ok (c:=c) (A:=_) (s:={ s with heap:=h2,toks:=bN }) p2.1.2 (p1.2.ext x2 (.nil _)) p2.2 hw
  refine tail_any hT hl (run.use fun r h3 tk3 μ3 x3 zp=>?_) (sub_plain hy)
  clear hy y x i o run hl hT id T E x3 p1 u hw σ1 vo;obtain ⟨e1,e2,rr⟩:=zp
  subst e1 e2
  exact hQ r _ tk3 _ (x1.trans x2) ⟨p2.1,rr⟩
set_option tactic.hygienic true in
theorem slice_ok {A:Around} {s:Shared} {μ:Mu} {σ σ':St} {x:Expr} {lo hi:Option Expr} {ps:Pos} {u vl vu:Value} {li hi':Option Int} {m:Bool} {va v:V} {l l':List V} {E:Value→Shared→Prop} {Q:Value→Shared→Prop}
    (hr:c.Rel s.heap μ σ) (ra:Rep c.fa s.heap μ u va) (hs:bk σ va=some l) (ht:∀ l,va≠.tup l) (hlen:l.length < 1000) (pl:IsPart vl li) (pu:IsPart vu hi') (pick:∀ vs:List Value,∃ us,slicePick vs.toArray li hi' Option.none=us.toArray∧(aG c.fa s.heap μ vs l→aG c.fa s.heap μ us l'))
    (h:newL m l' σ=some (v,σ')) (hQ:∀ r h' tk μ',Ext [] s.heap μ h' μ'→c.Rel h' μ' σ'→Rep c.fa h' μ' r v→Q r { s with heap:=h',toks:=tk }):
    wpAny (model c.prog c.w) A (subscriptTail x (.Slice lo hi .none ps) u (.ref s.heap.objs.size)) Q E { s with heap:=s.heap.push { cls:=.type "slice",data:=.fields #[vl,vu,.none] } }:=by
  refine aq (seqOf_ok hr.2 ra hs) fun vs hv rs=>?_
  cases hv with
  | tup g=>
    exfalso
    cases ra <;> first | (simp [bk] at hs;done) | skip
    · exact ht _ rfl
    · rename_i g' _ _;rw [g] at *;simp_all
    · rename_i nn p hp
      simp only [bk] at hs
      split at hs
      · rename_i l2 hl2
        obtain ⟨p',dQ,e1,vs',⟨ee,hlst⟩,_⟩:=hr.2.get hl2
        replace dQ:=hp▸dQ;cases dQ
        replace g:=hlst▸e1▸g
        simp at g
      · cases hs
  | lst g=>
    rename_i a
    have hk:∀ b ob,s.heap.get? b=some ob→(s.heap.push { cls:=.type "slice",data:=.fields #[vl,vu,.none] }).get? b=some ob:=fun b ob e=>Heap.get?_push_of_some _ e
    have x1:Ext [] s.heap μ (s.heap.push { cls:=.type "slice",data:=.fields #[vl,vu,.none] }) μ:=.keeps hk
    have g1:(s.heap.push { cls:=.type "slice",data:=.fields #[vl,vu,.none] }).PlainList a vs.toArray:=g.at fun o e=>hk _ _ e
    have r1:=hr.grow hk
    refine aq (pick vs) fun us e1 e2=>?_
    have hsz:=c.size r1
    refine ay (newL_ok (s:={ s with heap:=s.heap.push { cls:=.type "slice",data:=.fields #[vl,vu,.none] } }) (us:=us) (e:=0) (a:=(s.heap.push { cls:=.type "slice",data:=.fields #[vl,vu,.none] }).objs.size) (h':=(s.heap.push { cls:=.type "slice",data:=.fields #[vl,vu,.none] }).push (lstO us 0)) r1 (fun b o e=>Heap.get?_push_of_some _ e) (aJ _ (Nat.le_refl _)) hsz (Heap.get?_push_size _ rfl) ((e2 rs).ext x1 (.nil _)) h) fun μ2 x2 r2 rr=>?_
    refine tail_any (s:={ s with heap:=s.heap.push { cls:=.type "slice",data:=.fields #[vl,vu,.none] } }) (ops:=[.ref s.heap.objs.size,.ref a]) (T:= "list") g1.isList.typeIs slot_list_getitem.lookup (wpAny_getItem_list_slice g1.isList (Heap.IsSliceOf.new ..) pl pu .none (by decide) ?_ (by rw [List.size_toArray,rs.len,sizeLine_eq];exact lZ hlen)) rfl
    rw [e1]
    exact hQ _ _ s.toks μ2 (x1.trans x2) r2 rr
theorem snd_sliceTo {m:Bool} {o:XE} {j:Nat} {x:Expr} {kk:Nat} {p1 p2 p:Pos} (ho:Snd c n C k o x):SndE c n C k (.sliceTo m o j) (.Subscript x (.Slice .none (some (.Constant (.int j) kk p1)) .none p2) p):=fun room s μ σ env ρ v σ' hr z h=>by
  refine E3A5 (i_sliceTo h) fun vo σ1 l ht eo hl hlen h=>?_
  intro E Q hQ
  refine Subscript_ ((ho.1 room hr z eo).use fun u h1 bh μ1 x1 p1=>wpAny_Slice (by
    refine ag (evalPart_none ..) (ag (evalPart_some ..) ?_)
    refine wpAny_pure (wpAny_Constant_int (wpAny_pure ?_))
    exact slice_ok (s:={ s with heap:=h1,toks:=bh+1 }) (l':=l.take j) p1.1 p1.2 hl (fun l2 e=>ht l2 e) hlen .none (.int _ _) (fun vs=>aI (vs.take j) (by exact ag (slicePick_upto' ..) rfl) (fun r=>r.take j)) h fun r h2 bN μ2 x2 r2 rr=>hQ r h2 bN μ2 (x1.trans x2) ⟨r2,rr⟩))
theorem snd_sliceFrom {m:Bool} {o:XE} {j:Nat} {x:Expr} {kk:Nat} {p1 p2 p:Pos} (ho:Snd c n C k o x):SndE c n C k (.sliceFrom m o j) (.Subscript x (.Slice (some (.Constant (.int j) kk p1)) .none .none p2) p):=fun room s μ σ env ρ v σ' hr z h=>by
  rcases i_sliceFrom h with ⟨l,eo,q1,q2,q3,rfl⟩ | ⟨vo,σ1,l,ht,eo,hl,hlen,h⟩
  · clear h
    intro E Q hQ
    refine Subscript_ ((ho.1 room hr z eo).use fun u h1 bh μ1 x1 p1=>wpAny_Slice (by
      refine ag (evalPart_none ..) (ag (evalPart_some ..) ?_)
      refine wpAny_Constant_int (wpAny_pure (wpAny_pure ?_))
      refine aY p1 fun r1 ra=>?_
      clear p1
      refine E3A4 ra.tupI fun a vs e zq3 g hm rs=>?_
      clear ho p m eo hm ra z hr ρ env σ room;subst zq3
      have hk:∀ b ob,h1.get? b=some ob→(h1.push { cls:=.type "slice",data:=.fields #[.int j bh,.none,.none] }).get? b=some ob:=fun b ob e=>Heap.get?_push_of_some _ e
      have xs:Ext [] h1 μ1 (h1.push { cls:=.type "slice",data:=.fields #[.int j bh,.none,.none] }) μ1:=.keeps hk
      have g1:=IsTup_of (hk _ _ g)
      have hlen:=rs.len
      refine tail_any (s:={ s with heap:=h1.push { cls:=.type "slice",data:=.fields #[.int j bh,.none,.none] },toks:=bh+1 }) (ops:=[.ref h1.objs.size,.ref a]) (T:= "tuple") g1.typeIs slot_tuple_getitem.lookup (getItem_tuple_from g1 (Heap.IsSliceOf.new ..) q1 (by simp;exact lZ (aZ q2 (Nat.le_of_eq hlen.symm))) ?_ (by refine ag List.size_toArray (ag sizeLine_eq ?_);exact lZ (aZ q3 (Nat.le_of_eq hlen)))) rfl
      have x2:Ext [] (h1.push { cls:=.type "slice",data:=.fields #[.int j bh,.none,.none] }) μ1 ((h1.push { cls:=.type "slice",data:=.fields #[.int j bh,.none,.none] }).push (tupO (vs.drop j) 0)) μ1:=.push _
      have r2:=r1.grow hk
      refine hQ _ _ (bh+1) μ1 ((x1.trans xs).trans x2) ⟨r2.push _,?_⟩
      exact .tup (vs:=vs.drop j) (e:=0) (Heap.get?_push_size _ rfl) (r2.2.fresh (aJ _ (Nat.le_refl _))) ((rs.drop j).ext (xs.trans x2) (.nil _))))
  · intro E Q hQ
    refine Subscript_ ((ho.1 room hr z eo).use fun u h1 bh μ1 x1 p1=>wpAny_Slice (by
      refine ag (evalPart_none ..) (ag (evalPart_some ..) ?_)
      refine wpAny_Constant_int (wpAny_pure (wpAny_pure ?_))
      exact slice_ok (s:={ s with heap:=h1,toks:=bh+1 }) (l':=l.drop j) p1.1 p1.2 hl (fun l2 e=>ht l2 e) hlen (.int _ _) .none (fun vs=>aI (vs.drop j) (by exact ag (slicePick_from' ..) rfl) (fun r=>r.drop j)) h fun r h2 bN μ2 x2 r2 rr=>hQ r h2 bN μ2 (x1.trans x2) ⟨r2,rr⟩))
end
end
section
open PySem PySem.W PySem.Calls PyProof.Rows
noncomputable def cR (env:Env):List (PySem.Str×NameKind)→List (PySem.Str×Addr)→List (PySem.Str×Addr)
  | [],acc=>acc
  | (n,kd) :: r,acc=>if kd ==.free then (match env.cells.lookup n with | some a=>cR env r ((n,a) :: acc) | none=>cR env r acc) else cR env r acc
theorem closure_for {env:Env} (f:PySem.Str×NameKind→List (PySem.Str×Addr)→Sem (ForInStep (List (PySem.Str×Addr))))
    (hf:∀ name kind cs,f (name,kind) cs=if kind ==NameKind.free then (do let a ← cellOf env name;pure (.yield ((name,a) :: cs))) else pure (.yield cs)):
    ∀ (names:List (PySem.Str×NameKind)) (acc:List (PySem.Str×Addr)),(∀ p∈names,p.2=.free→(env.cells.lookup p.1).isSome=true)→forIn names acc f=pure (cR env names acc)
  | [],acc,_=>by refine ag List.forIn_nil ?_;rfl
  | (n,kd) :: r,acc,h=>by
    have ih:=fun acc=>closure_for f hf r acc fun p hp=>h p (List.mem_cons_of_mem _ hp)
    refine ag (List.forIn_cons ..) (ag (hf ..) ?_)
    unfold cR
    cases hk:kd ==NameKind.free with
    | false=>simp only [Bool.false_eq_true,if_false];refine ag (pure_bind ..) ?_;exact ih acc
    | true=>
      simp only [if_true]
      have:=h (n,kd) List.mem_cons_self (by simpa using hk)
      refine aN (Option.isSome_iff_exists.mp this) fun a ha=>?_
      simp only [cellOf,ha]
      exact ih ((n,a) :: acc)
theorem closure_pure {scope:Scope} {env:Env} (h:∀ p∈scope.names,p.2=.free→(env.cells.lookup p.1).isSome=true):closureFor scope env=pure (cR env scope.names []):=by
  unfold closureFor
  dsimp only
  refine ag (closure_for (env:=env) _ (fun name kind cs=>by cases hk:kind ==NameKind.free <;> simp [hk]) _ _ h) ?_
  rfl
set_option tactic.hygienic true in
theorem dM {env:Env}:∀ {names:List (PySem.Str×NameKind)} {acc:List (PySem.Str×Addr)} {x:PySem.Str} {a:Addr},(x,a)∈cR env names acc→(x,a)∈acc∨((x,NameKind.free)∈names∧env.cells.lookup x=some a)
  | [],acc,x,a,h=>.inl h
  | (n,kd) :: r,acc,x,a,h=>by
    unfold cR at h
    split at h
    · rename_i hk
      split at h
      · rename_i b hb
        rcases dM h with h | h
        · rcases List.mem_cons.mp h with e | h
          · clear h;cases e;exact .inr ⟨by refine cw (beq_iff_eq.mp hk) ?_;exact List.mem_cons_self,hb⟩
          · exact .inl h
        · exact .inr ⟨List.mem_cons_of_mem _ h.1,h.2⟩
      · clear hk;rcases dM h with h | h
        · exact .inl h
        · exact .inr ⟨List.mem_cons_of_mem _ h.1,h.2⟩
    · rcases dM h with h | h
      · exact .inl h
      · exact .inr ⟨List.mem_cons_of_mem _ h.1,h.2⟩
theorem clAux_acc {env:Env}:∀ {names:List (PySem.Str×NameKind)} {acc:List (PySem.Str×Addr)} {p:PySem.Str×Addr},p∈acc→p∈cR env names acc
  | [],acc,p,h=>h
  | (n,kd) :: r,acc,p,h=>by
    unfold cR
    split
    · split
      · exact clAux_acc (List.mem_cons_of_mem _ h)
      · exact clAux_acc h
    · exact clAux_acc h
theorem clAux_has {env:Env}:∀ {names:List (PySem.Str×NameKind)} {acc:List (PySem.Str×Addr)} {x:PySem.Str} {a:Addr},(x,NameKind.free)∈names→env.cells.lookup x=some a→(x,a)∈cR env names acc
  | (n,kd) :: r,acc,x,a,h,ha=>by
    unfold cR
    rcases List.mem_cons.mp h with e | h
    · clear h;cases e
      simp only [beq_self_eq_true,if_true,ha]
      exact clAux_acc List.mem_cons_self
    · split
      · split
        · exact clAux_has h ha
        · exact clAux_has h ha
      · exact clAux_has h ha
theorem clAux_pair {env:Env}:∀ {names:List (PySem.Str×NameKind)} {acc:List (PySem.Str×Addr)},(names.map (·.1)).Nodup→acc.Pairwise (fun x y=>x.1≠y.1)→(∀ p∈acc,p.1∉names.map (·.1))→(cR env names acc).Pairwise (fun x y=>x.1≠y.1)
  | [],acc,_,h,_=>h
  | (n,kd) :: r,acc,nd,h,hd=>by
    obtain ⟨n1,n2⟩:=List.nodup_cons.mp nd
    have hd':∀ p∈acc,p.1∉r.map (·.1):=fun p hp hm=>hd p hp (List.mem_cons_of_mem _ hm)
    unfold cR
    split
    · split
      · refine clAux_pair n2 (List.pairwise_cons.mpr ⟨fun p hp e=>hd p hp (by refine cw e ?_;exact List.mem_cons_self),h⟩) fun p hp=>?_
        rcases List.mem_cons.mp hp with rfl | hp
        · exact n1
        · exact hd' p hp
      · exact clAux_pair n2 h hd'
    · exact clAux_pair n2 h hd'
theorem relabel_lookup {k:Ck} {x:PySem.Str}:∀ {names:List (PySem.Str×NameKind)},(relabelN k names).lookup x=(names.lookup x).map fun kd=>if kd ==.free && k.names.lookup x ==some .cell then .cell else kd
  | []=>rfl
  | (n,kd) :: r=>by
    have ih:=relabel_lookup (k:=k) (x:=x) (names:=r)
    unfold relabelN at ih ⊢
    refine ag List.map_cons ?_
    by_cases hx:x=n
    · subst hx
      by_cases hc:(kd ==.free && k.names.lookup x ==some .cell)=true
      · simp only [hc,if_true,List.lookup_cons,beq_self_eq_true,Option.map_some]
      · simp only [hc,if_false,List.lookup_cons,beq_self_eq_true,Option.map_some,Bool.false_eq_true]
    · have hb:(x ==n)=false:=beq_eq_false_iff_ne.mpr hx
      by_cases hc:(kd ==.free && k.names.lookup n ==some .cell)=true
      · dsimp only
        refine ag (if_pos hc) (ag List.lookup_cons (ag List.lookup_cons ?_));simp only [hb];exact ih
      · dsimp only
        refine ag (if_neg hc) (ag List.lookup_cons (ag List.lookup_cons ?_));simp only [hb];exact ih
theorem lookup_filter_ne {v x:PySem.Str} (h:x≠v):∀ {l:List (PySem.Str×Nat)},(l.filter fun p=>!(p.1 ==v)).lookup x=l.lookup x
  | []=>rfl
  | (n,i) :: r=>by
    have ih:=lookup_filter_ne h (l:=r)
    by_cases hn:n=v
    · subst hn
      have hb:(x ==n)=false:=beq_eq_false_iff_ne.mpr h
      rw [List.filter_cons]
      simp only [beq_self_eq_true,Bool.not_true,Bool.false_eq_true,if_false,List.lookup_cons,hb]
      exact ih
    · have hb:(n ==v)=false:=beq_eq_false_iff_ne.mpr hn
      refine ag (List.filter_cons ..) ?_
      simp only [hb,Bool.not_false,if_true,List.lookup_cons]
      exact ag ih rfl
theorem slotV_append {ρ:List V} {w:V} {i:Nat} (h:i < ρ.length):bU (ρ++[w]) i=bU ρ i:=by
  unfold bU
  exact ag (List.getElem?_append_left h) rfl
theorem lookup_lt {k:Ck} (hk:k.ok=true) {x:PySem.Str} {i:Nat} (h:k.res.lookup x=some i):i < k.n:=by
  simp only [Ck.ok,Bool.and_eq_true,List.all_eq_true,decide_eq_true_eq] at hk
  exact hk.2 _ (mem_of_lookup h)
noncomputable def compEnv (scope:Scope) (cl:List (PySem.Str×Addr)) (C:Addr) (env:Env):Env:=
  { newEnv scope C env.globals cl env.qual none .none (some env) 0 with scope:=relabel scope env }
section
variable {c:Cx} {k:Ck}
theorem compAt {scope:Scope} {v:PySem.Str} {env:Env} {h h':Heap} {μ μ':Mu} {ρ:List V} {C:Addr} {m:PySem.Str→Option Value} (z:At c k env h μ ρ) (hc:compOk k scope v=true) (x:Ext [] h μ h' μ') (hn:h'.Ns C m) (hm:∀ y,m y=none)
    (hC:C∉aM μ') (h0:c.h0.get? C=none) (cl:List (PySem.Str×Addr)) (hcl:cl=cR env scope.names []):At c (k.comp scope v) (compEnv scope cl C env) h' μ' (ρ++[.ai]):=by
  simp only [compOk,Bool.and_eq_true,List.all_eq_true,decide_eq_true_eq,beq_iff_eq,bne_iff_ne,ne_eq,Bool.or_eq_true] at hc
  obtain ⟨⟨⟨⟨⟨⟨c1,c2⟩,c3⟩,c4⟩,c5⟩,c6⟩,c7⟩:=hc
  have z':=z.ext x
  have hko:∀ y,env.kindOf y=k.names.lookup y:=fun y=>by unfold Env.kindOf;exact ag z.names rfl
  have dX:(compEnv scope cl C env).scope.names=(k.comp scope v).names:=by
    show (relabel scope env).names=relabelN k scope.names
    unfold relabel relabelN
    refine List.map_congr_left fun p hp=>?_
    clear hcl cl h0 hC hm hn x m C hko z' c2 c1 hp;obtain ⟨n,kd⟩:=p
    simp only [z.ok.kind,beq_self_eq_true,Bool.and_true,Env.kindOf,z.names]
  have hkind:∀ y,(compEnv scope cl C env).kindOf y=(scope.names.lookup y).map fun kd=>if kd ==.free && k.names.lookup y ==some .cell then .cell else kd:=fun y=>by
    unfold Env.kindOf
    refine ag dX ?_
    exact relabel_lookup
  have free_of:∀ y,(compEnv scope cl C env).kindOf y=some .cell∨(compEnv scope cl C env).kindOf y=some .free→(y,NameKind.free)∈scope.names:=fun y hy=>by
    rw [hkind] at hy
    clear hcl h0 hC hm hn x z m μ h hkind dX hko z' c1;cases hl:scope.names.lookup y with
    | none=>rw [hl] at hy;simp at hy
    | some kd=>
      have hmem:=mem_of_lookup hl
      have bc:kd≠.cell:=c2 _ hmem
      rw [hl] at hy
      clear cl C ρ μ' h' env c2;cases kd <;> simp at hy bc <;> exact hmem
  have outer:∀ y,(y,NameKind.free)∈scope.names→(env.kindOf y=some .cell∨env.kindOf y=some .free)∧∃ i,k.res.lookup y=some i:=fun y hy=>by
    clear hcl h0 hC hm hn x z m μ h free_of hkind dX z' c2 c1;rcases c5 _ hy with e | ⟨e1,e2⟩
    · exact absurd rfl e
    · exact ⟨by refine ag (hko ..) ?_;exact e1,Option.isSome_iff_exists.mp e2⟩
  have hv:(compEnv scope cl C env).kindOf v=some .local:=by
    refine ag (hkind ..) (ag (c4 ..) ?_);rfl
  refine ⟨dX,⟨?_,?_,?_,⟨m,hn,fun y i e1 e2 w hw=>?_⟩,fun y i e1 e2=>?_,hC,fun y a ha=>?_,?_⟩,?_,c6,fun a ha=>?_⟩
  · exact c1
  · exact z.ok.glob
  · exact z.ok.bi
  · exfalso
    have hmem:=mem_of_lookup e1
    clear hcl h0 hC hm hn x m hv outer free_of hkind hko z' c2 c1;rcases c7 _ hmem with e | e
    · dsimp only at e
      clear μ' h' hmem dX e2;subst e
      have:i=k.n:=by
        have e1':((y,k.n) :: k.res.filter (fun p=>!(p.1 ==y))).lookup y=some i:=e1
        rw [List.lookup_cons] at e1'
        simp at e1'
        exact e1'.symm
      clear cl C e1;subst this
      unfold bU at hw
      rw [← z.len] at hw
      simp at hw
    · exact e (by refine cw dX ?_;exact e2)
  · have dK:=free_of y e2
    have hyv:y≠v:=by rintro rfl;rw [hv] at e2;clear h0 hC hn x hv free_of hkind dX hko c2 c1;rcases e2 with e2 | e2 <;> cases e2
    have e1':k.res.lookup y=some i:=by
      have:((v,k.n) :: k.res.filter (fun p=>!(p.1 ==v))).lookup y=some i:=e1
      rw [List.lookup_cons,beq_eq_false_iff_ne.mpr hyv] at this
      rwa [lookup_filter_ne hyv] at this
    refine aY (outer y dK) fun ho zz=>?_
    refine E2A3 (z'.ok.cell y i e1' ho) fun a u ha dY hval=>?_
    refine I2A3 a u ?_ dY (fun w hw=>hval w (by rwa [slotV_append (by refine ag z.len ?_;exact lookup_lt z.chk e1')] at hw))
    show cl.lookup y=some a
    have hmem:(y,a)∈cl:=by refine ag hcl ?_;exact clAux_has dK ha
    clear h0 hC hn x z μ hyv dK e1' hv outer free_of hkind dX hko z' c2 c1 hval dY u zz ho e2 e1 i;obtain ⟨b,hb⟩:=Option.isSome_iff_exists.mp (show (cl.lookup y).isSome=true from by
      clear hcl C ρ μ' h' h ha;cases q:cl.lookup y with
      | some _=>rfl
      | none=>exact absurd hmem (by
          intro hm
          have:=List.lookup_eq_none_iff.mp q _ hm
          simp at this))
    have:=mem_of_lookup hb
    rw [hcl] at this
    clear hcl C ρ μ' h' hmem hm;rcases dM this with h | ⟨_,h⟩
    · clear m hb ha;cases h
    · rw [ha] at h;clear m ha;cases h;exact hb
  · have:(y,a)∈cR env scope.names []:=by refine cw hcl ?_;exact ha
    clear hcl h0 hC hn x z μ hv outer free_of hkind dX hko c2 c1 hm ha;rcases dM this with h | ⟨_,h⟩
    · clear cl m C z';cases h
    · exact z'.ok.cap y a (mem_of_lookup h)
  · show cl.Pairwise fun x y=>x.2≠y.2
    refine ag hcl ?_
    have hp:=clAux_pair (env:=env) (names:=scope.names) (acc:=[]) c3 .nil (fun p hp=>nomatch hp)
    refine hp.imp_of_mem fun {p q} hp hq bc e=>?_
    clear hcl h0 hC hn hv outer free_of hkind dX hko z' c2 c1 hm x;obtain ⟨px,pa⟩:=p
    clear cl m C μ';obtain ⟨qx,qa⟩:=q
    dsimp only at e bc
    subst e
    rcases dM hp with h | ⟨_,h⟩
    · clear z ρ μ h' bc hq hp;cases h
    clear hp;rcases dM hq with h' | ⟨_,h'⟩
    · clear z ρ μ h bc hq hp;cases h'
    exact bc (name_of_addr z.ok.apart (mem_of_lookup h) (mem_of_lookup h'))
  · show (ρ++[V.ai]).length=k.n+1
    refine ag (List.length_append ..) (ag (z.len ..) ?_);rfl
  · clear hC hn hv outer dX z' c1 hm x;rcases List.mem_cons.mp ha with rfl | ha
    · exact h0
    · clear h0 m μ' h';obtain ⟨⟨y,b⟩,hb,rfl⟩:=List.mem_map.mp ha
      refine aY (List.mem_filter.mp hb) fun hb1 hb2=>?_
      rw [Bool.and_eq_true] at hb2
      have hk:(compEnv scope cl C env).kindOf y=some .cell:=by simpa using hb2.1
      have hfz:(!k.frz.contains y)=true:=hb2.2
      have dK:=free_of y (.inl hk)
      have hout:env.kindOf y=some .cell:=by
        rw [hkind] at hk
        refine ag (hko ..) ?_
        clear hcl z ρ μ h hfz dK free_of hkind hko hb hb2 hb1 ha;cases hl:scope.names.lookup y with
        | none=>rw [hl] at hk;simp at hk
        | some kd=>
          have bc:kd≠.cell:=c2 _ (mem_of_lookup hl)
          rw [hl] at hk
          clear c2 ha;cases kd <;> simp at hk bc
          exact hk
      have:(y,b)∈cR env scope.names []:=by refine cw hcl ?_;exact hb1
      clear hcl hk dK free_of hkind hko hb c2 hb2 hb1 ha;rcases dM this with h | ⟨_,h⟩
      · clear z ρ μ hout hfz ha;cases h
      · exact z.mine b (List.mem_cons_of_mem _ (List.mem_map.mpr (aI (y,b) (List.mem_filter.mpr ⟨mem_of_lookup h,by refine ag (Bool.and_eq_true ..) ?_;exact ⟨by simpa using hout,hfz⟩⟩) rfl)))
theorem compFree {scope:Scope} {v:PySem.Str} {env:Env} {h:Heap} {μ:Mu} {ρ:List V} (z:At c k env h μ ρ) (hc:compOk k scope v=true):∀ p∈scope.names,p.2=.free→(env.cells.lookup p.1).isSome=true:=fun p hp he=>by
  simp only [compOk,Bool.and_eq_true,List.all_eq_true,decide_eq_true_eq,beq_iff_eq,bne_iff_ne,ne_eq,Bool.or_eq_true] at hc
  obtain ⟨⟨⟨⟨⟨⟨c1,c2⟩,c3⟩,c4⟩,c5⟩,c6⟩,c7⟩:=hc
  rcases c5 p hp with e | ⟨e1,e2⟩
  · exact absurd he e
  · refine aN (Option.isSome_iff_exists.mp e2) fun i hi=>?_
    refine dP (z.ok.cell p.1 i hi (by rw [show env.kindOf p.1=k.names.lookup p.1 from by unfold Env.kindOf;exact ag z.names rfl];exact e1)) fun a u ha zz=>?_
    refine ag ha ?_;rfl
theorem At.extz {env:Env} {h h':Heap} {μ μ':Mu} {ρ:List V} {X:List Addr} (z:At c k env h μ ρ) (x:Ext X h μ h' μ') (hX:∀ a∈X,a∈μ.z):At c k env h' μ' ρ:=by
  have ok:XOk X h μ:=fun a ha=>.inl (hX a ha)
  have nx:∀ {a:Addr},a∉aM μ→a∉X:=fun ha hm=>z_of ha (hX _ hm)
  obtain ⟨m,⟨oL,esL,nL,eL,rL⟩,hm⟩:=z.ok.ns
  refine ⟨z.names,⟨z.ok.kind,z.ok.glob,z.ok.bi,⟨m,⟨oL,esL,nL,x.keep _ _ eL (cJ z.ok.lap) (nx z.ok.lap),rL⟩,fun y i p q v r=>?_⟩,fun y i p q=>?_,x.notin eL z.ok.lap,fun y b hb=>?_,z.ok.apart⟩,z.len,z.chk,z.mine⟩
  · refine aq (hm y i p q v r) fun u e t=>?_
    exact aI u e (t.ext x ok)
  · obtain ⟨b,u,e,⟨o,g,gd⟩,t⟩:=z.ok.cell y i p q
    have hc:=z.ok.cap y b (PySem.mem_of_lookup e)
    refine I2A3 b u e (aI o (x.keep _ _ g (cJ hc.1) (nx hc.1)) gd) (fun v hv=>?_)
    refine aq (t v hv) fun w e' t'=>?_
    exact aI w e' (t'.ext x ok)
  · obtain ⟨p,u,o,g,gd⟩:=z.ok.cap y b hb
    exact ⟨x.notin g p,u,o,x.keep _ _ g (cJ p) (nx p),gd⟩
end
end
section
open PySem PySem.W PySem.Calls PyProof.Rows
section
variable {c:Cx} {n:Nat} {C:aw} {k:Ck}
theorem iterIt_ok {A:Around} {s:Shared} {μ:Mu} {it:Addr} {src:V} {i:Nat} {E:Value→Shared→Prop} {Q:Value→Shared→Prop} (hi:ItAt c s.heap μ it src i) (h:Q (.ref it) s):wpAny (model c.prog c.w) A (pyIter (.ref it)) Q E s:=by
  cases src <;> first | exact hi.elim | skip
  · refine E3A4 hi fun a vs e g ha r hit=>?_
    clear hi
    exact wpAny_pyIter_tupleiter hit h
  · refine E3A4 hi fun a vs e g ha r hit=>?_
    clear hi
    exact wpAny_pyIter_listiter hit h
  · refine aq hi fun p hp hit=>?_
    clear hi
    exact wpAny_pyIter_listiter hit h
  · exact wpAny_pyIter_rangeiter hi h
noncomputable def SndC (c:Cx) (n:Nat) (C:aw) (k:Ck) (cond:Option XE) (ifs:List Expr):Prop:=∀ {A:Around},Room A (4*n+5) (16*n+213)→∀ {s:Shared} {μ:Mu} {σ:St} {env:Env} {ρ:List V} {b:Bool} {σ':St},
  c.Rel s.heap μ σ→At c k env s.heap μ ρ→condX c.T C cond ρ σ=some (b,σ')→
    Runs c A [] (forIn ifs true fun e r=>if r=true then do let ok ← isTrue e env (eval e env);pure (ForInStep.yield ok) else pure (ForInStep.yield r)) s μ (fun h' μ' r=>c.Rel h' μ' σ'∧r=b)
theorem sndC_none:SndC c n C k .none []:=fun room s μ σ env ρ b σ' hr z h=>by
  refine bx h ?_
  exact fun E Q hQ=>wpAny_tests_nil (hQ _ s.heap s.toks μ (.refl ..) ⟨hr,rfl⟩)
theorem sndC_some {x:XE} {e:Expr} (hx:Snd c n C k x e):SndC c n C k (some x) [e]:=fun room s μ σ env ρ b σ' hr z h=>by
  refine aq (i_cond h) fun w ew hr'=>?_
  clear h
  exact fun E Q hQ=>wpAny_tests_one ((hx.2 room hr z ew hr').use hQ)
theorem set_last {ρ:List V} {a b:V}:(ρ++[a]).set ρ.length b=ρ++[b]:=by
  refine ag (List.set_append_right _ _ (Nat.le_refl _)) ?_;simp
noncomputable def CInv (c:Cx) (C:aw) (k:Ck) (cenv:Env) (ρ:List V) (it D:Addr) (src:V) (l:List V) (σ2:St) (s4:Shared) (μ3:Mu) (elt:XE) (cond:Option XE) (f:Nat) (s':Shared):Prop:=∀ G:Shared→Prop,(∀ (i:Nat) (σ1:St) (acc:List V) (us:List Value) (ee:Nat) (w:V) (h':Heap) (tk:Nat) (μ':Mu),Ext [it,D,cenv.locals] s4.heap μ3 h' μ'→c.Rel h' μ' σ1→At c k cenv h' μ' (ρ++[w])→ItAt c h' μ' it src i→h'.get? D=some (lstO us ee)→aG c.fa h' μ' us acc→
  it∈μ'.z→D∈μ'.z→compX (eltX c.T C elt cond ρ) src f i acc σ1=some (l,σ2)→G { s4 with heap:=h',toks:=tk })→G s'
theorem CInv.mk {c:Cx} {C:aw} {k:Ck} {cenv:Env} {ρ:List V} {it D:Addr} {src:V} {l:List V} {σ2:St} {s4:Shared} {μ3:Mu} {elt:XE} {cond:Option XE} {f i:Nat} {σ1:St} {acc:List V} {us:List Value} {ee:Nat} {w:V} {h':Heap} (tk:Nat) {μ':Mu} (x:Ext [it,D,cenv.locals] s4.heap μ3 h' μ') (hr:c.Rel h' μ' σ1) (z:At c k cenv h' μ' (ρ++[w])) (hi:ItAt c h' μ' it src i) (hD:h'.get? D=some (lstO us ee)) (rs:aG c.fa h' μ' us acc)
  (h1:it∈μ'.z) (h2:D∈μ'.z) (hx:compX (eltX c.T C elt cond ρ) src f i acc σ1=some (l,σ2)):CInv c C k cenv ρ it D src l σ2 s4 μ3 elt cond f { s4 with heap:=h',toks:=tk }:=fun G q=>q i σ1 acc us ee w h' tk μ' x hr z hi hD rs h1 h2 hx
theorem comp_loop {A:Around} {s4:Shared} {μ3:Mu} {scope:Scope} {v:PySem.Str} {pv p:Pos} {e iterE:Expr} {ifs:List Expr} {elt:XE} {cond:Option XE} {cenv:Env} {ρ:List V} {it D:Addr} {src:V} {l:List V} {σ2:St} {R:Result→Shared→Prop}
    (room:Room A (4*n+5) (16*n+213)) (he:Snd c n C (k.comp scope v) elt e) (hc:SndC c n C (k.comp scope v) cond ifs) (hloc:(k.comp scope v).names.lookup v=some .local) (hρ:ρ.length=k.n) (bc:it≠D)
    (hR:∀ h' tk μ' us ee m,Ext [it,D,cenv.locals] s4.heap μ3 h' μ'→c.Rel h' μ' σ2→h'.Ns cenv.locals m→cenv.locals∉aM μ'→h'.get? D=some (lstO us ee)→aG c.fa h' μ' us l→∀ h'',Heap.ExtBut it h' h''→R (.ok .next) { s4 with heap:=h'',toks:=tk }):
    ∀ (f i:Nat) (σ1:St) (acc us:List V) ,True→∀ (us:List Value) (ee:Nat) (w:V) (h':Heap) (tk:Nat) (μ':Mu),Ext [it,D,cenv.locals] s4.heap μ3 h' μ'→c.Rel h' μ' σ1→At c (k.comp scope v) cenv h' μ' (ρ++[w])→ItAt c h' μ' it src i→h'.get? D=some (lstO us ee)→aG c.fa h' μ' us acc→
      it∈μ'.z→D∈μ'.z→compX (eltX c.T C elt cond ρ) src f i acc σ1=some (l,σ2)→
      codeAny (model c.prog c.w) A (.compLoop (.ListComp e [⟨.Name v pv,iterE,ifs,0⟩] scope p) 0 (.ref it) (.ref D) cenv) R { s4 with heap:=h',toks:=tk }:=by
  intro f i σ1 acc _ _ us ee w h' tk μ' x hr z hi hD rs hz1 hz2 hx
  refine codeAny_compLoop_tests (CInv c C (k.comp scope v) cenv ρ it D src l σ2 s4 μ3 elt cond) ?_ f (.mk tk x hr z hi hD rs hz1 hz2 hx)
  clear hx hz2 hz1 rs hD hi z hr x
  refine fun f s' q=>q _ fun i σ1 acc us ee w h' tk μ' x hr z hi hD rs hz1 hz2 hx=>?_
  clear q
  have hlen:(k.comp scope v).n=k.n+1:=rfl
  have hres:(k.comp scope v).res.lookup v=some k.n:=by
    show ((v,k.n) :: _).lookup v=_
    refine ag List.lookup_cons ?_;simp
  clear iterE hlen s';cases f with
  | zero=>cases hx
  | succ f=>
  refine aq (i_compX hx) fun o hnx hx=>?_
  cases o with
  | none=>
    refine aY hx fun e1 e2=>?_
    clear hx
    clear bc hρ hloc hc he p hres hx hz2 hz1;subst e1 e2
    refine next_none (s:={ s4 with heap:=h',toks:=tk }) room.hh hr hi hnx fun h'' hb=>?_
    refine aq z.ok.ns fun m hn _=>?_
    exact hR h' tk μ' us ee m x hr hn z.ok.lap hD rs h'' hb
  | some xv=>
    refine dP hx fun o σ3 helt hx=>?_
    rename_i zz;clear zz
    have hCn:cenv.locals∉aM μ':=z.ok.lap
    have hitC:it≠cenv.locals:=fun q=>z_of hCn (q▸hz1)
    have hDC:D≠cenv.locals:=fun q=>z_of hCn (q▸hz2)
    have hitc:it∉chg μ':=hr.2.z_chg hz1
    have hDc:D∉chg μ':=hr.2.z_chg hz2
    refine next_some (s:={ s4 with heap:=h',toks:=tk }) hr hz1 hi hnx fun wv ha tka xa oka ra hia rwv=>?_
    have za:=z.extz xa (fun a h=>by refine ag (List.mem_singleton.mp h) ?_;exact hz1)
    have hDa:ha.get? D=some (lstO us ee):=xa.keep _ _ hD hDc (by simpa using bc.symm)
    have rsa:=rs.ext xa oka
    refine wpAny_assign_Name ((store_local (s:={ s4 with heap:=ha,toks:=tka }) ra za hres hloc rwv).use fun _ hb tkb μb xb zp=>?_)
    clear hR hloc pv hCn hres rwv ra oka wv hnx hD hi z hr;obtain ⟨eb,rb,zb⟩:=zp
    subst eb
    replace zb:=set_last▸(Eq.symm hρ)▸zb
    have okb:XOk [cenv.locals] ha μb:=fun a h=>za.xok a (by refine ag (List.mem_singleton.mp h) ?_;exact List.mem_cons_self)
    have hib:=hia.ext xb okb hitc (by simpa using hitC)
    have hDb:hb.get? D=some (lstO us ee):=xb.keep _ _ hDa hDc (by simpa using hDC)
    have rsb:=rsa.ext xb okb
    have xab:Ext [it,D,cenv.locals] h' μb hb μb:=(xa.weaken (by simp)).trans (xb.weaken (by simp))
    refine dP (i_elt helt) fun b σ4 hcond helt=>?_
    refine (hc (s:={ s4 with heap:=hb,toks:=tkb }) room rb zb hcond).use fun r hd tkd μd xd p=>?_
    refine aY p fun rd e=>?_
    clear p
    refine ag e ?_
    clear hρ hc ifs okb rsa hDa za hDC hitC rb e p r hcond xb hia xa tka ha μ' tk w;rcases helt with ⟨rfl,wv',hev,rfl⟩ | ⟨rfl,rfl,rfl⟩
    · refine aY hx fun hacc hx=>?_
      rename_i zz;clear zz
      refine ag (if_pos rfl) ?_
      refine (he.1 (s:={ s4 with heap:=hd,toks:=tkd }) room rd (zb.ext xd) hev).use fun u he' tke μe xe zp=>?_
      clear he room hev e rd σ4 helt tk w;obtain ⟨re,ru⟩:=zp
      have xde:=xd.trans xe
      have hDe:he'.get? D=some (lstO us ee):=xde.keep _ _ hDb hDc (by simp)
      have hzD:=xde.zin hz2
      have hzI:=xde.zin hz1
      have rse:=rsb.ext xde (.nil _)
      refine wpAny_list_append_plain (s:={ s4 with heap:=he',toks:=tke }) ⟨_,hDe⟩ (fun hf hDf hsf=>?_) (by refine ag List.size_toArray (ag rs.len (ag sizeLine_eq ?_));exact lZ hacc)
      refine aN hDf fun eef hDf=>?_
      rename_i zz;clear zz
      refine dJ (re.iter hzD hsf hDf) fun xf okf rf=>?_
      refine aI f (Nat.lt_succ_self _) (.mk tke (us:=us++[u]) (ee:=eef) (x.trans (xab.trans ((xde.weaken (by simp)).trans (xf.weaken (by simp))))) rf ((zb.ext xde).extz xf fun a h=>by refine ag (List.mem_singleton.mp h) ?_;exact hzD) ?_ ?_ ?_ hzI hzD hx)
      · exact (hib.ext xde (.nil _) hitc (by simp)).ext xf okf (re.2.z_chg hzI) (by simpa using bc)
      · refine ag hDf ?_;simp [lstO]
      · exact (rse.ext xf okf).append (.cons (ru.ext xf okf) .nil)
    · refine ag (if_neg nofun) ?_
      refine aI f (Nat.lt_succ_self _) (.mk tkd (x.trans (xab.trans (xd.weaken (by simp)))) rd (zb.ext xd) (hib.ext xd (.nil _) hitc (by simp)) (xd.keep _ _ hDb hDc (by simp)) (rsb.ext xd (.nil _)) (xd.zin hz1) (xd.zin hz2) hx)
end
end
section
open PySem PySem.W PySem.Calls PyProof.Rows
section
variable {c:Cx} {n:Nat} {C:aw} {k:Ck}
theorem comp_end {h1 h4 h' h'' h3:Heap} {μ1 μ':Mu} {σ2 σ3:St} {it D Cc:Addr} {us:List Value} {ee:Nat} {l:List V} {mm:Bool} {val:V} {m:PySem.Str→Option Value}
    (hk14:∀ b o,h1.get? b=some o→h4.get? b=some o) (f_it:h1.get? it=none) (f_D:h1.get? D=none) (f_C:h1.get? Cc=none) (h0C:c.h0.get? Cc=none) (bc:it≠D) (h100:100≤D)
    (x:Ext [it,D,Cc] h4 ⟨μ1.l,D :: it :: μ1.z⟩ h' μ') (hr:c.Rel h' μ' σ2) (hn:h'.Ns Cc m) (hC:Cc∉aM μ') (hD:h'.get? D=some (lstO us ee)) (rs:aG c.fa h' μ' us l)
    (hb:Heap.ExtBut it h' h'') (hs:Heap.ExtBut Cc h'' h3) (hnew:newL mm l σ2=some (val,σ3)):∃ μf,Ext [] h1 μ1 h3 μf∧c.Rel h3 μf σ3∧Rep c.fa h3 μf (.ref D) val∧(∀ b,b∉aM μ'→b∉aM μf):=by
  refine E2A3 x.grow fun ν ζ e hν hζ=>?_
  have back:∀ b,h4.get? b=none→h1.get? b=none:=fun b q=>by
    clear hnew hs hb rs hD hC hn hr x h100 bc h0C f_C f_D f_it m val mm l ee us Cc σ3 σ2 h3 h'' h' hζ hν e ζ ν;cases q':h1.get? b with
    | none=>rfl
    | some o=>replace q:=(hk14 b o q')▸q;clear hk14 D it μ' μ1 h4;cases q
  have hzit:it∈μ'.z:=by refine ag e ?_;simp
  have hzD:D∈μ'.z:=by refine ag e ?_;simp
  have hz:μ'.z=ζ++D :: it :: μ1.z:=by exact ag e rfl
  have hl:μ'.l=μ1.l++ν:=by exact ag e rfl
  have hitC:it≠Cc:=fun q=>z_of hC (q▸hzit)
  have hDC:D≠Cc:=fun q=>z_of hC (q▸hzD)
  have keep3:∀ b o,h'.get? b=some o→b≠it→b≠Cc→h3.get? b=some o:=fun b o q q1 q2=>hs b o q2 (hb b o q1 q)
  have nd:=hr.2.nodup
  have main:∀ (ex:List (Addr×Addr)),(ex=[]∨ex=[(D,D)])→Mv h' μ' h3 ⟨μ'.l++ex,ζ++μ1.z⟩∧Ext [] h1 μ1 h3 ⟨μ'.l++ex,ζ++μ1.z⟩:=by
    intro ex hex
    have hsub:∀ b,b∉aM μ'→b∉aM ⟨μ'.l++ex,ζ++μ1.z⟩:=by
      intro b hb1 hb2
      unfold aM at hb1 hb2
      replace hb1:=hz▸hb1
      simp only [List.map_append,List.mem_append,List.mem_cons,not_or] at hb1 hb2
      refine E0A5 hb1 fun q1 q2 q3 q4 q5=>?_
      clear hb1
      clear hnew hs hb rs hD hC hn hr x h100 bc h0C f_C f_D f_it hk14 m val mm l ee us σ3 σ2 h'' nd keep3 hDC hitC hl hz hzD hzit back q4 hζ hν e ν;rcases hb2 with (hb2 | hb2) | hb2 | hb2
      · exact q1 hb2
      · clear Cc it h3 h' h4 h1 q5 q2 q1 ζ;rcases hex with rfl | rfl
        · clear μ' μ1 q3;cases hb2
        · simp at hb2;exact q3 hb2
      · exact q2 hb2
      · exact q5 hb2
    refine ⟨⟨⟨ex,rfl⟩,hsub,fun b o q1 q2 q3 q4=>keep3 b o q1 (fun q=>z_of q2 (q▸hzit)) ?_,fun b q1 o q2=>keep3 b o q2 (fun q=>hr.2.z_chg hzit (q▸q1)) fun q=>cJ hC (q▸q1)⟩,?_⟩
    · rintro rfl
      refine E3A3 hn fun o' es nn g gd _=>?_
      clear hn
      replace g:=q1▸g;clear hnew hs hb rs hD hC hr x h100 bc h0C f_C f_D f_it hk14 val mm l ee us σ3 σ2 h'' hsub nd keep3 hDC hitC hl hz hzD hzit back hex ex q4 q2 q1 b hζ hν e ζ ν;cases g
      exact q3 _ _ gd
    · refine ⟨fun b o q1 q2 q3=>?_,fun b o q1=>?_,ν++ex,ζ,by exact ag (hl ..) (ag (List.append_assoc ..) rfl),fun p hp=>?_,fun b hb1=>⟨back _ (hζ b hb1).1,(hζ b hb1).2⟩⟩
      · have ne1:b≠it:=by rintro rfl;replace q1:=f_it▸q1;clear hnew hs hb rs hD hC hn hr h100 bc h0C f_it m val mm l ee us σ3 σ2 h'' hsub nd hDC hitC hl hz hzD hzit back hex ex q3 hζ hν e ζ ν;cases q1
        have ne2:b≠Cc:=by rintro rfl;replace q1:=f_C▸q1;clear hnew hs hb rs hD hC hn hr h100 bc h0C f_C f_it m val mm l ee us σ3 σ2 h'' hsub nd hDC hitC hl hz hzD hzit back hex ex q3 hζ hν e ζ ν;cases q1
        have ne3:b≠D:=by rintro rfl;replace q1:=f_D▸q1;clear hnew hs hb rs hD hC hn hr h100 bc h0C f_C f_D f_it m val mm l ee us σ3 σ2 h'' hsub nd hDC hitC hl hz hzD hzit back hex ex q3 hζ hν e ζ ν;cases q1
        exact keep3 b o (x.keep b o (hk14 b o q1) q2 (by simp [ne1,ne2,ne3])) ne1 ne2
      · have ne1:b≠it:=by rintro rfl;replace q1:=f_it▸q1;clear hnew hs hb rs hD hC hn hr h100 bc h0C f_D f_it m val mm l ee us σ3 σ2 h'' hsub nd hDC hitC hl hz hzD hzit back hex ex hζ hν e ζ ν;cases q1
        have ne2:b≠Cc:=by rintro rfl;replace q1:=f_C▸q1;clear hnew hs hb rs hD hC hn hr h100 bc h0C f_C f_D f_it m val mm l ee us σ3 σ2 h'' hsub nd hDC hitC hl hz hzD hzit back hex ex hζ hν e ζ ν;cases q1
        refine aN (x.alive b o (hk14 b o q1)) fun o' g=>?_
        exact ⟨o',keep3 b o' g ne1 ne2⟩
      · clear hnew hs hb rs hD hC hn hr x bc h0C f_C f_it hk14 m val mm l ee us σ3 σ2 h'' hsub nd keep3 hDC hitC hl hz hzD hzit hζ e ζ;rcases List.mem_append.mp hp with hp | hp
        · exact ⟨back _ (hν p hp).1,(hν p hp).2⟩
        · clear Cc it μ' μ1 h3 h' back hν;rcases hex with rfl | rfl
          · clear h100 f_D D h4;cases hp
          · refine ag (List.mem_singleton.mp hp) ?_;exact ⟨f_D,h100⟩
  have base:∀ μf,(∀ b,b∉aM μ'→b∉aM μf)→(∃ ex,μf.l=μ'.l++ex)→BaseOk c.h0 c.l0 h3 μf:=fun μf hsub hex=>by
    refine ⟨fun b o q=>keep3 b o (hr.1.keep b o q) (fun z=>hr.1.apart b o q (z▸List.mem_append.mpr (.inr hzit))) fun z=>?_,fun b o q=>hsub _ (hr.1.apart b o q),fun b hb1=>?_,by
      refine aN hr.1.pre fun ν0 e0=>?_
      refine aN hex fun ex e1=>?_
      clear hex
      exact ⟨ν0++ex,by exact ag (e1 ..) (ag (e0 ..) (ag (List.append_assoc ..) rfl))⟩⟩
    · clear hnew hs hb rs hD hC hn hr x h100 bc f_C f_D f_it hk14 m val mm l ee us σ3 σ2 h'' main nd keep3 hDC hitC hl hz hzD hzit back hex hsub μf hζ hν e ζ ν;subst z;replace q:=h0C▸q;clear h0C D it μ' μ1 h3 h' h4 h1 b;cases q
    · by_cases q:b∈aM μ'
      · exact hr.1.high b q
      · exact absurd hb1 (hsub b q)
  have zl:∀ b∈ζ++μ1.z,∃ o,h3.get? b=some o:=fun b hb1=>by
    have hb2:b∈μ'.z:=by
      refine ag hz ?_
      clear hnew hs hb rs hD hC hn hr x h100 bc h0C f_C f_D f_it hk14 m val mm l ee us σ3 σ2 h'' base main nd keep3 hDC hitC hl hz hzD hzit back hζ hν e ν;rcases List.mem_append.mp hb1 with q | q
      · exact List.mem_append.mpr (.inl q)
      · exact List.mem_append.mpr (.inr (List.mem_cons_of_mem _ (List.mem_cons_of_mem _ q)))
    refine aN (hr.2.zlive b hb2) fun o g=>?_
    refine ⟨o,keep3 b o g ?_ fun q=>z_of hC (q▸hb2)⟩
    rintro rfl
    have nz:=(List.nodup_append.mp nd).2.1
    replace nz:=hz▸nz
    have nz3:=List.nodup_append.mp nz
    clear hnew hs hb rs hD hC hn hr x h100 bc h0C f_C f_D f_it hk14 m val mm l ee us σ3 σ2 h'' nz base main nd keep3 hDC hitC hl hz hzD hzit back hb2 g o hζ hν e ν;rcases List.mem_append.mp hb1 with q | q
    · exact nz3.2.2 b q b (List.mem_cons_of_mem _ List.mem_cons_self) rfl
    · exact (List.nodup_cons.mp (List.nodup_cons.mp nz3.2.1).2).1 q
  have nd':((μ'.l.map (·.2))++(ζ++D :: it :: μ1.z)).Nodup:=by
    have:=nd
    unfold aM at this
    rwa [hz] at this
  unfold newL at hnew
  split at hnew <;> first | (cases hnew;done) | skip
  split at hnew
  · clear hs hb hC hn x h100 h0C f_C f_D f_it hk14 m h'' nd hitC hl hz hzD hzit back hζ hν e ν;cases hnew
    refine aY (main [(D,D)] (.inr rfl)) fun mv ex=>?_
    refine ⟨_,ex,⟨base _ mv.sub mv.l,?_,?_,zl,fun i p o q1 q2=>?_⟩,?_,mv.sub⟩
    · simp [hr.2.len]
    · unfold aM
      simp only [List.map_append,List.map_cons,List.map_nil]
      refine dJ (List.nodup_append.mp nd') fun n1 n2 n3=>?_
      refine dJ (List.nodup_append.mp n2) fun n4 n5 n6=>?_
      refine aY (List.nodup_cons.mp n5) fun n7 n8=>?_
      refine aY (List.nodup_cons.mp n8) fun n9 n10=>?_
      refine List.nodup_append.mpr ⟨List.nodup_append.mpr ⟨n1,by simp,fun a ha b hb2=>?_⟩,List.nodup_append.mpr ⟨n4,n10,fun a ha b hb2=>n6 a ha b (List.mem_cons_of_mem _ (List.mem_cons_of_mem _ hb2))⟩,fun a ha b hb2=>?_⟩
      · refine ag (List.mem_singleton.mp hb2) ?_
        exact n3 a ha D (List.mem_append.mpr (.inr List.mem_cons_self))
      · clear rs hD hr bc ee us σ2 h4 nd' zl base main keep3 hDC n10 n9 n8 n5 n4 n2 n1 mv ex;rcases List.mem_append.mp ha with ha | ha
        · refine n3 a ha b ?_
          clear Cc h3 h' h1 ha n7 n6 n3;rcases List.mem_append.mp hb2 with q | q
          · exact List.mem_append.mpr (.inl q)
          · exact List.mem_append.mpr (.inr (List.mem_cons_of_mem _ (List.mem_cons_of_mem _ q)))
        · refine ag (List.mem_singleton.mp ha) ?_
          clear Cc h3 h' h1 ha n3;rcases List.mem_append.mp hb2 with q | q
          · exact fun z=>n6 b q D List.mem_cons_self z.symm
          · exact fun z=>n7 (z▸List.mem_cons_of_mem _ q)
    · dsimp only at q1
      by_cases hi:i < μ'.l.length
      · replace q1:=(List.getElem?_append_left hi)▸q1
        replace q2:=(List.getElem?_append_left (hr.2.len▸hi))▸q2
        exact (hr.2.obj i p o q1 q2).mv mv (mem_chg q1)
      · have hi1:i=μ'.l.length:=by
          have:=(List.getElem?_eq_some_iff.mp q1).1
          simp at this;exact Nat.le_antisymm (lZ this) (lZ (Nat.le_of_not_lt hi))
        clear h4 nd' zl base main ex;subst hi1
        simp at q1
        replace q2:=hr.2.len▸q2
        simp at q2
        clear hr σ2 h1;subst q1 q2
        exact ⟨rfl,us,⟨ee,keep3 _ _ hD bc.symm hDC⟩,rs.mv mv⟩
    · exact .obj (p:=(D,D)) (by dsimp only;refine cw hr.2.len ?_;simp)
  · clear hs hb hC hn x h100 h0C f_C f_D f_it hk14 m h'' nd hitC hl hz hzD hzit back hζ hν e ν;cases hnew
    refine aY (main [] (.inl rfl)) fun mv ex=>?_
    rw [List.append_nil] at mv ex
    have hDz:D∉aM ⟨μ'.l,ζ++μ1.z⟩:=by
      refine dJ (List.nodup_append.mp nd') fun n1 n2 n3=>?_
      refine dJ (List.nodup_append.mp n2) fun n4 n5 n6=>?_
      refine aY (List.nodup_cons.mp n5) fun n7 n8=>?_
      intro hm
      unfold aM at hm
      simp only [List.mem_append] at hm
      clear rs hD hr bc ee us σ2 h4 nd' zl base main keep3 hDC n8 n5 n4 n2 n1 mv ex;rcases hm with hm | hm | hm
      · exact n3 D hm D (List.mem_append.mpr (.inr List.mem_cons_self)) rfl
      · exact n6 D hm D List.mem_cons_self rfl
      · exact n7 (List.mem_cons_of_mem _ hm)
    refine ⟨_,ex,⟨base _ mv.sub mv.l,hr.2.len,?_,zl,fun i p o q1 q2=>(hr.2.obj i p o q1 q2).mv mv (mem_chg q1)⟩,.lst (keep3 _ _ hD bc.symm hDC) hDz (rs.mv mv),mv.sub⟩
    unfold aM
    exact nd'.sublist (List.Sublist.append_left (List.Sublist.append_left ((List.sublist_cons_self _ _).trans (List.sublist_cons_self _ _)) _) _)
theorem letC {h h':Heap} {μ:Mu} {σ:St} {Cc:Addr} {m:PySem.Str→Option Value} (hr:c.Rel h μ σ) (hn:h.Ns Cc m) (hC:Cc∉aM μ) (h0C:c.h0.get? Cc=none) (hs:Heap.ExtBut Cc h h'):Mv h μ h' μ∧c.Rel h' μ σ:=by
  have mv:Mv h μ h' μ:=⟨⟨[],by simp⟩,fun _ h=>h,fun b o q1 q2 q3 q4=>hs b o (by
    rintro rfl
    refine E3A3 hn fun o' es nn g gd _=>?_
    clear hn
    replace g:=q1▸g;clear h0C hr σ q4;cases g
    exact q3 _ _ gd) q1,fun b q1 o q2=>hs b o (fun q=>cJ hC (q▸q1)) q2⟩
  refine ⟨mv,⟨fun b o q=>hs b o (fun z=>?_) (hr.1.keep b o q),hr.1.apart,hr.1.high,hr.1.pre⟩,hr.2.len,hr.2.nodup,fun b hb=>?_,fun i p o q1 q2=>(hr.2.obj i p o q1 q2).mv mv (mem_chg q1)⟩
  · clear hs hC hn hr m σ mv h;subst z;replace q:=h0C▸q;clear h0C μ h' b;cases q
  · refine aN (hr.2.zlive b hb) fun o g=>?_
    exact ⟨o,hs b o (fun q=>z_of hC (q▸hb)) g⟩
theorem At.letC {env:Env} {h h':Heap} {μ:Mu} {ρ:List V} {Cc:Addr} (z:At c k env h μ ρ) (mv:Mv h μ h' μ) (hs:Heap.ExtBut Cc h h') (n1:env.locals≠Cc) (n2:∀ p∈env.cells,p.2≠Cc):At c k env h' μ ρ:=by
  obtain ⟨m,⟨oL,esL,nL,eL,rL⟩,hm⟩:=z.ok.ns
  refine ⟨z.names,⟨z.ok.kind,z.ok.glob,z.ok.bi,⟨m,⟨oL,esL,nL,hs _ _ n1 eL,rL⟩,fun y i p q v r=>?_⟩,fun y i p q=>?_,z.ok.lap,fun y b hb=>?_,z.ok.apart⟩,z.len,z.chk,z.mine⟩
  · refine aq (hm y i p q v r) fun u e t=>?_
    exact aI u e (t.mv mv)
  · obtain ⟨b,u,e,⟨o,g,gd⟩,t⟩:=z.ok.cell y i p q
    refine I2A3 b u e (aI o (hs _ _ (n2 (y,b) (PySem.mem_of_lookup e)) g) gd) (fun v hv=>?_)
    refine aq (t v hv) fun w e' t'=>?_
    exact aI w e' (t'.mv mv)
  · obtain ⟨p,u,o,g,gd⟩:=z.ok.cap y b hb
    exact ⟨p,u,o,hs _ _ (n2 (y,b) hb) g,gd⟩
theorem set_eq {x:Expr} (h:dH x=true) {env:Env} (v:Value):foldedSetIterable x env v=pure v:=by
  cases x <;> first | rfl | cases h
theorem comp_core {A:Around} {s:Shared} {μ:Mu} {σ σ1 σ2 σ3:St} {env:Env} {ρ:List V} {scope:Scope} {v:PySem.Str} {pv p pos:Pos} {e iterE:Expr} {ifs:List Expr} {elt iter:XE} {cond:Option XE} {src val:V} {l:List V} {mm:Bool} {use:Option (Value→Sem Unit)} {E:Value→Shared→Prop} {Q:Value→Shared→Prop}
    (room:Room A (4*n+5) (16*n+213)) (hr:c.Rel s.heap μ σ) (z:At c k env s.heap μ ρ) (hok:compOk k scope v=true) (hset:dH iterE=true) (hi:Snd c n C k iter iterE) (he:Snd c n C (k.comp scope v) elt e) (hc:SndC c n C (k.comp scope v) cond ifs)
    (h1:ae c.T C iter ρ σ=some (src,σ1)) (h2:cP src σ1=true) (h3:compX (eltX c.T C elt cond ρ) src 64 0 [] σ1=some (l,σ2)) (h4:newL mm l σ2=some (val,σ3))
    (hpost:∀ D Cc h' tk μf m,Ext [] s.heap μ h' μf→c.Rel h' μf σ3→Rep c.fa h' μf (.ref D) val→h'.Ns Cc m→Cc∉aM μf→s.heap.get? Cc=none→c.h0.get? Cc=none→compPost (model c.prog c.w) A E use Q (.ref D) Cc (.ok .next) { s with heap:=h',toks:=tk }):
    wpAny (model c.prog c.w) A (comprehension (.ListComp e [⟨.Name v pv,iterE,ifs,0⟩] scope p) scope env pos (newList []) false (eval iterE env) use) Q E s:=by
  have hok':=hok
  simp only [compOk,Bool.and_eq_true,List.all_eq_true,decide_eq_true_eq,beq_iff_eq,bne_iff_ne,ne_eq,Bool.or_eq_true] at hok'
  obtain ⟨⟨⟨⟨⟨⟨c1,c2⟩,c3⟩,c4⟩,c5⟩,c6⟩,c7⟩:=hok'
  have dX:∀ x∈scope.names,x.2=.local→scope.names.lookup x.1=some .local:=fun x hx hl=>by
    have:∀ (ns:List (PySem.Str×NameKind)),(ns.map (·.1)).Nodup→x∈ns→ns.lookup x.1=some x.2:=by
      intro ns
      induction ns with
      | nil=>intro _ h;clear hpost h4 h3 h2 h1 hc he hi hset hok z hr room Q E use mm l val src cond iter elt ifs iterE e pos p pv ρ env σ3 σ2 σ1 σ μ s A c2 c1 hl hx;cases h
      | cons q r ih=>
        intro nd hm
        refine aY (List.nodup_cons.mp nd) fun n1 n2=>?_
        clear hpost h4 h3 h2 h1 hc he hi hset hok z hr room Q E use mm l val src cond iter elt ifs iterE e pos p pv ρ env σ3 σ2 σ1 σ μ s A c2 c1 nd hl hx;rcases List.mem_cons.mp hm with rfl | hm2
        · clear ih hm n2 n1;obtain ⟨a,b⟩:=x
          simp [List.lookup_cons]
        · clear hm
          obtain ⟨qa,qb⟩:=q
          have:(x.1 ==qa)=false:=by
            rw [beq_eq_false_iff_ne]
            intro q
            exact n1 (List.mem_map.mpr (aI x hm2 q))
          refine ag (List.lookup_cons ..) (ag (this ..) ?_);exact ih n2 hm2
    exact ag (this _ c3 hx) (ag hl rfl)
  refine wpAny_comprehension_free (g:=⟨.Name v pv,iterE,ifs,0⟩) (gs:=[]) rfl (fun x=>set_eq hset x) (closure_pure (compFree z hok)) c1 dX ?_
  refine (hi.1 room hr z h1).use fun u ha tka μa xa zp=>?_
  clear hi hset hr pos dX;obtain ⟨ra,rep⟩:=zp
  have hsza:=c.size ra
  refine pyIter_ok (s:={ s with heap:=ha,toks:=tka }) ra rep h2 fun hb ob hkb hob hit=>?_
  have za:=z.ext xa
  have hbsz:hb.objs.size > ha.objs.size:=Heap.lt_size hob
  refine wpAny_newObj_type ?_ (by show (#[]:Array Value).size≤sizeLine;refine ag (sizeLine_eq ..) ?_;decide)
  have fit:ha.get? ha.objs.size=none:=aJ _ (Nat.le_refl _)
  have fD:ha.get? hb.objs.size=none:=aJ _ (Nat.le_of_lt hbsz)
  have rb:c.Rel hb (μa.bS ha.objs.size) σ1:=by
    have x:=Ext.bS (μ:=μa) hkb fit hsza
    exact ⟨ra.1.ext x (by simp),ra.2.bS hkb fit hsza hob⟩
  generalize hhc:hb.push { cls:=.type "list",dict:=none,data:=.seq ([]:List Value).toArray }=hcc
  have hkc:∀ b o,hb.get? b=some o→hcc.get? b=some o:=fun b o g=>hhc▸Heap.get?_push_of_some _ g
  have hDc:hcc.get? hb.objs.size=some (lstO [] 0):=hhc▸Heap.get?_push_size _ rfl
  have hcsz:hcc.objs.size=hb.objs.size+1:=by exact cw (hhc ..) (ag (Heap.size_push ..) rfl)
  have rc:c.Rel hcc ((μa.bS ha.objs.size).bS hb.objs.size) σ1:=by
    have x:=Ext.bS (μ:=μa.bS ha.objs.size) hkc (aJ _ (Nat.le_refl _)) (Nat.le_of_lt (Nat.lt_of_le_of_lt hsza hbsz))
    exact ⟨rb.1.ext x (by simp),rb.2.bS hkc (aJ _ (Nat.le_refl _)) (Nat.le_of_lt (Nat.lt_of_le_of_lt hsza hbsz)) hDc⟩
  refine wpAny_newFunctionEnv (fun y hy=>c2 y hy) (by intro y hy;clear h2 rep c2 hob ob u;cases hy) (fun hd hnd hsd=>?_) c1
  dsimp only [Option.isSome_some] at hnd hsd ⊢
  simp only [if_true,List.length_nil,Nat.add_zero] at hnd hsd ⊢
  have hkd:∀ b o,hcc.get? b=some o→hd.get? b=some o:=fun b o g=>hsd.extBut b o (Nat.ne_of_lt (Heap.lt_size g)) (Heap.get?_push_of_some _ g)
  have xd:Ext [] hcc ((μa.bS ha.objs.size).bS hb.objs.size) hd ((μa.bS ha.objs.size).bS hb.objs.size):=.keeps hkd
  have rd:=rc.grow hkd
  have xac:Ext [] ha μa hd ((μa.bS ha.objs.size).bS hb.objs.size):=((Ext.bS hkb fit hsza).trans (Ext.bS hkc (aJ _ (Nat.le_refl _)) (Nat.le_of_lt (Nat.lt_of_le_of_lt hsza hbsz)))).trans xd
  have hCm:hcc.objs.size∉aM ((μa.bS ha.objs.size).bS hb.objs.size):=rc.2.fresh (aJ _ (Nat.le_refl _))
  have hCa:ha.get? hcc.objs.size=none:=aJ _ (by refine ag (hcsz ..) ?_;exact lZ hbsz)
  have h0C:c.h0.get? hcc.objs.size=none:=by
    clear hpost h4 h3 h2 h1 hc he hok z room Q E use mm l val cond iter elt ifs iterE e p pv σ3 σ2 σ A hCm xac rd xd hkd rc hcsz hDc hkc rb fD fit hbsz za hsza rep c2 c1 hsd hnd hd hit hob hkb ob xa tka u;cases q:c.h0.get? hcc.objs.size with
    | none=>rfl
    | some o=>replace hCa:=(ra.1.keep _ _ q)▸hCa;clear src ρ env μ s ra q μa ha;cases hCa
  have hCs:s.heap.get? hcc.objs.size=none:=by
    clear hpost h4 h3 h2 h1 hc he hok z room Q E use mm l val cond iter elt ifs iterE e p pv σ3 σ2 σ A h0C hCm xac rd xd hkd rc hcsz hDc hkc rb fD fit hbsz za hsza rep ra c2 c1 hsd hnd hd hit hob hkb ob tka u;cases q:s.heap.get? hcc.objs.size with
    | none=>rfl
    | some o=>clear src ρ env σ1;obtain ⟨o',q'⟩:=xa.alive _ _ q;replace q':=hCa▸q';clear hCa q xa μa ha;cases q'
  have zc:=compAt (v:=v) za hok xac hnd (fun y=>rfl) hCm h0C (cR env scope.names []) rfl
  have bc:ha.objs.size≠hb.objs.size:=Nat.ne_of_lt hbsz
  have hitd:ItAt c hd ((μa.bS ha.objs.size).bS hb.objs.size) ha.objs.size src 0:=by
    have x:=(Ext.bS (μ:=μa.bS ha.objs.size) hkc (aJ _ (Nat.le_refl _)) (Nat.le_of_lt (Nat.lt_of_le_of_lt hsza hbsz))).trans xd
    exact hit.ext x (.nil _) (rb.2.z_chg (by simp [Mu.bS])) (by simp)
  have hloc:(k.comp scope v).names.lookup v=some .local:=by
    show (relabelN k scope.names).lookup v=_
    refine ag (relabel_lookup ..) (ag (c4 ..) ?_);rfl
  have loop:=comp_loop (p:=p) (pv:=pv) (iterE:=iterE) (s4:={ s with heap:=hd,toks:=tka }) (A:=A) room he hc hloc z.len bc (R:=compPost (model c.prog c.w) A E use Q (.ref hb.objs.size) hcc.objs.size) (cenv:=compEnv scope (cR env scope.names []) hcc.objs.size env) (it:=ha.objs.size) (D:=hb.objs.size) (src:=src) (l:=l) (σ2:=σ2) (μ3:=(μa.bS ha.objs.size).bS hb.objs.size)
    (fun h' tk μ' us ee m x hr' hn' hC' hD' rs' h'' hb''=>by
      have hn'':h''.Ns hcc.objs.size m:=by
        refine E3A2 hn' fun o' es nn g r=>?_
        clear hn'
        have hzi:ha.objs.size∈μ'.z:=x.zin (by simp [Mu.bS])
        exact I3A2 o' es nn (hb'' _ _ (fun q=>z_of hC' (q▸hzi)) g) r
      refine E1A4 (comp_end (h1:=ha) (h4:=hd) (μ1:=μa) (Cc:=hcc.objs.size) (fun b o g=>hkd b o (hkc b o (hkb b o g))) fit fD hCa h0C bc (Nat.le_of_lt (Nat.lt_of_le_of_lt hsza hbsz)) x hr' hn' hC' hD' rs' hb'' (Heap.ExtBut.refl _ _) h4) fun μf xf rf repf hsub=>?_
      exact hpost hb.objs.size hcc.objs.size h'' tk μf m (xa.trans xf) rf repf hn'' (hsub _ hC') hCs h0C)
    64 0 σ1 [] [] trivial [] 0 .ai hd tka _ (.refl ..) rd zc hitd (hkd _ _ hDc) .nil (by simp [Mu.bS]) (by simp [Mu.bS]) h3
  exact codeAny_compStart_list loop (iterIt_ok (s:={ s with heap:=hd,toks:=tka }) hitd loop)
theorem snd_comp {m:Bool} {elt iter:XE} {cond:Option XE} {scope:Scope} {v:PySem.Str} {pv p:Pos} {e iterE:Expr} {ifs:List Expr} (hok:compOk k scope v=true) (hset:dH iterE=true) (hi:Snd c n C k iter iterE) (he:Snd c n C (k.comp scope v) elt e) (hc:SndC c n C (k.comp scope v) cond ifs):
    SndE c n C k (.comp m elt iter cond) (.ListComp e [⟨.Name v pv,iterE,ifs,0⟩] scope p):=fun room s μ σ env ρ val σ' hr z h=>by
  refine E4A4 (i_comp h) fun src σ1 l σ2 h1 h2 h3 h=>?_
  intro E Q hQ
  refine comp_core (use:=none) (mm:=m) room hr z hok hset hi he hc h1 h2 h3 h fun D Cc h' tk μf mm x r rep hn hC hf h0C=>?_
  refine aI _ hn (fun h3 hs=>?_)
  refine aY (letC r hn hC h0C hs.extBut) fun mv r'=>?_
  refine hQ (.ref D) h3 tk μf ?_ ⟨r',rep.mv mv⟩
  refine ⟨fun b o q1 q2 q3=>hs.extBut b o ?_ (x.keep b o q1 q2 q3),fun b o q=>?_,x.grow⟩
  · rintro rfl;rw [hf] at q1;cases q1
  · refine aN (x.alive b o q) fun o' q'=>?_
    refine ⟨o',hs.extBut b o' ?_ q'⟩
    rintro rfl;rw [hf] at q;cases q
end
end
section
open PySem PySem.W PySem.Calls PyProof.Rows
variable {c:Cx} {n:Nat} {C:aw}
@[elab_as_elim] theorem chk_none {P:Expr→Prop} {g k e} (h:aS g k .none e=true) (q:∀ kk p,P (.Constant .none kk p)):P e:=onK_ok h fun c kk p h=>cNone_ok h (q kk p)
@[elab_as_elim] theorem chk_bool {P:Expr→Prop} {g k b e} (h:aS g k (.bool b) e=true) (q:∀ kk p,P (.Constant (.bool b) kk p)):P e:=onK_ok h fun c kk p h=>onBool_ok h fun b' h=>(beq_iff_eq.mp h)▸q kk p
@[elab_as_elim] theorem chk_int {P:Expr→Prop} {g k b e} (h:aS g k (.int b) e=true) (q:∀ kk p,P (.Constant (.int b) kk p)):P e:=onK_ok h fun c kk p h=>onInt_ok h fun b' h=>(beq_iff_eq.mp h)▸q kk p
@[elab_as_elim] theorem chk_str {P:Expr→Prop} {g k b e} (h:aS g k (.str b) e=true) (q:∀ kk p,P (.Constant (.str (strOf b)) kk p)):P e:=onK_ok h fun c kk p h=>onStr_ok h fun b' h=>(beq_iff_eq.mp h)▸q kk p
@[elab_as_elim] theorem chk_gl {P:Expr→Prop} {g k b e} (h:aS g k (.gl b) e=true) (q:∀ x p,k.gn x=true→g.gl.lookup x=some b→P (.Name x p)):P e:=dU h fun x p h=>q x p (a1 h) (beq_iff_eq.mp (a2 h))
@[elab_as_elim] theorem chk_and {P:Expr→Prop} {g k l e} (h:aS g k (.and l) e=true) (q:∀ es p,cH g k l es=true→P (.BoolOp .And es p)):P e:=onBO_ok h fun o es p h=>lem' h (q es p)
@[elab_as_elim] theorem chk_or {P:Expr→Prop} {g k l e} (h:aS g k (.or l) e=true) (q:∀ es p,cH g k l es=true→P (.BoolOp .Or es p)):P e:=onBO_ok h fun o es p h=>lem' h (q es p)
@[elab_as_elim] theorem chk_bin {P:Expr→Prop} {g k o a b e} (h:aS g k (.bin o a b) e=true) (q:∀ x y p,aS g k a x=true→aS g k b y=true→P (.BinOp x (opOf o) y p)):P e:=onBin_ok h fun x op y p h=>lem h fun h=>q x y p (a1 h) (a2 h)
@[elab_as_elim] theorem chk_neg {P:Expr→Prop} {g k a e} (h:aS g k (.neg a) e=true) (q:∀ x p,aS g k a x=true→P (.UnaryOp .USub x p)):P e:=onUn_ok h fun o x p h=>lem' h (q x p)
@[elab_as_elim] theorem chk_not {P:Expr→Prop} {g k a e} (h:aS g k (.not a) e=true) (q:∀ x p,aS g k a x=true→P (.UnaryOp .Not x p)):P e:=onUn_ok h fun o x p h=>lem' h (q x p)
@[elab_as_elim] theorem chk_dict0 {P:Expr→Prop} {g k e} (h:aS g k .dict0 e=true) (q:∀ p,P (.Dict [] [] p)):P e:=onDic_ok h fun a b p h=>nilOf h fun h=>nil_e h (q p)
@[elab_as_elim] theorem chk_comp {P:Expr→Prop} {g k m elt iter cond e} (h:aS g k (.comp m elt iter cond) e=true) (q:∀ x v pv it ifs scope p,compOk k scope v=true→dH it=true→aS g k iter it=true→aS g (k.comp scope v) elt x=true→chkC g (k.comp scope v) cond ifs=true→P (.ListComp x [⟨.Name v pv,it,ifs,0⟩] scope p)):P e:=
  onLC_ok h fun x gs sc p h=>on1_ok h fun c h=>by
    obtain ⟨t,it,ifs,z⟩:=c
    exact dU (P:=fun t=>P (.ListComp x [⟨t,it,ifs,z⟩] sc p)) h fun v pv h=>lem' (P:=fun z=>P (.ListComp x [⟨.Name v pv,it,ifs,z⟩] sc p)) h fun h=>q x v pv it ifs sc p (a1 h) (a1 (a2 h)) (a1 (a2 (a2 h))) (a1 (a2 (a2 (a2 h)))) (a2 (a2 (a2 (a2 h))))
@[elab_as_elim] theorem chk_cmp {P:Expr→Prop} {g k o a b e} (h:aS g k (.cmp o a b) e=true) (q:∀ x y p,dH y=true→aS g k a x=true→aS g k b y=true→P (.Compare x [cmOf o] [y] p)):P e:=
  onCmp_ok h fun x os es p h=>on1_ok h fun op h=>on1_ok h fun y h=>lem h fun h=>q x y p (a1 h) (a1 (a2 h)) (a2 (a2 h))
@[elab_as_elim] theorem chk_cmp2 {P:Expr→Prop} {g k o a b o' d e} (h:aS g k (.cmp2 a o b o' d) e=true) (q:∀ x y z p,dH z=true→aS g k a x=true→aS g k b y=true→aS g k d z=true→P (.Compare x [cmOf o,cmOf o'] [y,z] p)):P e:=
  onCmp_ok h fun x os es p h=>on2_ok h fun op op' h=>on2_ok h fun y z h=>lem h fun h=>lem h fun h=>q x y z p (a1 h) (a1 (a2 h)) (a1 (a2 (a2 h))) (a2 (a2 (a2 h)))
@[elab_as_elim] theorem chk_call {P:Expr→Prop} {g k f l e} (h:aS g k (.call f l) e=true) (q:∀ x px es p,k.gn x=true→g.fn.lookup x=some f→cH g k l es=true→P (.Call (.Name x px) es [] p))
    (q':∀ x px at_ apos es p,k.gn x=true→g.cm.lookup (x,at_)=some f→(apos.endLine ==p.line)=true→es.length < 30→cH g k l es=true→P (.Call (.Attribute (.Name x px) at_ apos) es [] p)):P e:=
  onCall_ok h fun fe es ks p h=>nilOf h fun h=>((Bool.or_eq_true _ _).mp (a2 h)).elim (fun h1=>dU (P:=fun fe=>P (.Call fe es [] p)) h1 fun x px h1=>q x px es p (a1 h1) (beq_iff_eq.mp (a2 h1)) (a1 h))
    fun h1=>onAt_ok (P:=fun fe=>P (.Call fe es [] p)) h1 fun b a ap h1=>dU (P:=fun b=>P (.Call (.Attribute b a ap) es [] p)) h1 fun x px h1=>q' x px a ap es p (a1 h1) (beq_iff_eq.mp (a1 (a2 h1))) (a1 (a2 (a2 h1))) (of_decide_eq_true (a2 (a2 (a2 h1)))) (a1 h)
@[elab_as_elim] theorem chk_new {P:Expr→Prop} {g k f l e} (h:aS g k (.new f l) e=true) (q:∀ x px es p,k.gn x=true→g.cl.lookup x=some f→cH g k l es=true→P (.Call (.Name x px) es [] p)):P e:=
  onCall_ok h fun fe es ks p h=>nilOf h fun h=>dU h fun x px h=>q x px es p (a1 h) (beq_iff_eq.mp (a1 (a2 h))) (a2 (a2 h))
@[elab_as_elim] theorem chk_blt {P:Expr→Prop} {g k b l e} (h:aS g k (.blt b l) e=true) (q:∀ px es p,k.gn (PySem.Str.ofString (bltName b))=true→g.bl.contains (PySem.Str.ofString (bltName b))=true→cH g k l es=true→P (.Call (.Name (PySem.Str.ofString (bltName b)) px) es [] p)):P e:=
  onCall_ok h fun fe es ks p h=>nilOf h fun h=>dU h fun x px h=>lem' (P:=fun x=>(k.gn x && (g.bl.contains x && cH g k l es))=true→P (.Call (.Name x px) es [] p)) h (fun zz h=>q px es p (a1 h) (a1 (a2 h)) (a2 (a2 h))) (a2 h)
@[elab_as_elim] theorem chk_meth {P:Expr→Prop} {g k o a l e} (h:aS g k (.aV o a l) e=true) (q:∀ x apos es p,cA x=true→(apos.endLine ==p.line)=true→es.length < 30→aS g k o x=true→cH g k l es=true→P (.Call (.Attribute x (aH a) apos) es [] p)):P e:=
  onCall_ok h fun fe es ks p h=>nilOf h fun h=>onAt_ok h fun x at_ ap h=>lem h fun h=>q x ap es p (a1 h) (a1 (a2 h)) (of_decide_eq_true (a1 (a2 (a2 h)))) (a1 (a2 (a2 (a2 h)))) (a2 (a2 (a2 (a2 h))))
@[elab_as_elim] theorem chk_attr {P:Expr→Prop} {g k o a e} (h:aS g k (.attr o a) e=true) (q:∀ x p,cA x=true→aS g k o x=true→P (.Attribute x (aH a) p)):P e:=onAt_ok h fun x at_ p h=>lem h fun h=>q x p (a1 h) (a2 h)
@[elab_as_elim] theorem chk_sliceTo {P:Expr→Prop} {g k m o j e} (h:aS g k (.sliceTo m o j) e=true) (q:∀ x kk p1 p2 p,aS g k o x=true→P (.Subscript x (.Slice .none (some (.Constant (.int j) kk p1)) .none p2) p)):P e:=
  onSub_ok h fun x y p h=>onSl_ok (P:=fun y=>P (.Subscript x y p)) h fun a b c p2 h=>noneOf h fun h=>noneOf h fun h=>onS_ok h fun m h=>onK_ok (P:=fun m=>P (.Subscript x (.Slice none (some m) none p2) p)) h fun c kk p1 h=>onInt_ok h fun i h=>lem h fun h=>q x kk p1 p2 p h
@[elab_as_elim] theorem chk_sliceFrom {P:Expr→Prop} {g k m o j e} (h:aS g k (.sliceFrom m o j) e=true) (q:∀ x kk p1 p2 p,aS g k o x=true→P (.Subscript x (.Slice (some (.Constant (.int j) kk p1)) .none .none p2) p)):P e:=
  onSub_ok h fun x y p h=>onSl_ok (P:=fun y=>P (.Subscript x y p)) h fun a b c p2 h=>noneOf h fun h=>noneOf h fun h=>onS_ok h fun m h=>onK_ok (P:=fun m=>P (.Subscript x (.Slice (some m) none none p2) p)) h fun c kk p1 h=>onInt_ok h fun i h=>lem h fun h=>q x kk p1 p2 p h
@[elab_as_elim] theorem chk_cons {P:List Expr→Prop} {g k a l es} (h:cH g k (a :: l) es=true) (q:∀ e t,notStar e=true→aS g k a e=true→cH g k l t=true→P (e :: t)):P es:=onC_ok h fun e t h=>q e t (a1 h) (a1 (a2 h)) (a2 (a2 h))
theorem and_c {x:XE} {l:List XE} {e:Expr} {t:List Expr} (hx:Snd c n C k x e) (hl:cH c.gt k l t=true) (h:SndAnd c n C k l t):SndAnd c n C k (x :: l) (e :: t):=by
  cases l with
  | nil=>exact nil_e (P:=fun t=>SndAnd c n C k [x] (e :: t)) hl (sndAnd_one hx)
  | cons y l=>exact chk_cons (P:=fun t=>SndAnd c n C k (y :: l) t→SndAnd c n C k (x :: y :: l) (e :: t)) hl (fun e' t zz zz zz h=>sndAnd_cons hx h) h
theorem or_c {x:XE} {l:List XE} {e:Expr} {t:List Expr} (hx:Snd c n C k x e) (hl:cH c.gt k l t=true) (h:SndOr c n C k l t):SndOr c n C k (x :: l) (e :: t):=by
  cases l with
  | nil=>exact nil_e (P:=fun t=>SndOr c n C k [x] (e :: t)) hl (sndOr_one hx)
  | cons y l=>exact chk_cons (P:=fun t=>SndOr c n C k (y :: l) t→SndOr c n C k (x :: y :: l) (e :: t)) hl (fun e' t zz zz zz h=>sndOr_cons hx h) h
noncomputable def M1 (c:Cx) (n:Nat) (C:aw) (x:XE):Prop:=∀ {k:Ck} {e:Expr},aS c.gt k x e=true→Snd c n C k x e
structure M2 (c:Cx) (n:Nat) (C:aw) (l:List XE):Prop where
  sl:∀ {k:Ck} {es:List Expr},cH c.gt k l es=true→SndL c n C k l es
  sa:∀ {k:Ck} {es:List Expr},cH c.gt k l es=true→SndAnd c n C k l es
  so:∀ {k:Ck} {es:List Expr},cH c.gt k l es=true→SndOr c n C k l es
noncomputable def M3 (c:Cx) (n:Nat) (C:aw) (x:Option XE):Prop:=∀ {k:Ck} {es:List Expr},chkC c.gt k x es=true→SndC c n C k x es
theorem m_nil:M2 c n C []:=⟨fun h=>nil_e h sndL_nil,fun h=>nil_e h sndAnd_nil,fun h=>nil_e h sndOr_nil⟩
theorem m_cons {x:XE} {l:List XE} (hx:M1 c n C x) (hl:M2 c n C l):M2 c n C (x :: l):=
  ⟨fun h=>chk_cons h fun e t h1 h2 h3=>sndL_cons h1 (hx h2) (hl.sl h3),fun h=>chk_cons h fun e t h1 h2 h3=>and_c (hx h2) h3 (hl.sa h3),fun h=>chk_cons h fun e t h1 h2 h3=>or_c (hx h2) h3 (hl.so h3)⟩
theorem m_c0:M3 c n C none:=fun {k es} h=>nil_e h sndC_none
theorem m_c1 {x:XE} (hx:M1 c n C x):M3 c n C (some x):=fun {k es} h=>on1_ok h fun e h=>sndC_some (hx h)
theorem m_comp {m:Bool} {x i:XE} {d:Option XE} (h1:M1 c n C x) (h2:M1 c n C i) (h3:M3 c n C d):M1 c n C (.comp m x i d):=fun {k e} h=>chk_comp h fun x v pv it ifs sc p c1 c2 c3 c4 c5=>aQ (snd_comp c1 c2 (h2 c3) (h1 c4) (h3 c5)) rfl
theorem m_call {f:Nat} {l:List XE} (hC:bC c n C) (hl:M2 c n C l):M1 c n C (.call f l):=fun {k e} h=>chk_call h (fun x px es p h1 h2 h3=>aQ (snd_call hC h1 h2 (chkEs_star h3) (hl.sl h3)) rfl) fun x px a ap es p h1 h2 h3 h4 h5=>aQ (snd_callm hC h1 h2 h3 h4 (chkEs_star h5) (hl.sl h5)) rfl
theorem m_new {f:Nat} {l:List XE} (hC:bC c n C) (hl:M2 c n C l):M1 c n C (.new f l):=fun {k e} h=>chk_new h fun x px es p h1 h2 h3=>aQ (snd_new hC h1 h2 (chkEs_star h3) (hl.sl h3)) rfl
theorem m_blt {b:Bl} {l:List XE} (hl:M2 c n C l):M1 c n C (.blt b l):=fun {k e} h=>chk_blt h fun px es p h1 h2 h3=>aQ (snd_blt h1 h2 (chkEs_star h3) (hl.sl h3)) rfl
theorem m_meth {o:XE} {a:Nat} {l:List XE} (hC:bC c n C) (ho:M1 c n C o) (hl:M2 c n C l):M1 c n C (.aV o a l):=fun {k e} h=>chk_meth h fun x ap es p h1 h2 h3 h4 h5=>aQ (snd_meth hC h1 h2 h3 (chkEs_star h5) (ho h4) (hl.sl h5)) rfl
theorem m_bin {o:Op} {a b:XE} (ha:M1 c n C a) (hb:M1 c n C b):M1 c n C (.bin o a b):=fun {k e} h=>chk_bin h fun x y p h1 h2=>aQ (snd_bin (ha h1).1 (hb h2).1) rfl
theorem m_ite {t a b:XE} (ht:M1 c n C t) (ha:M1 c n C a) (hb:M1 c n C b):M1 c n C (.ite t a b):=fun {k e} h=>onIf_ok h fun x y z p h=>snd_ite (ht (a1 h)) (ha (a1 (a2 h))) (hb (a2 (a2 h)))
theorem m_cmp {o:Cm} {a b:XE} (ha:M1 c n C a) (hb:M1 c n C b):M1 c n C (.cmp o a b):=fun {k e} h=>chk_cmp h fun x y p h1 h2 h3=>snd_cmp h1 (ha h2) (hb h3)
theorem m_cmp2 {o o':Cm} {a b d:XE} (ha:M1 c n C a) (hb:M1 c n C b) (hd:M1 c n C d):M1 c n C (.cmp2 a o b o' d):=fun {k e} h=>chk_cmp2 h fun x y z p h1 h2 h3 h4=>snd_cmp2 h1 (ha h2) (hb h3) (hd h4)
theorem m_idx {o i:XE} (ho:M1 c n C o) (hi:M1 c n C i):M1 c n C (.idx o i):=fun {k e} h=>onSub_ok h fun x y p h=>aQ (snd_idx (a1 h) (ho (a1 (a2 h))) (hi (a2 (a2 h)))) rfl
theorem b7 (hC:bC c n C) (x:XE):M1 c n C x:=
  XE.rec (motive_1:=M1 c n C) (motive_2:=M2 c n C) (motive_3:=M3 c n C)
    (fun {k e} h=>chk_none h fun zz zz=>aQ snd_none rfl) (fun b {k e} h=>chk_bool h fun zz zz=>aQ snd_bool rfl) (fun b {k e} h=>chk_int h fun zz zz=>aQ snd_int rfl) (fun b {k e} h=>chk_str h fun zz zz=>aQ snd_str rfl)
    (fun i {k e} h=>dU h fun x p h=>aQ (snd_loc h) rfl) (fun i {k e} h=>chk_gl h fun x p h h'=>aQ (snd_gl h h') rfl)
    (fun l hl {k e} h=>chk_and h fun es p h=>snd_and (hl.sa h)) (fun l hl {k e} h=>chk_or h fun es p h=>snd_or (hl.so h))
    (fun o a b ha hb=>m_bin ha hb) (fun a ha {k e} h=>chk_neg h fun x p h=>aQ (snd_neg (ha h).1) rfl) (fun a ha {k e} h=>chk_not h fun x p h=>snd_not (ha h)) (fun t a b ht ha hb=>m_ite ht ha hb)
    (fun l hl {k e} h=>onTup_ok h fun es kk p h=>aQ (snd_tup (hl.sl h)) rfl) (fun m l hl {k e} h=>onLst_ok h fun es p h=>aQ (snd_lst (hl.sl h)) rfl) (fun {k e} h=>chk_dict0 h fun p=>aQ snd_dict0 rfl)
    (fun m x i d h1 h2 h3=>m_comp h1 h2 h3) (fun o a b ha hb=>m_cmp ha hb) (fun a o b o' d ha hb hd=>m_cmp2 ha hb hd)
    (fun f l hl=>m_call hC hl) (fun f l hl=>m_new hC hl) (fun b l hl=>m_blt hl) (fun o a l ho hl=>m_meth hC ho hl)
    (fun o a ho {k e} h=>chk_attr h fun x p h1 h2=>aQ (snd_attr h1 (ho h2)) rfl) (fun o i ho hi=>m_idx ho hi)
    (fun m o j ho {k e} h=>chk_sliceTo h fun x kk p1 p2 p h=>aQ (snd_sliceTo (ho h)) rfl) (fun m o j ho {k e} h=>chk_sliceFrom h fun x kk p1 p2 p h=>aQ (snd_sliceFrom (ho h)) rfl)
    m_nil (fun x l hx hl=>m_cons hx hl) m_c0 (fun x hx=>m_c1 hx) x
theorem sound_C (hC:bC c n C) (x:Option XE):M3 c n C x:=Option.rec (motive:=M3 c n C) m_c0 (fun x=>m_c1 (b7 hC x)) x
end
section
open PySem PySem.W PySem.Calls PyProof.Rows
noncomputable def chkNs (k:Ck):List Nat→List Expr→Bool
  | [],es=>es.isEmpty
  | i :: is,es=>onC es fun e t=>onNm e fun x=>k.st x i && chkNs k is t
noncomputable def chkT (g:Gt) (k:Ck):XT→Expr→Bool
  | .loc i,e=>onNm e fun x=>k.st x i
  | .tup is,e=>onTup e fun es=>chkNs k is es
  | .attr o a,e=>onAt e fun x at_ _=>aH a ==at_ && aS g k o x
  | .idx o i,e=>onSub e fun x y=>notSlice y && (aS g k o x && aS g k i y)
@[elab_as_elim] theorem chkNs_cons {P:List Expr→Prop} {k:Ck} {i is es} (h:chkNs k (i :: is) es=true) (q:∀ x p t,k.st x i=true→chkNs k is t=true→P (.Name x p :: t)):P es:=onC_ok h fun e t h=>dU h fun x p h=>q x p t (a1 h) (a2 h)
section
variable {c:Cx} {n:Nat} {C:aw} {k:Ck}
theorem At.own_muts {env:Env} {h:Heap} {μ:Mu} {ρ:List V} (z:At c k env h μ ρ):∀ a∈own k env,a∉aM μ:=fun a ha=>by
  rcases List.mem_cons.mp ha with rfl | ha
  · exact z.ok.lap
  · obtain ⟨⟨x,b⟩,hb,rfl⟩:=List.mem_map.mp ha
    exact (z.ok.cap x b (List.mem_filter.mp hb).1).1
noncomputable def SndAs (c:Cx) (n:Nat) (C:aw) (k:Ck) (t:XT) (te:Expr):Prop:=∀ {A:Around},Room A (4*n+5) (16*n+213)→∀ {s:Shared} {μ:Mu} {σ:St} {env:Env} {ρ:List V} {v:V} {u:Value} {ρ':List V} {σ':St},
  c.Rel s.heap μ σ→At c k env s.heap μ ρ→Rep c.fa s.heap μ u v→asgX c.T C t v ρ σ=some (ρ',σ')→Runs c A (own k env) (assign te env u) s μ (fun h' μ' zz=>c.Rel h' μ' σ'∧At c k env h' μ' ρ')
set_option tactic.hygienic true in
theorem names_ok {A:Around} {env:Env}:∀ {is:List Nat} {es:List Expr},chkNs k is es=true→∀ {s:Shared} {μ:Mu} {σ:St} {ρ:List V} {us:List Value} {l:List V},
    c.Rel s.heap μ σ→At c k env s.heap μ ρ→aG c.fa s.heap μ us l→us.length=is.length→
    Runs c A (own k env) (assignInOrder ((assignEach es env).map (·.2)) us) s μ (fun h' μ' zz=>c.Rel h' μ' σ∧At c k env h' μ' (setSlots ρ is l))
  | [],es,h,s,μ,σ,ρ,us,l,hr,z,rs,hl=>by
    refine nil_e h ?_
    intro E Q hQ
    clear h;cases us with
    | cons _ _=>simp at hl
    | nil=>clear es hl;cases rs;exact wpAny_pure (hQ () s.heap s.toks μ (.refl ..) ⟨hr,z⟩)
  | i :: is,es,h,s,μ,σ,ρ,us,l,hr,z,rs,hl=>by
    refine chkNs_cons h fun x p es h1 h2=>?_
    clear h
    cases rs with
    | nil=>simp at hl
    | cons r rs=>
      rename_i u v us l
      intro E Q hQ
      show wpAny _ _ (do holding us (assign (.Name x p) env u);assignInOrder ((assignEach es env).map (·.2)) us) Q E s
      refine wpAny_bind (wpAny_holding (wpAny_assign_Name ((store_ok hr z h1 r).use fun zz h1 bh μ1 x1 zp=>?_)))
      clear r hr p;obtain ⟨e1,r1,z1⟩:=zp
      subst e1
      exact (names_ok (s:={ s with heap:=h1,toks:=bh }) h2 r1 z1 (rs.ext x1 z.xok) (by simpa using hl)).use fun zz h2 bN μ2 x2 p2=>hQ () h2 bN μ2 (x1.trans x2) p2
theorem names_len {k:Ck}:∀ {is:List Nat} {es:List Expr} {env:Env},chkNs k is es=true→(assignEach es env).length=is.length∧(assignEach es env).findIdx? (·.1)=none
  | [],es,_,h=>nil_e h ⟨rfl,rfl⟩
  | i :: is,es,env,h=>by
    refine chkNs_cons h fun x p es zz h=>?_
    refine aY (names_len (env:=env) h) fun h1 h2=>?_
    refine ⟨?_,?_⟩
    · show (assignEach es env).length+1=_
      refine ag h1 ?_;rfl
    · show ((false,assign (.Name x p) env) :: assignEach es env).findIdx? (·.1)=none
      refine ag (List.findIdx?_cons) (ag h2 ?_);rfl
theorem snda_loc {i x p} (h:k.st x i=true):SndAs c n C k (.loc i) (.Name x p):=fun room s μ σ env ρ v u ρ' σ' hr z r ha=>by
  refine dJ (i_asgL ha) fun hi aW zq2=>?_
  clear hi room;subst aW zq2
  clear ha
  intro E Q hQ
  exact wpAny_assign_Name ((store_ok hr z h r).use fun _ h1 bh μ1 x1 ⟨e1,r1,z1⟩=>hQ () h1 bh μ1 x1 (by clear h hQ Q E r z hr u;subst e1;exact ⟨r1,z1⟩))
theorem snda_tup {is es kk p} (h:chkNs k is es=true):SndAs c n C k (.tup is) (.Tuple es kk p):=fun room s μ σ env ρ v u ρ' σ' hr z r ha=>by
  refine E1A4 (i_asgT ha) fun l aW q zq3 zq4=>?_
  subst aW zq3 zq4
  clear ha
  refine E3A4 r.tupI fun a vs e zq3 g hm rs=>?_
  subst zq3
  refine aY (names_len (env:=env) h) fun h1 h2=>?_
  have hlen:=rs.len
  intro E Q hQ
  refine wpAny_assign_Tuple (items:=vs.toArray) room.hh ⟨_,g,rfl,_,rfl⟩ (by rw [h1];simp;lia) h2 fun h' hb=>?_
  have hk:∀ b o,s.heap.get? b=some o→h'.get? b=some o:=fun b o e=>hb b o (Nat.ne_of_lt (Heap.lt_size e)) e
  have x:Ext [] s.heap μ h' μ:=.keeps hk
  exact (names_ok (s:={ s with heap:=h' }) h (hr.grow hk) (z.ext x) (rs.ext x (.nil _)) (by lia)).use fun zz h2 bN μ2 x2 p2=>hQ () h2 bN μ2 ((x.weaken nilS).trans x2) p2
theorem snda_attr {o a x p} (ho:Snd c n C k o x):SndAs c n C k (.attr o a) (.Attribute x (aH a) p):=fun room s μ σ env ρ v u ρ' σ' hr z r ha=>by
  refine E2A3 (i_asgA ha) fun vo σ1 eo h2 zq4=>?_
  subst zq4
  clear ha
  intro E Q hQ
  show wpAny _ _ (do let ov ← holding [u] (eval x env);standAt p.atName;holding [u,ov] (setAttr ov (aH a) u);release [u,ov] []) Q E s
  refine wpAny_bind (wpAny_holding ((ho.1 room hr z eo).use fun ov h1 bh μ1 x1 p1=>wpAny_bind (wpAny_standAt (wpAny_bind (wpAny_holding ?_)))))
  exact (setA_ok (s:={ s with heap:=h1,toks:=bh }) p1.1 p1.2 (r.ext x1 (.nil _)) h2).use fun _ h3 tk3 μ3 x3 ⟨e3,r3⟩=>wpAny_release (hQ () h3 tk3 μ3 ((x1.trans x3).weaken nilS) (by clear ho hQ Q E p1 ov h2 eo σ1 vo r hr u v σ room;subst e3;exact ⟨r3,z.ext (x1.trans x3)⟩))
theorem assign_sub (x y p) (env:Env) (u:Value):∃ f:Value→Value→List Value,assign (.Subscript x y p) env u=(do let ov ← holding [u] (eval x env);let iv ← holding [u,ov] (eval y env);standAt p;holding [u,ov,iv] (setItem ov iv u);release (f ov iv) []):=⟨fun ov iv=>match y with | .Slice _ _ none _=>[iv,u,ov] | _=>[u,ov,iv],rfl⟩
theorem snda_idx {o i x y p} (ho:Snd c n C k o x) (hi:Snd c n C k i y):SndAs c n C k (.idx o i) (.Subscript x y p):=fun room s μ σ env ρ v u ρ' σ' hr z r ha=>by
  refine E4A4 (i_asgI ha) fun vo σ1 vi σ2 eo ei h2 zq7=>?_
  subst zq7
  clear ha
  intro E Q hQ
  refine aN (assign_sub x y p env u) fun f hf=>?_
  refine ag hf ?_
  refine wpAny_bind (wpAny_holding ((ho.1 room hr z eo).use fun ov h1 bh μ1 x1 p1=>wpAny_bind (wpAny_holding ((hi.1 (s:={ s with heap:=h1,toks:=bh }) room p1.1 (z.ext x1) ei).use fun iv h2' bN μ2 x2 p2=>wpAny_bind (wpAny_standAt (wpAny_bind (wpAny_holding ?_)))))))
  have x12:=x1.trans x2
  exact (setItem_ok (s:={ s with heap:=h2',toks:=bN }) p2.1 (p1.2.ext x2 (.nil _)) p2.2 (r.ext x12 (.nil _)) h2).use fun _ h3 tk3 μ3 x3 ⟨e3,r3⟩=>wpAny_release (hQ () h3 tk3 μ3 ((x12.trans x3).weaken nilS) (by clear hi ho hQ Q E p2 x2 iv p1 x1 μ1 bh h1 ov hf f h2 ei eo σ2 vi σ1 vo r hr u v σ room;subst e3;exact ⟨r3,z.ext (x12.trans x3)⟩))
theorem sound_T (hC:bC c n C) {t:XT} {te:Expr} (h:chkT c.gt k t te=true):SndAs c n C k t te:=by
  cases t with
  | loc i=>exact dU h fun x p h=>snda_loc h
  | tup is=>exact onTup_ok h fun x kk p h=>snda_tup h
  | attr o a=>exact onAt_ok h fun x b p h=>lem h fun h=>snda_attr (b7 hC _ h)
  | idx o i=>exact onSub_ok h fun x y p h=>snda_idx (b7 hC _ (a1 (a2 h))) (b7 hC _ (a2 (a2 h)))
end
end
section
open PySem PySem.W PySem.Calls PyProof.Rows
noncomputable def notComp (e:Expr):Bool:=!(e.ctorIdx.beq 8 || e.ctorIdx.beq 9 || e.ctorIdx.beq 10)
noncomputable def isLC (e:Expr):Bool:=e.ctorIdx.beq 8
noncomputable def okVal (te v:Expr):Bool:=te.ctorIdx.beq 23 || (te.ctorIdx.beq 20 || (te.ctorIdx.beq 21 || (te.ctorIdx.beq 25 && !(v.ctorIdx.beq 25))))
theorem ok4 {P:Expr→Prop} {te v:Expr} (h:okVal te v=true) (n:∀ x p,P (.Name x p)) (a:∀ x b p,P (.Attribute x b p)) (s:∀ x y p,P (.Subscript x y p)) (t:∀ l k p,v.ctorIdx.beq 25=false→P (.Tuple l k p)):P te:=by
  rcases (Bool.or_eq_true _ _).mp h with h | h
  · exact Expr.Name.elim te (Nat.eq_of_beq_eq_true h) n
  · rcases (Bool.or_eq_true _ _).mp h with h | h
    · exact Expr.Attribute.elim te (Nat.eq_of_beq_eq_true h) a
    · rcases (Bool.or_eq_true _ _).mp h with h | h
      · exact Expr.Subscript.elim te (Nat.eq_of_beq_eq_true h) s
      · exact Expr.Tuple.elim te (Nat.eq_of_beq_eq_true (a1 h)) fun l k p=>t l k p (Bool.not_eq_true' _ |>.mp (a2 h))
noncomputable def isComp (e:XE):Bool:=e.ctorIdx.beq 15
theorem isComp_ok {e:XE} (h:isComp e=true):∃ m elt it cond,e=.comp m elt it cond:=XE.comp.elim e (Nat.eq_of_beq_eq_true h) fun m elt it cond=>⟨m,elt,it,cond,rfl⟩
noncomputable def isRaise:XS→Bool
  | .raise=>true
  | _=>false
mutual
noncomputable def chkS (g:Gt) (k:Ck):XS→Stmt→Bool
  | .expr e,s=>onEx s fun x=>notComp x && aS g k e x
  | .pass,s=>onPass s true
  | .cont,s=>onCont s true
  | .ret e,s=>onRet s fun o=>onS o fun x=>aS g k e x
  | .ret0,s=>onRet s fun o=>o.isNone && true
  | .asg t e,s=>onAsg s fun l x=>on1 l fun te=>okVal te x && ((notComp x || isLC x && isComp e) && (chkT g k t te && aS g k e x))
  | .aug t o e,s=>onAug s fun te op y=>opOf o ==op && (aS g k e y && (match t with
    | .loc i=>onNm te fun x=>k.nm x i && k.st x i
    | .attr ob a=>onAt te fun x at_ _=>aH a ==at_ && aS g k ob x
    | .idx ob i=>onSub te fun x z=>notSlice z && (aS g k ob x && aS g k i z)
    | .tup _=>false))
  | .ite t a b,s=>onIff s fun x ys zs=>aS g k t x && (chkSs g k a ys && chkSs g k b zs)
  | .while t b,s=>onWh s fun x ys zs=>zs.isEmpty && (aS g k t x && chkSs g k b ys)
  | .for t it b,s=>onFor s fun te x ys zs=>zs.isEmpty && (dH x && (chkT g k t te && (aS g k it x && chkSs g k b ys)))
  | .tryf b f,s=>onTry s fun ys hs es fs=>hs.isEmpty && (es.isEmpty && (!fs.isEmpty && (chkSs g k b ys && chkSs g k f fs)))
  | .raise,_=>true
noncomputable def chkSs (g:Gt) (k:Ck):List XS→List Stmt→Bool
  | [],es=>es.isEmpty
  | s :: l,es=>isRaise s || onC es fun e es=>chkS g k s e && chkSs g k l es
end
@[elab_as_elim] theorem chkSs_cons {P:XS→List Stmt→Prop} {g k s l es} (h:chkSs g k (s :: l) es=true) (r:P .raise es) (q:∀ e t,chkS g k s e=true→chkSs g k l t=true→P s (e :: t)):P s es:=by
  rcases (Bool.or_eq_true _ _).mp h with h1 | h1
  · clear q h;cases s <;> first | exact r | cases h1
  · exact onC_ok h1 fun e t h=>q e t (a1 h) (a2 h)
inductive FlR (fa:Nat→Option Addr) (h:Heap) (μ:Mu):Fl→Flow→Prop where
  | aL:FlR fa h μ .aL .next
  | cnt:FlR fa h μ .cnt .cont
  | ret {v u}:Rep fa h μ u v→FlR fa h μ (.ret v) (.ret u)
theorem FlR.go {fa:Nat→Option Addr} {h:Heap} {μ:Mu} {g:Fl} {f:Flow} (r:FlR fa h μ g f) (bc:∀ w,g≠.ret w):f=.next∨f=.cont:=by
  cases r with
  | aL=>exact .inl rfl
  | cnt=>exact .inr rfl
  | ret r=>exact absurd rfl (bc _)
section
variable {c:Cx} {n:Nat} {C:aw} {k:Ck}
noncomputable def SndS (c:Cx) (n:Nat) (C:aw) (k:Ck) (x:XS) (st:Stmt):Prop:=∀ {A:Around},Room A (4*n+5) (16*n+213)→∀ {s:Shared} {μ:Mu} {σ:St} {env:Env} {ρ:List V} {fl:Fl} {ρ':List V} {σ':St},
  c.Rel s.heap μ σ→At c k env s.heap μ ρ→bP c.T C x ρ σ=some (fl,ρ',σ')→Runs c A (own k env) (exec st env) s μ (fun h' μ' f=>c.Rel h' μ' σ'∧At c k env h' μ' ρ'∧FlR c.fa h' μ' fl f)
noncomputable def SndSs (c:Cx) (n:Nat) (C:aw) (k:Ck) (x:List XS) (st:List Stmt):Prop:=∀ {A:Around},Room A (4*n+5) (16*n+213)→∀ {s:Shared} {μ:Mu} {σ:St} {env:Env} {ρ:List V} {fl:Fl} {ρ':List V} {σ':St},
  c.Rel s.heap μ σ→At c k env s.heap μ ρ→aE c.T C x ρ σ=some (fl,ρ',σ')→Runs c A (own k env) (execs st env) s μ (fun h' μ' f=>c.Rel h' μ' σ'∧At c k env h' μ' ρ'∧FlR c.fa h' μ' fl f)
theorem snds_nil:SndSs c n C k [] []:=fun room s μ σ env ρ fl ρ' σ' hr z h=>by
  refine someT h ?_
  exact fun E Q hQ=>wpAny_execs_nil (hQ _ s.heap s.toks μ (.refl ..) ⟨hr,z,.aL⟩)
theorem snds_raise {l es}:SndSs c n C k (.raise :: l) es:=fun room s μ σ env ρ fl ρ' σ' hr z h=>by
  cases h
theorem snds_cons {x l st es} (hx:SndS c n C k x st) (hl:SndSs c n C k l es):SndSs c n C k (x :: l) (st :: es):=fun room s μ σ env ρ fl ρ' σ' hr z h=>by
  refine E3A2 (i_seq h) fun g ρ1 σ1 hx1 h=>?_
  intro E Q hQ
  refine wpAny_execs_cons ((hx room hr z hx1).use fun f h1 bh μ1 x1 p1=>?_)
  refine dJ p1 fun r1 z1 fl1=>?_
  clear p1
  clear hx hx1 z hr;rcases h with ⟨rfl,h⟩ | ⟨bc,rfl,rfl,rfl⟩
  · clear st;cases fl1
    exact (hl (s:={ s with heap:=h1,toks:=bh }) room r1 z1 h).use fun f h2 bN μ2 x2 p2=>hQ f h2 bN μ2 (x1.trans x2) p2
  · have fin:=hQ f h1 bh μ1 x1 ⟨r1,z1,fl1⟩
    clear st hl hQ z1 r1 x1 h σ' ρ' ρ σ μ room;cases fl1 with
    | aL=>exact absurd rfl bc
    | cnt=>exact fin
    | ret r=>exact fin
theorem snds_pass {p}:SndS c n C k .pass (.Pass p):=fun room s μ σ env ρ fl ρ' σ' hr z h=>by
  refine someT h ?_
  exact fun E Q hQ=>wpAny_Pass (hQ _ s.heap s.toks μ (.refl ..) ⟨hr,z,.aL⟩)
theorem snds_cont {p}:SndS c n C k .cont (.Continue p):=fun room s μ σ env ρ fl ρ' σ' hr z h=>by
  refine someT h ?_
  exact fun E Q hQ=>wpAny_Continue (hQ _ s.heap s.toks μ (.refl ..) ⟨hr,z,.cnt⟩)
theorem snds_ret0 {p}:SndS c n C k .ret0 (.Return .none p):=fun room s μ σ env ρ fl ρ' σ' hr z h=>by
  refine someT h ?_
  exact fun E Q hQ=>wpAny_Return_none (hQ _ s.heap s.toks μ (.refl ..) ⟨hr,z,.ret .none⟩)
theorem snds_ret {x e p} (he:Snd c n C k x e):SndS c n C k (.ret x) (.Return (some e) p):=fun room s μ σ env ρ fl ρ' σ' hr z h=>by
  refine ay (i_ret h) fun v aW ev zq3=>?_
  subst aW zq3
  clear h
  exact fun E Q hQ=>wpAny_Return_some ((he.1 room hr z ev).use fun u h1 bh μ1 x1 p1=>hQ _ h1 bh μ1 (x1.weaken nilS) ⟨p1.1,z.ext x1,.ret p1.2⟩)
theorem not_interactive {env:Env} (h:env.scope.kind=.function):interactive env=false:=by
  unfold interactive;refine ag h ?_;rfl
theorem swaps_no {e:Expr} {t:Option Expr} {l:Nat} {env:Env} (h:notComp e=true):swapsWith e t l env=pure false:=by
  cases e <;> first | rfl | cases h
theorem snds_expr {x e p} (hn:notComp e=true) (he:Snd c n C k x e):SndS c n C k (.expr x) (.Expr e p):=fun room s μ σ env ρ fl ρ' σ' hr z h=>by
  obtain ⟨rfl,w,ev,rfl,hw⟩:=i_expr h
  clear h
  intro E Q hQ
  refine wpAny_Expr ((he.1 room hr z ev).use fun u h1 bh μ1 x1 p1=>?_) (not_interactive z.ok.kind) (swaps_no hn)
  have fin:=hQ .next h1 bh μ1 (x1.weaken nilS) ⟨p1.1,z.ext x1,.aL⟩
  clear he hn ev hQ E x1 z hr ρ' env σ μ room;rcases hw with rfl | ⟨b,rfl⟩
  · refine ag p1.2.noneI ?_;exact fin
  · refine ag p1.2.boolI ?_;exact fin
theorem snds_ite {t a b e ys zs p} (ht:Snd c n C k t e) (ha:SndSs c n C k a ys) (hb:SndSs c n C k b zs):SndS c n C k (.ite t a b) (.If e ys zs p):=fun room s μ σ env ρ fl ρ' σ' hr z h=>by
  refine E3A3 (i_sIte h) fun v σ1 r ev tr h=>?_
  intro E Q hQ
  refine wpAny_If ((ht.2 room hr z ev tr).use fun r' h1 bh μ1 x1 p1=>?_)
  refine ag p1.2 ?_
  clear ht tr ev v hr;cases r
  · exact (hb (s:={ s with heap:=h1,toks:=bh }) room p1.1 (z.ext x1) h).use fun f h2 bN μ2 x2 p2=>hQ f h2 bN μ2 ((x1.weaken nilS).trans x2) p2
  · exact (ha (s:={ s with heap:=h1,toks:=bh }) room p1.1 (z.ext x1) h).use fun f h2 bN μ2 x2 p2=>hQ f h2 bN μ2 ((x1.weaken nilS).trans x2) p2
noncomputable def WInv (c:Cx) (C:aw) (k:Ck) (t:XE) (b:List XS) (env:Env) (s:Shared) (μ:Mu) (fl:Fl) (ρ':List V) (σ':St) (f:Nat) (s':Shared):Prop:=∀ G:Shared→Prop,(∀ (h':Heap) (tk:Nat) (μ':Mu) (σ1:St) (ρ1:List V),Ext (own k env) s.heap μ h' μ'→c.Rel h' μ' σ1→At c k env h' μ' ρ1→whileX (fun ρ σ=>ae c.T C t ρ σ) (fun ρ σ=>aE c.T C b ρ σ) f ρ1 σ1=some (fl,ρ',σ')→G { s with heap:=h',toks:=tk })→G s'
theorem WInv.mk {c:Cx} {C:aw} {k:Ck} {t:XE} {b:List XS} {env:Env} {s:Shared} {μ:Mu} {fl:Fl} {ρ':List V} {σ':St} {f:Nat} {h':Heap} (tk:Nat) {μ':Mu} {σ1:St} {ρ1:List V} (x:Ext (own k env) s.heap μ h' μ') (r:c.Rel h' μ' σ1) (z:At c k env h' μ' ρ1) (hw:whileX (fun ρ σ=>ae c.T C t ρ σ) (fun ρ σ=>aE c.T C b ρ σ) f ρ1 σ1=some (fl,ρ',σ')):WInv c C k t b env s μ fl ρ' σ' f { s with heap:=h',toks:=tk }:=fun G q=>q h' tk μ' σ1 ρ1 x r z hw
theorem snds_while {t b e ys p} (ht:Snd c n C k t e) (hb:SndSs c n C k b ys):SndS c n C k (.while t b) (.While e ys [] p):=fun room s μ σ env ρ fl ρ' σ' hr z h=>by
  replace h:=x_while.symm.trans h
  intro E Q hQ
  refine wpAny_While ?_
  refine codeAny_whileLoop (WInv c C k t b env s μ fl ρ' σ') ?_ 64 (.mk (s:=s) s.toks (.refl ..) hr z h)
  refine fun f s' q=>q _ fun h' tk μ' σ1 ρ1 x r1 z1 hw=>?_
  clear q
  clear s' h z hr ρ σ;cases f with
  | zero=>cases hw
  | succ f=>
  refine E3A3 (i_while hw) fun v σ2 r ev tr hw=>?_
  refine (ht.2 (s:={ s with heap:=h',toks:=tk }) room r1 z1 ev tr).use fun r' h2 bN μ2 x2 p2=>?_
  refine aY p2 fun r2 e=>?_
  clear p2
  refine ag e ?_
  clear ev tr e r1
  have x':=x.trans (x2.weaken (Y:=own k env) nilS)
  clear ht r' v x;rcases hw with ⟨rfl,rfl,rfl,rfl⟩ | ⟨rfl,g,ρ3,σ3,eb,hw⟩
  · refine ag (if_neg nofun) ?_
    exact wpAny_execs_nil (hQ _ h2 bN μ2 x' ⟨r2,z1.ext x2,.aL⟩)
  · refine ag (if_pos rfl) ?_
    refine (hb (s:={ s with heap:=h2,toks:=bN }) room r2 (z1.ext x2) eb).use fun fw h3 tk3 μ3 x3 p3=>?_
    refine dJ p3 fun r3 z3 fl3=>?_
    clear p3
    clear eb r2
    clear hb x2 σ2 z1 μ' tk h' room;rcases hw with ⟨w,rfl,rfl,rfl,rfl⟩ | ⟨bc,hw⟩
    · clear e hw ρ1 σ1;cases fl3 with | ret rv=>exact hQ _ h3 tk3 μ3 (x'.trans x3) ⟨r3,z3,.ret rv⟩
    · refine (fl3.go bc).elim (fun e=>?_) fun e=>?_
      all_goals
        refine ag e ?_
        exact aI f (Nat.lt_succ_self _) (.mk tk3 (x'.trans x3) r3 z3 hw)
theorem let_ok {A:Around} {s:Shared} {μ:Mu} {it:Addr} {src:V} {i:Nat} {te:Expr} {v:Value} {E:Value→Shared→Prop} {Q:Unit→Shared→Prop} (hi:ItAt c s.heap μ it src i) (h:Q () s):wpAny (model c.prog c.w) A (letOwnedTupleGo te (.ref it) v) Q E s:=by
  have key:∀ (T:String) (vs:Array Value) (o:Obj),s.heap.get? it=some o→o.cls=.type T→o.data=.fields vs→(["enumerate", "zip", "dict_itemiterator", "dict_reverseitemiterator", "odict_iterator", "itertools.zip_longest", "itertools.pairwise"].contains T)=false→wpAny (model c.prog c.w) A (letOwnedTupleGo te (.ref it) v) Q E s:=by
    intro T vs o ho hc hd hT
    have k2:∀ es p,wpAny (model c.prog c.w) A (letOwnedTupleGo (.List es p) (.ref it) v) Q E s:=fun es p=>by
      unfold letOwnedTupleGo
      dsimp only
      cases v <;> first
        | exact wpAny_pure h
        | (refine wpAny_bind (wpAny_load ho ?_)
           refine ag hc (ag hd ?_)
           dsimp only
           refine ag (hT ..) (ag (Bool.false_and ..) (ag (if_neg nofun ..) ?_))
           exact wpAny_pure h)
    clear ho hc hd hT hi
    cases te <;> first | exact wpAny_pure h | exact k2 [] ‹Pos›
  cases src <;> first | exact hi.elim | skip
  · obtain ⟨a,vs,e,g,ha,r,o,ho,hc,hd⟩:=hi
    exact key _ _ o ho hc hd (by decide)
  · obtain ⟨a,vs,e,g,ha,r,o,ho,hc,hd⟩:=hi
    exact key _ _ o ho hc hd (by decide)
  · obtain ⟨p,hp,o,ho,hc,hd⟩:=hi
    exact key _ _ o ho hc hd (by decide)
  · exact key _ _ _ hi rfl rfl (by decide)
noncomputable def FInv (c:Cx) (C:aw) (k:Ck) (t:XT) (b:List XS) (env:Env) (s:Shared) (hb1:Heap) (μa:Mu) (I:Addr) (src:V) (fl:Fl) (ρ':List V) (σ':St) (f:Nat) (s':Shared):Prop:=∀ G:Shared→Prop,(∀ (i:Nat) (h':Heap) (tk:Nat) (μ':Mu) (σ2:St) (ρ2:List V),Ext (I :: own k env) hb1 (μa.bS I) h' μ'→c.Rel h' μ' σ2→At c k env h' μ' ρ2→ItAt c h' μ' I src i→I∈μ'.z→loopX (turnX c.T C t b) src f i ρ2 σ2=some (fl,ρ',σ')→G { s with heap:=h',toks:=tk })→G s'
theorem FInv.mk {c:Cx} {C:aw} {k:Ck} {t:XT} {b:List XS} {env:Env} {s:Shared} {hb1:Heap} {μa:Mu} {I:Addr} {src:V} {fl:Fl} {ρ':List V} {σ':St} {f i:Nat} {h':Heap} (tk:Nat) {μ':Mu} {σ2:St} {ρ2:List V} (x:Ext (I :: own k env) hb1 (μa.bS I) h' μ') (r:c.Rel h' μ' σ2) (z:At c k env h' μ' ρ2) (hi:ItAt c h' μ' I src i) (hz:I∈μ'.z) (hw:loopX (turnX c.T C t b) src f i ρ2 σ2=some (fl,ρ',σ')):FInv c C k t b env s hb1 μa I src fl ρ' σ' f { s with heap:=h',toks:=tk }:=fun G q=>q i h' tk μ' σ2 ρ2 x r z hi hz hw
theorem snds_for {t it b te e ys p} (hset:dH e=true) (ht:SndAs c n C k t te) (hi:Snd c n C k it e) (hb:SndSs c n C k b ys):SndS c n C k (.for t it b) (.For te e ys [] p):=fun room s μ σ env ρ fl ρ' σ' hr z h=>by
  refine E2A3 (i_for h) fun src σ1 ei hok h=>?_
  intro E Q hQ
  refine wpAny_For ((hi.1 room hr z ei).use fun u ha tka μa xa zp=>?_) (fun x=>set_eq hset x)
  clear hi hset ei hr;obtain ⟨ra,rep⟩:=zp
  have hsza:=c.size ra
  refine pyIter_ok (s:={ s with heap:=ha,toks:=tka }) ra rep hok fun hb1 ob hkb hob hit=>?_
  have za:=z.ext xa
  have fit:ha.get? ha.objs.size=none:=aJ _ (Nat.le_refl _)
  have fs:s.heap.get? ha.objs.size=none:=by
    clear hb ht za hsza rep ra hQ Q E hit hob hkb ob hb1 tka u hok h z env room;cases q:s.heap.get? ha.objs.size with
    | none=>rfl
    | some o=>clear σ1 src h σ' ρ' fl ρ σ;obtain ⟨o',q'⟩:=xa.alive _ _ q;replace q':=fit▸q';clear fit xa μa μ;cases q'
  have xb:=Ext.bS (μ:=μa) hkb fit hsza
  have rb:c.Rel hb1 (μa.bS ha.objs.size) σ1:=⟨ra.1.ext xb (by simp),ra.2.bS hkb fit hsza hob⟩
  have zb:=za.ext xb
  generalize hIt:ha.objs.size=I at*
  refine codeAny_forLoop_any (FInv c C k t b env s hb1 μa I src fl ρ' σ') ?_ 64 (.mk tka (.refl ..) rb zb hit (by simp [Mu.bS]) h)
  refine fun f s' q=>q _ fun i h' tk μ' σ2 ρ2 x r2 z2 hi2 hz2 hw=>?_
  clear q
  clear zb rb za hsza rep ra s' hit hob ob u hok z;cases f with
  | zero=>cases hw
  | succ f=>
  refine aq (i_loop hw) fun o hnx hw=>?_
  cases o with
  | none=>
    refine dJ hw fun e1 e2 e3=>?_
    clear hw
    clear hb ht xb hw;subst e1 e2 e3
    refine next_none (s:={ s with heap:=h',toks:=tk }) room.hh r2 hi2 hnx fun h'' hbut=>?_
    refine aq (Ext.dropped (h:=ha) (h₁:=hb1) hkb fit x hbut) fun μf xf df=>?_
    have xt:Ext (own k env) s.heap μ h'' μf:=((xa.weaken (Y:=I :: own k env) (by simp)).trans xf).fresh fun a hm=>by
      clear fit hQ Q E df xf μf hbut h'' hnx hz2 hi2 z2 r2 tk i f hkb x xa μa tka h μ room;rcases List.mem_cons.mp hm with rfl | hm
      · exact .inr fs
      · exact .inl hm
    exact wpAny_execs_nil (hQ _ h'' tk μf xt ⟨r2.drop df,z2.drop df (r2.2.z_chg hz2),.aL⟩)
  | some xv=>
    refine E3A2 hw fun g ρ4 σ4 eb hw=>?_
    rename_i zz;clear zz
    refine dP (i_turn eb) fun ρ3 σ3 ea eb=>?_
    have hIc:I∉chg μ':=r2.2.z_chg hz2
    refine next_some (s:={ s with heap:=h',toks:=tk }) r2 hz2 hi2 hnx fun wv h3 tk3 x3 ok3 r3 hi3 rw3=>?_
    have z3:=z2.extz x3 (fun a hm=>by refine ag (List.mem_singleton.mp hm) ?_;exact hz2)
    refine let_ok (s:={ s with heap:=h3,toks:=tk3 }) hi3 ?_
    have hIo:I∉own k env:=fun hm=>z_of (z3.own_muts I hm) hz2
    clear hnx hi2 r2 z2
    refine (ht (s:={ s with heap:=h3,toks:=tk3 }) room r3 z3 rw3 ea).use fun _ h4 tk4 μ4 x4 p4=>(hb (s:={ s with heap:=h4,toks:=tk4 }) room p4.1 p4.2 eb).use fun fw h5 tk5 μ5 x5 p5=>?_
    have x45:=x4.trans x5
    have xt:Ext (I :: own k env) hb1 (μa.bS I) h5 μ5:=x.trans ((x3.weaken (Y:=I :: own k env) (by simp)).trans (x45.weaken (Y:=I :: own k env) (fun a ha=>List.mem_cons_of_mem _ ha)))
    have hi5:ItAt c h5 μ5 I src (i+1):=(hi3.ext x45 z3.xok hIc hIo)
    refine dJ p5 fun r5 z5 fl5=>?_
    clear p5
    clear ea eb p4 rw3 hi3 x ok3 r3 hIc
    clear hb ht hIo z3 fit x5 x4 μ4 x3 wv σ3 ρ3 eb tk h' hkb h room;rcases hw with ⟨w,rfl,rfl,rfl,rfl⟩ | ⟨bc,hw⟩
    · have xt:Ext (own k env) s.heap μ h5 μ5:=(((xa.trans xb).weaken (Y:=I :: own k env) (by simp)).trans xt).fresh (Y:=I :: own k env) fun a hm=>by
        clear xv hi5 x45 xt xb hQ Q E fl5 z5 r5 μ5 tk5 h5 fw tk4 h4 tk3 h3 hw hz2 ρ2 σ2 μ' i f hb1 xa μa tka σ1 src h σ' ρ' ρ σ μ;rcases List.mem_cons.mp hm with rfl | hm
        · exact .inr fs
        · exact .inl hm
      clear xv hi5 x45 xb fs tk3 h3 hw hz2 ρ2 σ2 μ' i xa tka σ1 h ρ σ;cases fl5 with | ret rv=>exact hQ _ h5 tk5 μ5 xt ⟨r5,z5,.ret rv⟩
    · refine (fl5.go bc).elim (fun e=>?_) fun e=>?_
      all_goals
        refine ag e ?_
        exact aI f (Nat.lt_succ_self _) (.mk tk5 xt r5 z5 hi5 (x45.zin hz2) hw)
theorem snds_tryf {b f ys y zs p} (hb:SndSs c n C k b ys) (hf:SndSs c n C k f (y :: zs)):SndS c n C k (.tryf b f) (.Try ys [] [] (y :: zs) p):=by
  intro A room s μ σ env ρ fl ρ' σ' hr z h
  refine dP (i_try h) fun ρ1 σ1 eb ef=>?_
  clear h
  intro E Q hQ
  refine wpAny_Try_finally ((hb room hr z eb).use fun fw h1 bh μ1 x1 zp=>?_)
  clear hb z hr eb;obtain ⟨q1,z1,fl1⟩:=zp
  have run:∀ E',wpAny (model c.prog c.w) A (execs (y :: zs) env) (fun g s'=>match g with | .next=>Q fw s' | g=>Q g s') E' { s with heap:=h1,toks:=bh }:=fun E'=>
    (hf (s:={ s with heap:=h1,toks:=bh }) room q1 z1 ef).use fun g h2 bN μ2 x2 ⟨q2,z2,fl2⟩=>by
      clear hf q1 E ρ σ room A E' ef σ1;cases fl2
      refine hQ fw h2 bN μ2 (x1.trans x2) ⟨q2,z2,?_⟩
      clear y hQ Q x1;cases fl1 with
      | aL=>exact .aL
      | cnt=>exact .cnt
      | ret r=>exact .ret (r.ext x2 z1.xok)
  clear hf z1 q1 hQ ρ σ room x1 ef σ1 ρ1;cases fl1 with
  | aL=>exact wpAny_execs_nil (run _)
  | cnt=>exact run _
  | ret r=>exact run _
end
end
section
open PySem PySem.W PySem.Calls PyProof.Rows
section
variable {c:Cx} {n:Nat} {C:aw} {k:Ck}
theorem aug_ok {A:Around} {s:Shared} {μ:Mu} {o:Op} {u t:Value} {va vb v:V} (ra:Rep c.fa s.heap μ u va) (rb:Rep c.fa s.heap μ t vb) (h:augV o va vb=some v):
    Runs c A [] (inplaceOp (opOf o) u t) s μ (fun h' μ' z=>h'=s.heap∧μ'=μ∧Rep c.fa s.heap μ z v):=by
  replace h:=onI_ok h
  refine aq h fun i aW h=>?_
  rename_i zz;clear zz
  subst aW
  replace h:=onI_ok h
  refine aq h fun j aW h=>?_
  rename_i zz;clear zz
  subst aW
  refine aN ra.intI fun t1 aW=>?_
  clear ra;subst aW
  refine aN rb.intI fun t2 aW=>?_
  clear rb;subst aW
  exact (augs_ok h).mono fun h' μ' z x ⟨e1,e2,i,t,e3,e4⟩=>by clear A t2 t1 h;subst e1 e2 e3 e4;exact ⟨rfl,rfl,.int i t⟩
theorem snds_aug_loc {i o e x px y p} (h1:k.nm x i=true) (h2:k.st x i=true) (he:Snd c n C k e y):SndS c n C k (.aug (.loc i) o e) (.AugAssign (.Name x px) (opOf o) y p):=fun room s μ σ env ρ fl ρ' σ' hr z h=>by
  obtain ⟨rfl,vx,vy,v,hx,ey,hv,rfl⟩:=i_augL h
  clear h
  intro E Q hQ
  refine wpAny_AugAssign_Name ((load_ok z h1 hx).use fun u h1' bh μ1 x1 zp=>?_)
  clear h1 hx x1;obtain ⟨e1,e2,ru⟩:=zp
  subst e1 e2
  refine (he.1 (s:={ s with toks:=bh }) room hr z ey).use fun t h3 tk3 μ3 x3 p3=>?_
  refine (aug_ok (s:={ s with heap:=h3,toks:=tk3 }) (ru.ext x3 (.nil _)) p3.2 hv).use fun w h4 tk4 μ4 x4 zp=>?_
  clear he ru hv ey vx x4 u hr σ room;obtain ⟨e1,e2,rw_⟩:=zp
  subst e1 e2
  exact (store_ok (s:={ s with heap:=_,toks:=tk4 }) p3.1 (z.ext x3) h2 rw_).use fun _ h5 tk5 μ5 x5 ⟨e5,r5,z5⟩=>by
    clear h2 rw_ E w p3 tk3 t z;subst e5
    exact hQ _ h5 tk5 _ ((x3.weaken nilS).trans x5) ⟨r5,z5,.aL⟩
theorem snds_aug_attr {ob a o e x px y p} (ho:Snd c n C k ob x) (he:Snd c n C k e y):SndS c n C k (.aug (.attr ob a) o e) (.AugAssign (.Attribute x (aH a) px) (opOf o) y p):=fun room s μ σ env ρ fl ρ' σ' hr z h=>by
  obtain ⟨rfl,vo,σ2,old,vy,σ3,v,eo,hold,ey,hv,hs,rfl⟩:=i_augA h
  clear h
  intro E Q hQ
  refine wpAny_AugAssign_AttributeAny ((ho.1 room hr z eo).use fun u h1 bh μ1 x1 p1=>(getA_ok (s:={ s with heap:=h1,toks:=bh }) p1.1 p1.2 hold).use fun w h2 bN μ2 x2 zp=>?_)
  clear ho hold eo x2 hr σ;obtain ⟨e1,e2,rw_⟩:=zp
  subst e1 e2
  refine (he.1 (s:={ s with heap:=_,toks:=bN }) room p1.1 (z.ext x1) ey).use fun t h3 tk3 μ3 x3 p3=>?_
  refine (aug_ok (s:={ s with heap:=h3,toks:=tk3 }) (rw_.ext x3 (.nil _)) p3.2 hv).use fun w' h4 tk4 μ4 x4 zp=>?_
  clear he rw_ hv ey old x4 w bh room;obtain ⟨e1,e2,rw'⟩:=zp
  subst e1 e2
  refine (setA_ok (s:={ s with heap:=_,toks:=tk4 }) p3.1 (p1.2.ext x3 (.nil _)) rw' hs).use fun zz h5 tk5 μ5 x5 zp=>?_
  clear rw' hs v E zz w' p3 tk3 t p1 u;obtain ⟨e5,r5⟩:=zp
  clear σ3 vy σ2 vo;subst e5
  have x:=(x1.trans x3).trans x5
  exact hQ _ h5 tk5 _ (x.weaken nilS) ⟨r5,z.ext x,.aL⟩
theorem snds_aug_idx {ob i o e x zz px y p} (hz:notSlice zz=true) (ho:Snd c n C k ob x) (hi:Snd c n C k i zz) (he:Snd c n C k e y):SndS c n C k (.aug (.idx ob i) o e) (.AugAssign (.Subscript x zz px) (opOf o) y p):=fun room s μ σ env ρ fl ρ' σ' hr z h=>by
  obtain ⟨rfl,vo,σ2,vi,σ2',old,vy,σ3,v,eo,ei,hold,ey,hv,hs,rfl⟩:=i_augI h
  clear h
  intro E Q hQ
  refine wpAny_AugAssign_SubscriptAny ((ho.1 room hr z eo).use fun u h1 bh μ1 x1 p1=>(hi.1 (s:={ s with heap:=h1,toks:=bh }) room p1.1 (z.ext x1) ei).use fun ui h1' tk1' μ1' x1' p1'=>?_) (by intros;clear hi ho ei eo σ2 E hr σ;cases zz <;> first | rfl | (cases hz))
  have ru:=p1.2.ext x1' (.nil _)
  clear hi ho hz ei eo p1 hr σ;obtain ⟨_,_,_,_,_,run⟩:=getItem_ok (c:=c) (A:=_) (s:={ s with heap:=h1',toks:=tk1' }) p1'.1.2 ru p1'.2 hold
  refine run.use fun w h2 bN μ2 x2 zp=>?_
  clear run hold σ2 x2;obtain ⟨e1,e2,rw_⟩:=zp
  subst e1 e2
  refine (he.1 (s:={ s with heap:=_,toks:=bN }) room p1'.1 ((z.ext x1).ext x1') ey).use fun t h3 tk3 μ3 x3 p3=>?_
  refine (aug_ok (s:={ s with heap:=h3,toks:=tk3 }) (rw_.ext x3 (.nil _)) p3.2 hv).use fun w' h4 tk4 μ4 x4 zp=>?_
  clear he rw_ hv ey old x4 w room;obtain ⟨e1,e2,rw'⟩:=zp
  subst e1 e2
  refine (setItem_ok (s:={ s with heap:=_,toks:=tk4 }) p3.1 (ru.ext x3 (.nil _)) (p1'.2.ext x3 (.nil _)) rw' hs).use fun zz h5 tk5 μ5 x5 zp=>?_
  clear ru rw' hs v vo E zz w' p3 tk3 t p1';obtain ⟨e5,r5⟩:=zp
  clear σ3 vy σ2' vi zz;subst e5
  have x:=((x1.trans x1').trans x3).trans x5
  exact hQ _ h5 tk5 _ (x.weaken nilS) ⟨r5,z.ext x,.aL⟩
theorem swapped_none {te v:Expr} {env:Env} (h:okVal te v=true):swappedStores [te] v env=pure none:=
  ok4 (P:=fun te=>swappedStores [te] v env=pure none) h (fun _ _=>rfl) (fun _ _ _=>rfl) (fun _ _ _=>rfl) fun l k p hv=>by clear h te;cases v <;> first | rfl | cases hv
theorem each_one {te v:Expr} {env:Env} (h:okVal te v=true):(assignEach [te] env).map (·.2)=[assign te env]:=
  ok4 (P:=fun te=>(assignEach [te] env).map (·.2)=[assign te env]) h (fun _ _=>rfl) (fun _ _ _=>rfl) (fun _ _ _=>rfl) fun _ _ _ _=>rfl
theorem snds_asg_plain {t e te x p} (hv:okVal te x=true) (hs:∀ env:Env,env.scope.kind=.function→(∃ b,swapsWith x (some te) p.line env=pure b) ) (ht:SndAs c n C k t te) (he:Snd c n C k e x):
    ∀ {A:Around},Room A (4*n+5) (16*n+213)→∀ {s:Shared} {μ:Mu} {σ:St} {env:Env} {ρ:List V} {fl:Fl} {ρ':List V} {σ':St},
    swapsWith x (some te) p.line env=pure false→c.Rel s.heap μ σ→At c k env s.heap μ ρ→bP c.T C (.asg t e) ρ σ=some (fl,ρ',σ')→Runs c A (own k env) (exec (.Assign [te] x p) env) s μ (fun h' μ' f=>c.Rel h' μ' σ'∧At c k env h' μ' ρ'∧FlR c.fa h' μ' fl f):=fun room s μ σ env ρ fl ρ' σ' hsw hr z h=>by
  obtain ⟨rfl,v,σ1,ev,ea⟩:=i_asg h
  clear h
  intro E Q hQ
  refine wpAny_Assign_stores ((he.1 room hr z ev).use fun u h1 bh μ1 x1 p1=>?_) hsw (swapped_none hv)
  refine ag (each_one hv) ?_
  exact (ht (s:={ s with heap:=h1,toks:=bh }) room p1.1 (z.ext x1) p1.2 ea).use fun _ h2 bN μ2 x2 ⟨r2,z2⟩=>hQ _ h2 bN μ2 ((x1.weaken nilS).trans x2) ⟨r2,z2,.aL⟩
theorem Ext.letC {X:List Addr} {h0 h h':Heap} {μ μ':Mu} {Cc:Addr} (x:Ext X h0 μ h μ') (hf:h0.get? Cc=none) (hs:Heap.ExtBut Cc h h'):Ext X h0 μ h' μ':=by
  have ne:∀ {b o},h0.get? b=some o→b≠Cc:=fun q z=>by subst z;replace q:=hf▸q;cases q
  refine ⟨fun b o q1 q2 q3=>hs b o (ne q1) (x.keep b o q1 q2 q3),fun b o q=>?_,x.grow⟩
  refine aN (x.alive b o q) fun o' q'=>?_
  exact ⟨o',hs b o' (ne q) q'⟩
theorem snds_asg_comp {i:Nat} {m:Bool} {elt iter:XE} {cond:Option XE} {y:PySem.Str} {py:Pos} {v:PySem.Str} {pv p sp:Pos} {e iterE:Expr} {ifs:List Expr} {scope:Scope} (hst:k.st y i=true) (hok:compOk k scope v=true) (hset:dH iterE=true) (hi:Snd c n C k iter iterE) (he:Snd c n C (k.comp scope v) elt e) (hc:SndC c n C (k.comp scope v) cond ifs):
    SndS c n C k (.asg (.loc i) (.comp m elt iter cond)) (.Assign [.Name y py] (.ListComp e [⟨.Name v pv,iterE,ifs,0⟩] scope p) sp):=by
  intro A room s μ σ env ρ fl ρ' σ' hr z h
  obtain ⟨b,hb⟩:∃ b,swapsWith (.ListComp e [⟨.Name v pv,iterE,ifs,0⟩] scope p) (some (.Name y py)) sp.line env=pure b:=⟨_,rfl⟩
  cases b with
  | false=>exact snds_asg_plain rfl (fun zz zz=>⟨_,rfl⟩) (snda_loc hst) (aQ (snd_comp hok hset hi he hc) rfl) room hb hr z h
  | true=>
    obtain ⟨rfl,val,σ3,hev,ha⟩:=i_asg h
    clear h
    refine E4A4 (i_comp hev) fun src σ1 l σ2 h1 h2 h3 hev=>?_
    refine dJ (i_asgL ha) fun zz aW zq2=>?_
    subst aW zq2
    clear ha
    intro E Q hQ
    refine ag (exec_Assign_Name_used _ _ _ _ hb) ?_
    refine wpAny_bind (wpAny_standAt (wpAny_bind ?_))
    show wpAny _ A (do let _ ← comprehension (.ListComp e [⟨.Name v pv,iterE,ifs,0⟩] scope p) scope env _ (newList []) false (eval iterE env) (some (assign (.Name y py) env))) _ _ s
    refine wpAny_bind (wpAny_mono (comp_core (use:=some (assign (.Name y py) env)) (mm:=m) (Q:=fun zz s'=>Q .next s') room hr z hok hset hi he hc h1 h2 h3 hev fun D Cc h' tk μf mm x r rep hn hC hf h0C=>?_) (fun zz s' hq=>wpAny_pure (wpAny_pure hq)) fun zz zz e=>e)
    have z':=z.ext x
    have n1:env.locals≠Cc:=by
      rintro rfl
      clear hc he hi hset hok hst z' hb hQ Q E hr room A e h0C hC hn rep r x mm μf tk h' D hev h3 h2 h1 σ2 l σ1 src zz;obtain ⟨m',⟨o,_,_,g,_⟩,_⟩:=z.ok.ns
      replace g:=hf▸g;clear scope ifs iterE sp p pv v py y i z hf hev;cases g
    have n2:∀ p∈env.cells,p.2≠Cc:=fun p hp q=>by
      clear hc he hi hset hok hst n1 z' hb hQ Q E hr room A e h0C hC hn rep r x mm μf tk h' D hev h3 h2 h1 σ2 l σ1 src zz;obtain ⟨_,u,o,g,_⟩:=z.ok.cap p.1 p.2 hp
      replace g:=hf▸q▸g;clear scope ifs iterE sp pv v py y i z q hp hf Cc hev;cases g
    have n3:Cc∉own k env:=fun hm=>by
      clear hc he hi hset hok hst z' hb hQ Q E z hr room A e h0C hf hC hn rep r x mm μf tk h' D hev h3 h2 h1 σ2 l σ1 src zz;rcases List.mem_cons.mp hm with q | hm
      · exact n1 q.symm
      · refine aq (List.mem_map.mp hm) fun p hp q=>?_
        exact n2 p (List.mem_filter.mp hp).1 q
    show wpAny _ A (assign (.Name y py) env (.ref D)) _ _ _
    refine wpAny_assign_Name ((store_ok (s:={ s with heap:=h',toks:=tk }) r z' hst rep).use fun _ h5 tk5 μ5 x5 ⟨e5,r5,z5⟩=>?_)
    clear hc he hi hset hok hst z' hb E z hr room A p e rep r D hev h3 h2 h1 σ2 l σ1 src zz;subst e5
    have hn5:h5.Ns Cc mm:=by
      refine E3A2 hn fun o es nn g q=>?_
      clear hn
      exact ⟨o,es,nn,x5.keep _ _ g (cJ hC) n3,q⟩
    refine aI mm hn5 (fun h6 hs6=>?_)
    refine aY (letC r5 hn5 hC h0C hs6.extBut) fun mv r6=>?_
    exact hQ _ h6 tk5 _ (((x.weaken nilS).trans x5).letC hf hs6.extBut) ⟨r6,z5.letC mv hs6.extBut n1 n2,.aL⟩
theorem sound_asg (hC:bC c n C) {t e te x p} (hv:okVal te x=true) (hx:(notComp x || isLC x && isComp e)=true) (ht:chkT c.gt k t te=true) (he:aS c.gt k e x=true):SndS c n C k (.asg t e) (.Assign [te] x p):=by
  have plain:(∀ (env:Env) (l:Nat),swapsWith x (some te) l env=pure false)→SndS c n C k (.asg t e) (.Assign [te] x p):=fun hs A room=>snds_asg_plain hv (fun env _=>⟨false,hs env _⟩) (sound_T hC ht) (b7 hC e he) room (hs _ _)
  rcases (Bool.or_eq_true _ _).mp hx with hn | hx
  · intro A room;exact plain (fun env l=>swaps_no hn) room
  · intro A room s μ σ env ρ fl ρ' σ' hr z hx0
    have h8:=Nat.eq_of_beq_eq_true (a1 hx)
    cases t with
    | loc i=>
      refine E4A1 (isComp_ok (a2 hx)) fun m elt it cond e0=>?_
      subst e0
      clear hx plain hv h8
      revert hx0
      refine dU ht fun x px ht=>?_
      exact chk_comp he fun x1 x2 x3 x4 x5 x6 x7 h1 h2 h3 h4 h5 hx0=>snds_asg_comp ht h1 h2 (b7 hC _ h3) (b7 hC _ h4) (sound_C hC _ h5) room hr z hx0
    | tup is=>exact plain (onTup_ok (P:=fun te=>∀ (env:Env) (l:Nat),swapsWith x (some te) l env=pure false) ht fun a b d zz env l=>Expr.ListComp.elim (motive_1:=fun x=>swapsWith x (some (.Tuple a b d)) l env=pure false) x h8 fun zz zz zz zz=>rfl) room hr z hx0
    | attr o a=>exact plain (onAt_ok (P:=fun te=>∀ (env:Env) (l:Nat),swapsWith x (some te) l env=pure false) ht fun a b d zz env l=>Expr.ListComp.elim (motive_1:=fun x=>swapsWith x (some (.Attribute a b d)) l env=pure false) x h8 fun zz zz zz zz=>rfl) room hr z hx0
    | idx o a=>exact plain (onSub_ok (P:=fun te=>∀ (env:Env) (l:Nat),swapsWith x (some te) l env=pure false) ht fun a b d zz env l=>Expr.ListComp.elim (motive_1:=fun x=>swapsWith x (some (.Subscript a b d)) l env=pure false) x h8 fun zz zz zz zz=>rfl) room hr z hx0
end
section
variable {c:Cx} {n:Nat} {C:aw}
noncomputable def M4 (c:Cx) (n:Nat) (C:aw) (x:XS):Prop:=∀ {k:Ck} {st:Stmt},chkS c.gt k x st=true→SndS c n C k x st
noncomputable def M5 (c:Cx) (n:Nat) (C:aw) (x:List XS):Prop:=∀ {k:Ck} {st:List Stmt},chkSs c.gt k x st=true→SndSs c n C k x st
theorem m_s0:M5 c n C []:=fun {k st} h=>nil_e h snds_nil
theorem m_s1 {x:XS} {l:List XS} (hx:M4 c n C x) (hl:M5 c n C l):M5 c n C (x :: l):=fun {k st} h=>chkSs_cons h snds_raise fun e t h1 h2=>snds_cons (hx h1) (hl h2)
theorem m_asg {t:XT} {e:XE} (hC:bC c n C):M4 c n C (.asg t e):=fun {k st} h=>onAsg_ok h fun l x p h=>on1_ok h fun te h=>sound_asg hC (a1 h) (a1 (a2 h)) (a1 (a2 (a2 h))) (a2 (a2 (a2 h)))
theorem m_aug {t:XT} {o:Op} {e:XE} (hC:bC c n C):M4 c n C (.aug t o e):=fun {k st} h=>onAug_ok h fun te op y p h=>lem h fun h=>by
  have he:=b7 hC e (a1 h)
  replace h:=a2 h
  cases t with
  | loc i=>exact dU h fun x px h=>snds_aug_loc (a1 h) (a2 h) he
  | attr ob a=>exact onAt_ok h fun x b px h=>lem h fun h=>snds_aug_attr (b7 hC _ h) he
  | idx ob i=>exact onSub_ok h fun x zz px h=>snds_aug_idx (a1 h) (b7 hC _ (a1 (a2 h))) (b7 hC _ (a2 (a2 h))) he
  | tup _=>cases h
theorem m_try {b f:List XS} (hb:M5 c n C b) (hf:M5 c n C f):M4 c n C (.tryf b f):=fun {k st} h=>onTry_ok h fun ys hs es fs p h=>nilOf h fun h=>nilOf h fun h=>by
  have h1:SndSs c n C k b ys:=hb (a1 (a2 h))
  have h2:SndSs c n C k f fs:=hf (a2 (a2 h))
  cases fs with
  | nil=>cases a1 h
  | cons z zs=>exact snds_tryf h1 h2
theorem sound_S (hC:bC c n C) (x:XS):M4 c n C x:=
  XS.rec (motive_1:=M4 c n C) (motive_2:=M5 c n C)
    (fun e {k st} h=>onEx_ok h fun x p h=>snds_expr (a1 h) (b7 hC e (a2 h))) (fun {k st} h=>onPass_ok h fun p zz=>snds_pass) (fun {k st} h=>onCont_ok h fun p zz=>snds_cont)
    (fun e {k st} h=>onRet_ok h fun o p h=>onS_ok h fun x h=>snds_ret (b7 hC e h)) (fun {k st} h=>onRet_ok h fun o p h=>noneOf h fun zz=>snds_ret0)
    (fun t e=>m_asg hC) (fun t o e=>m_aug hC)
    (fun t a b ha hb {k st} h=>onIff_ok h fun x ys zs p h=>snds_ite (b7 hC t (a1 h)) (ha (a1 (a2 h))) (hb (a2 (a2 h))))
    (fun t b hb {k st} h=>onWh_ok h fun x ys zs p h=>nilOf h fun h=>snds_while (b7 hC t (a1 h)) (hb (a2 h)))
    (fun t it b hb {k st} h=>onFor_ok h fun te x ys zs p h=>nilOf h fun h=>snds_for (a1 h) (sound_T hC (a1 (a2 h))) (b7 hC it (a1 (a2 (a2 h)))) (hb (a2 (a2 (a2 h)))))
    (fun {k st} h {A} room {s μ σ env ρ fl ρ' σ'} hr z h=>nomatch h) (fun b f hb hf=>m_try hb hf)
    m_s0 (fun x l hx hl=>m_s1 hx hl) x
theorem sound_Ss (hC:bC c n C) (x:List XS):M5 c n C x:=List.rec (motive:=M5 c n C) m_s0 (fun x l hl=>m_s1 (sound_S hC x) hl) x
end
end
section
open PySem PySem.W PySem.Calls PyProof.Rows
noncomputable def slotRes (slots:List PySem.Str):List (PySem.Str×Nat):=slots.zip (List.range slots.length)
theorem slotRes_get {slots:List PySem.Str} {x:PySem.Str} {i:Nat} (h:(slotRes slots).lookup x=some i):slots[i]?=some x:=by
  have hm:=mem_of_lookup h
  unfold slotRes at hm
  clear h;obtain ⟨j,hj,e⟩:=List.mem_iff_getElem.mp hm
  clear hm
  simp only [List.getElem_zip,List.getElem_range,Prod.mk.injEq] at e
  refine aY e fun e1 aW=>?_
  clear e
  subst aW
  exact ag (List.getElem?_eq_getElem (by simp at hj;exact hj)) (ag e1 rfl)
noncomputable def fnCk (fd:FuncData) (bG:Nat) (slots:List PySem.Str):Ck:=⟨fd.scope.names,slotRes slots,bG,[]⟩
noncomputable def isCellOrLocal:Option NameKind→Bool
  | some .local=>true
  | some .cell=>true
  | _=>false
noncomputable def chkEnt (np bG:Nat) (fd:FuncData) (slots:List PySem.Str):Bool:=
  plainParams fd.params && decide ((fd.params.args.map (·.arg)).Nodup) && (fd.params.args.map (·.arg)) ==slots.take np && decide (np≤slots.length) && slots.length ==bG
  && fd.scope.kind ==.function && !fd.scope.isCoroutine && !fd.scope.isGenerator && fd.globals ==mainGlobals && fd.builtins ==builtinsNs && decide ((fd.scope.names.map (·.1)).Nodup)
  && (fd.params.args.map (·.arg)).all (fun x=>isCellOrLocal (fd.scope.names.lookup x))
  && (fnCk fd bG slots).ok
noncomputable def chkFn (g:Gt) (f:bV) (fd:FuncData) (slots:List PySem.Str):Bool:=
  chkEnt f.np f.bG fd slots && (match fd.body with | .stmts body=>chkSs g (fnCk fd f.bG slots) f.body body | _=>false)
noncomputable def chkFlat (f:bV) (fd:FuncData) (slots:List PySem.Str):Bool:=
  fd.closure.isEmpty && f.free.isEmpty && (slotRes slots).all (fun p=>fd.scope.names.lookup p.1 !=some .free)
section
variable {c:Cx}
noncomputable def Dfl (h:Heap) (fd:FuncData):Prop:=fd.defaults=.none∨∃ a o vs n,fd.defaults=.ref a∧h.get? a=some o∧o.data=.seq vs n
noncomputable def FnGood (c:Cx) (f:bV) (a:Addr):Prop:=∀ n C,bC c n C→∀ A,Room A (4*(n+1)+2) (16*(n+1)+200)→∀ (s:Shared) (μ:Mu) (σ:St) (us:List Value) (vs:List V),c.Rel s.heap μ σ→aG c.fa s.heap μ us vs→vs.length=f.np→
  ∀ fl ρ' σ',aE c.T C f.body (vs++f.free++List.replicate (f.bG - f.np - f.free.length) .ai) σ=some (fl,ρ',σ')→∀ R:Result→Shared→Prop,
    (∀ v u h' tk μ',(fl=.ret v∨(fl=.aL∧v=.none))→Ext [] s.heap μ h' μ'→c.Rel h' μ' σ'→Rep c.fa h' μ' u v→R (.ok (.ret u)) { s with heap:=h',toks:=tk })→
    fl≠.cnt→codeAny (model c.prog c.w) A (.call (.ref a) ⟨us,[]⟩) R s
theorem callOk_zero:bC c 0 (ab c.T 0):=fun k vs σ v σ' h=>by cases h
theorem callOk_succ {n:Nat} (hall:∀ k f,c.T.fn k=some f→∃ a o fd,c.fa k=some a∧c.h0.get? a=some o∧o.data=.func fd∧FnGood c f a) (hC:bC c n (ab c.T n)):bC c (n+1) (ab c.T (n+1)):=by
  intro k vs σ v σ' h
  refine aq (bo_ok h) fun f hf h=>?_
  refine E3A4 (hall k f hf) fun a o fd h1 h2 h3 good=>?_
  refine I3A4 a o fd h1 h2 h3 (fun A room s μ us hr rs R hR=>?_)
  refine aY (ck h) fun hlen h=>?_
  refine E3A2 (bn3_ok h) fun fl ρ1 σ1 hx h=>?_
  cases fl with
  | cnt=>cases h
  | ret w=>
    cases h
    exact good n _ hC A room s μ σ us vs hr rs hlen _ _ _ hx R (fun v' u h' tk μ' hv x r rep=>by
      rcases hv with hv | ⟨hv,_⟩
      · cases hv;exact hR u h' tk μ' x r rep
      · cases hv) (by simp)
  | aL=>
    cases h
    exact good n _ hC A room s μ σ us vs hr rs hlen _ _ _ hx R (fun v' u h' tk μ' hv x r rep=>by
      rcases hv with hv | ⟨_,hv⟩
      · cases hv
      · subst hv;exact hR u h' tk μ' x r rep) (by simp)
theorem callOk_all (hall:∀ k f,c.T.fn k=some f→∃ a o fd,c.fa k=some a∧c.h0.get? a=some o∧o.data=.func fd∧FnGood c f a):∀ n,bC c n (ab c.T n)
  | 0=>callOk_zero
  | n+1=>callOk_succ hall (callOk_all hall n)
theorem cellsFrom_mem:∀ {names:List (PySem.Str×NameKind)} {lo:Nat} {acc:List (PySem.Str×Addr)} {x:PySem.Str} {a:Addr},(x,a)∈cellsFrom lo names acc→(x,a)∈acc∨((x,NameKind.cell)∈names∧lo≤a)
  | [],lo,acc,x,a,h=>.inl h
  | (n,kd) :: r,lo,acc,x,a,h=>by
    unfold cellsFrom at h
    split at h
    · rename_i hk
      rcases cellsFrom_mem h with h | ⟨h,q⟩
      · rcases List.mem_cons.mp h with e | h
        · clear h;cases e;exact .inr ⟨by refine cw (beq_iff_eq.mp hk) ?_;exact List.mem_cons_self,Nat.le_refl _⟩
        · exact .inl h
      · exact .inr ⟨List.mem_cons_of_mem _ h,lZ q⟩
    · rcases cellsFrom_mem h with h | ⟨h,q⟩
      · exact .inl h
      · exact .inr ⟨List.mem_cons_of_mem _ h,q⟩
theorem cellsFrom_acc:∀ {names:List (PySem.Str×NameKind)} {lo:Nat} {acc:List (PySem.Str×Addr)} {p:PySem.Str×Addr},p∈acc→p∈cellsFrom lo names acc
  | [],lo,acc,p,h=>h
  | (n,kd) :: r,lo,acc,p,h=>by
    unfold cellsFrom
    split
    · exact cellsFrom_acc (List.mem_cons_of_mem _ h)
    · exact cellsFrom_acc h
theorem cellsFrom_has:∀ {names:List (PySem.Str×NameKind)} {lo:Nat} {acc:List (PySem.Str×Addr)} {x:PySem.Str},(x,NameKind.cell)∈names→∃ a,(x,a)∈cellsFrom lo names acc
  | (n,kd) :: r,lo,acc,x,h=>by
    unfold cellsFrom
    rcases List.mem_cons.mp h with e | h
    · clear h;cases e
      simp only [beq_self_eq_true,if_true]
      exact ⟨_,cellsFrom_acc List.mem_cons_self⟩
    · split <;> exact cellsFrom_has h
theorem eh:∀ {names:List (PySem.Str×NameKind)} {lo:Nat} {acc:List (PySem.Str×Addr)},(names.map (·.1)).Nodup→acc.Pairwise (fun x y=>x.1≠y.1)→(∀ p∈acc,p.1∉names.map (·.1))→(cellsFrom lo names acc).Pairwise (fun x y=>x.1≠y.1)
  | [],lo,acc,_,h,_=>h
  | (n,kd) :: r,lo,acc,nd,h,hd=>by
    refine aY (List.nodup_cons.mp nd) fun n1 n2=>?_
    have hd':∀ p∈acc,p.1∉r.map (·.1):=fun p hp hm=>hd p hp (List.mem_cons_of_mem _ hm)
    unfold cellsFrom
    split
    · refine eh n2 (List.pairwise_cons.mpr ⟨fun p hp e=>hd p hp (by refine cw e ?_;exact List.mem_cons_self),h⟩) fun p hp=>?_
      rcases List.mem_cons.mp hp with rfl | hp
      · exact n1
      · exact hd' p hp
    · exact eh n2 h hd'
theorem dv {α:Type}:∀ {l:List (PySem.Str×α)} {x:PySem.Str} {a:α},l.Pairwise (fun x y=>x.1≠y.1)→(x,a)∈l→l.lookup x=some a
  | (n,b) :: r,x,a,hp,h=>by
    refine aY (List.pairwise_cons.mp hp) fun h1 h2=>?_
    clear hp;rcases List.mem_cons.mp h with e | h
    · clear h h2 h1;cases e;simp [List.lookup_cons]
    · have:(x ==n)=false:=beq_eq_false_iff_ne.mpr fun e=>h1 _ h e.symm
      refine ag List.lookup_cons (ag this ?_);exact dv h2 h
theorem bindL_out {kd:PySem.Str→Option NameKind} {x:PySem.Str}:∀ {b:List (PySem.Str×Value)} {m:PySem.Str→Option Value},(∀ p∈b,p.1≠x)→bindL kd b m x=m x
  | [],m,_=>rfl
  | (n,v) :: r,m,h=>by
    unfold bindL
    refine ag (bindL_out fun p hp=>h p (List.mem_cons_of_mem _ hp)) ?_
    split
    · have:=h (n,v) List.mem_cons_self
      simp [Ne.symm this]
    · rfl
theorem bindL_in {kd:PySem.Str→Option NameKind} {x:PySem.Str} {u:Value} (hk:kd x=some .local):∀ {b:List (PySem.Str×Value)} {m:PySem.Str→Option Value},b.Pairwise (fun x y=>x.1≠y.1)→(x,u)∈b→bindL kd b m x=some u
  | (n,v) :: r,m,hp,h=>by
    refine aY (List.pairwise_cons.mp hp) fun h1 h2=>?_
    unfold bindL
    rcases List.mem_cons.mp h with e | h
    · clear h h2;cases e
      refine ag (bindL_out fun p hp e=>h1 p hp e.symm) (ag (if_pos hk) ?_);simp
    · exact bindL_in hk h2 h
theorem bindC_out {kd:PySem.Str→Option NameKind} {x:PySem.Str}:∀ {b:List (PySem.Str×Value)} {m:PySem.Str→Option Value},(∀ p∈b,p.1≠x)→bindC kd b m x=m x
  | [],m,_=>rfl
  | (n,v) :: r,m,h=>by
    unfold bindC
    refine ag (bindC_out fun p hp=>h p (List.mem_cons_of_mem _ hp)) ?_
    split
    · rfl
    · have:=h (n,v) List.mem_cons_self
      simp [Ne.symm this]
theorem bindC_in {kd:PySem.Str→Option NameKind} {x:PySem.Str} {u:Value} (hk:kd x≠some .local):∀ {b:List (PySem.Str×Value)} {m:PySem.Str→Option Value},b.Pairwise (fun x y=>x.1≠y.1)→(x,u)∈b→bindC kd b m x=some u
  | (n,v) :: r,m,hp,h=>by
    refine aY (List.pairwise_cons.mp hp) fun h1 h2=>?_
    unfold bindC
    rcases List.mem_cons.mp h with e | h
    · clear h h2;cases e
      refine ag (bindC_out fun p hp e=>h1 p hp e.symm) (ag (if_neg hk) ?_);simp
    · exact bindC_in hk h2 h
theorem zip_pair {ns:List PySem.Str} {us:List Value} (nd:ns.Nodup):(ns.zip us).Pairwise (fun x y=>x.1≠y.1):=by
  induction ns generalizing us with
  | nil=>simp
  | cons n ns ih=>
    refine aY (List.nodup_cons.mp nd) fun n1 n2=>?_
    cases us with
    | nil=>simp
    | cons u us=>
      refine ag List.zip_cons_cons ?_
      exact List.pairwise_cons.mpr ⟨fun p hp e=>n1 (by dsimp only at e;refine ag e ?_;exact (List.of_mem_zip hp).1),ih n2⟩
theorem slotV_vals {vs:List V} {m:Nat} {i:Nat} {v:V} (h:bU (vs++List.replicate m .ai) i=some v):vs[i]?=some v:=by
  unfold bU at h
  by_cases hi:i < vs.length
  · replace h:=(List.getElem?_append_left hi)▸h
    cases q:vs[i]? with
    | none=>replace h:=q▸h;cases h
    | some w=>replace h:=q▸h;cases w <;> first | (cases h;done) | (cases h;rfl)
  · rw [List.getElem?_append_right (lZ (Nat.le_of_not_lt hi)),List.getElem?_replicate] at h
    by_cases hj:i - vs.length < m
    · replace h:=(if_pos hj)▸h;cases h
    · replace h:=(if_neg hj)▸h;cases h
theorem fn_enter {np bG:Nat} {a:Addr} {o:Obj} {fd:FuncData} {slots:List PySem.Str} {body:List Stmt} (ho:c.h0.get? a=some o) (hdat:o.data=.func fd) (hb:fd.body=.stmts body) (hck:chkEnt np bG fd slots=true) (f1:fd.closure=[])
    (f3:∀ p∈slotRes slots,fd.scope.names.lookup p.1≠some .free) (hdf:Dfl c.h0 fd) (cZ:c.h0.CodeRec fd.code fd.qualname) {A:Around} (hdep:A.depth < recursionLimit) {s:Shared} {μ:Mu} {σ:St} {us:List Value} {vs:List V} (hr:c.Rel s.heap μ σ) (rs:aG c.fa s.heap μ us vs) (hlen:vs.length=np)
    {R:Result→Shared→Prop}
    (hbody:∀ env h1 bh,(∀ b p,s.heap.get? b=some p→h1.get? b=some p)→At c (fnCk fd bG slots) env h1 μ (vs++List.replicate (bG - np) .ai)→c.Rel h1 μ σ→env.code=fd.code→(∀ b∈own (fnCk fd bG slots) env,s.heap.get? b=none)→∀ E,wpAny (model c.prog c.w) (A.deeper env) (execs body env) (fun f s'=>R (.ok (.ret (match f with | .ret v=>v | _=>.none))) s') E { s with heap:=h1,toks:=bh }):
    codeAny (model c.prog c.w) A (.call (.ref a) ⟨us,[]⟩) R s:=by
  unfold chkEnt at hck
  simp only [Bool.and_eq_true,decide_eq_true_eq,beq_iff_eq,Bool.not_eq_true',List.all_eq_true] at hck
  obtain ⟨⟨⟨⟨⟨⟨⟨⟨⟨⟨⟨⟨c1,c2⟩,c3⟩,c4⟩,c5⟩,c6⟩,c7⟩,c8⟩,c9⟩,c10⟩,c11⟩,c12⟩,c13⟩:=hck
  have hus:=rs.len
  have hpl:(fd.params.args.map (·.arg)).length=us.length:=by refine ag c3 (ag List.length_take ?_);lia
  have hdf':fd.defaults=.none∨∃ a o vs n,fd.defaults=.ref a∧s.heap.get? a=some o∧o.data=.seq vs n:=by
    clear hbody R hlen rs hdep A cZ f3 f1 hb hdat ho body o a hpl hus c2 c1;rcases hdf with e | ⟨b,o',vs',m,e1,e2,e3⟩
    · exact .inl e
    · exact .inr ⟨b,o',vs',m,e1,hr.1.keep _ _ e2,e3⟩
  have hbind:=bind_ok (s:=s) c1 c2 hpl hdf'
  refine codeAny_call_function (hdep) (hr.1.keep _ _ ho) hdat c7 c8 hb (cZ.keeps hr.1.keep) (hbind _ _ _ _ ?_)
  refine ag f1 ?_
  have hparam:∀ x∈(fd.params.args.map (·.arg)).zip us,fd.scope.names.lookup x.1=some .local∨(fd.scope.names.lookup x.1=some .cell∧((cellsFrom (s.heap.objs.size+1) fd.scope.names []).lookup x.1).isSome=true):=fun x hx=>by
    have:=c12 _ (List.of_mem_zip (a:=x.1) (b:=x.2) hx).1
    clear hbody R hlen rs hr σ μ hdep A cZ hdf f3 f1 hb hdat ho body o a hbind hdf' hpl hus c2 c1 hx;cases q:fd.scope.names.lookup x.1 with
    | none=>rw [q] at this;clear vs us;cases this
    | some kd=>
      rw [q] at this
      clear vs us;cases kd <;> first | (cases this;done) | skip
      · exact .inl rfl
      · refine aN (cellsFrom_has (lo:=s.heap.objs.size+1) (acc:=[]) (mem_of_lookup q)) fun b hb'=>?_
        exact .inr ⟨rfl,by rw [dv (eh c11 .nil (fun p hp=>nomatch hp)) hb'];rfl⟩
  refine wpAny_newFunctionEnv_cells c6 hparam fun env he s1 x=>?_
  clear hdep cZ hdf f1 hb hdat ho o hparam hbind hdf' hpl hus c1;subst he
  have cz:=x.toInCall.keep
  refine ⟨(c.lim.keeps hr.1.keep).keeps cz,codeAny_func ?_⟩
  refine E2A1 x.toInCall.same fun h1 bh hs1=>?_
  have x1:Ext [] s.heap μ s1.heap μ:=.keeps cz
  have r1:c.Rel s1.heap μ σ:=hr.grow cz
  have dead:∀ b,s.heap.objs.size≤b→b∉aM μ∧c.h0.get? b=none:=fun b hb'=>⟨hr.2.fresh (aJ _ hb'),by
    clear hbody R hlen rs vs A f3 body r1 x1 cz c2 hs1 bh h1 x;cases q:c.h0.get? b with
    | none=>rfl
    | some o'=>have:=hr.1.keep _ _ q;rw [aJ _ hb'] at this;clear hr us σ μ a s1 hb';cases this⟩
  have hpair:=eh (lo:=s.heap.objs.size+1) (acc:=[]) c11 .nil (fun p hp=>nomatch hp)
  have dY:∀ y b,(y,b)∈cellsFrom (s.heap.objs.size+1) fd.scope.names []→s.heap.objs.size≤b∧(y,NameKind.cell)∈fd.scope.names:=fun y b hm=>by
    clear hbody R hlen rs hr vs A f3 body hpair dead r1 x1 cz c2 hs1 bh h1 x;rcases cellsFrom_mem hm with h | ⟨h,q⟩
    · clear us σ μ a hm s1;cases h
    · exact ⟨lZ q,h⟩
  have hzip:∀ y i v,(slotRes slots).lookup y=some i→bU (vs++List.replicate (bG - np) .ai) i=some v→∃ u,(y,u)∈(fd.params.args.map (·.arg)).zip us∧Rep c.fa s.heap μ u v:=fun y i v h1 h2=>by
    have hv:=slotV_vals h2
    refine aq (rs.get hv) fun u hu ru=>?_
    have hi:=(List.getElem?_eq_some_iff.mp hv).1
    have hsl:=slotRes_get h1
    refine aI u ?_ ru
    have hy:(fd.params.args.map (·.arg))[i]?=some y:=by refine ag c3 (ag (List.getElem?_take) ?_);simp [hsl];exact lZ (aZ (Nat.le_of_eq hlen) hi)
    refine List.mem_iff_getElem?.mpr ⟨i,?_⟩
    rw [List.getElem?_zip_eq_some]
    exact ⟨hy,hu⟩
  generalize hE:newEnv fd.scope s.heap.objs.size fd.globals (cellsFrom (s.heap.objs.size+1) fd.scope.names []) (fd.qualname++ ".<locals>.") (some a) fd.code none fd.builtins=env at x ⊢
  have b9:env.scope=fd.scope:=by refine cw hE ?_;rfl
  have e_loc:env.locals=s.heap.objs.size:=by refine cw hE ?_;rfl
  have bY:env.cells=cellsFrom (s.heap.objs.size+1) fd.scope.names []:=by refine cw hE ?_;rfl
  have dI:∀ y,env.kindOf y=fd.scope.names.lookup y:=fun y=>by unfold Env.kindOf;exact ag b9 rfl
  have zat:At c (fnCk fd bG slots) env s1.heap μ (vs++List.replicate (bG - np) .ai):=by
    refine ⟨by refine ag b9 ?_;rfl,⟨by refine ag b9 ?_;exact c6,by refine cw hE ?_;exact c9,by refine cw hE ?_;exact c10,⟨_,x.toInCall.ns,fun y i e1 e2 v hv=>?_⟩,fun y i e1 e2=>?_,by refine ag e_loc ?_;exact (dead _ (Nat.le_refl _)).1,fun y b hb'=>?_,x.apart⟩,?_,c13,fun b hb'=>?_⟩
    · refine aq (hzip y i v e1 hv) fun u hm ru=>?_
      exact aI u (bindL_in e2 (zip_pair c2) hm) (ru.ext x1 (.nil _))
    · have hcl:fd.scope.names.lookup y=some .cell:=by
        rw [dI] at e2
        clear hbody R hlen rs hr A body dI bY e_loc b9 hzip dY hpair dead r1 x1 cz c2 hs1 bh h1 x;rcases e2 with e2 | e2
        · exact e2
        · exact absurd e2 (f3 _ (mem_of_lookup e1))
      refine aN (cellsFrom_has (lo:=s.heap.objs.size+1) (acc:=[]) (mem_of_lookup hcl)) fun b hb'=>?_
      have hlk:=dv hpair hb'
      rw [← bY] at hlk
      refine I2A3 b _ hlk (x.cell y b hlk) (fun v hv=>?_)
      refine aq (hzip y i v e1 hv) fun u hm ru=>?_
      exact aI u (bindC_in (by refine ag (dI ..) (ag (hcl ..) ?_);simp) (zip_pair c2) hm) (ru.ext x1 (.nil _))
    · rw [bY] at hb'
      refine aY (dY y b hb') fun q1 q2=>?_
      have hlk:=dv hpair hb'
      rw [← bY] at hlk
      exact ⟨(dead b q1).1,_,x.cell y b hlk⟩
    · show (vs++List.replicate (bG - np) V.ai).length=bG
      simp;lia
    · clear hbody R hlen rs hr A f3 body dI b9 hzip hpair r1 x1 cz c2 hs1 bh h1 x;rcases List.mem_cons.mp hb' with rfl | hb'
      · refine ag e_loc ?_;exact (dead _ (Nat.le_refl _)).2
      · refine aq (List.mem_map.mp hb') fun p hp zq2=>?_
        clear vs us σ e_loc s1 hb';subst zq2
        have:=(List.mem_filter.mp hp).1
        rw [bY] at this
        exact (dead _ (dY p.1 p.2 this).1).2
  have e_code:env.code=fd.code:=by refine cw hE ?_;rfl
  have e_own:∀ b∈own (fnCk fd bG slots) env,s.heap.get? b=none:=fun b hb'=>by
    clear hbody R hlen rs hr A f3 body e_code zat dI b9 hzip hpair dead r1 x1 cz c2 hs1 bh h1 x;rcases List.mem_cons.mp hb' with rfl | hb'
    · refine ag e_loc ?_;exact aJ _ (Nat.le_refl _)
    · refine aq (List.mem_map.mp hb') fun p hp zq2=>?_
      clear vs us σ μ e_loc s1 hb';subst zq2
      have:=(List.mem_filter.mp hp).1
      rw [bY] at this
      exact aJ _ (dY p.1 p.2 this).1
  clear hlen rs hr f3 dI bY e_loc b9 hzip dY hpair dead x1 c2 x;subst hs1
  exact hbody env h1 bh cz zat r1 e_code e_own _
theorem fnGood {f:bV} {a:Addr} {o:Obj} {fd:FuncData} {slots:List PySem.Str} (ho:c.h0.get? a=some o) (hdat:o.data=.func fd) (hck:chkFn c.gt f fd slots=true) (hfl:chkFlat f fd slots=true) (hdf:Dfl c.h0 fd) (cZ:c.h0.CodeRec fd.code fd.qualname):FnGood c f a:=by
  intro n C hC A room s μ σ us vs hr rs hlen fl ρ' σ' hx R hR bc
  unfold chkFn at hck
  rw [Bool.and_eq_true] at hck
  refine aY hck fun hck c14=>?_
  rename_i zz;clear zz
  unfold chkFlat at hfl
  simp only [Bool.and_eq_true,List.isEmpty_iff,List.all_eq_true,bne_iff_ne,ne_eq] at hfl
  obtain ⟨⟨f1,f2⟩,f3⟩:=hfl
  cases hb:fd.body with
  | expr e=>replace c14:=(hb ..)▸c14;cases c14
  | stmts body=>
  replace c14:=(hb ..)▸c14
  replace hx:=(List.append_nil ..)▸(f2 ..)▸hx
  refine fn_enter ho hdat hb hck f1 f3 hdf cZ (by have:=room.depth;show A.depth < 1000;exact lZ this) hr rs hlen fun env h1 bh cz zat r1 _ ho E=>?_
  have hA:Room (A.deeper env) (4*n+5) (16*n+213):=⟨room.hh,by show A.depth+1+_≤_;have:=room.depth;exact lZ this,by show A.units+3+_≤_;have:=room.units;exact lZ this⟩
  refine (sound_Ss hC f.body c14 hA (s:={ s with heap:=h1,toks:=bh }) r1 zat hx).use fun fw h2 bN μ2 x2 p2=>?_
  refine dJ p2 fun r2 z2 fl2=>?_
  clear p2
  have x1:Ext [] s.heap μ h1 μ:=.keeps cz
  have xt:Ext [] s.heap μ h2 μ2:=((x1.weaken (Y:=own (fnCk fd f.bG slots) env) (fun _ h=>nomatch h)).trans x2).fresh fun b hb'=>.inr (ho b hb')
  clear hx zat r1 c14 hck
  cases fl2 with
  | aL=>exact hR .none .none h2 bN μ2 (.inr ⟨rfl,rfl⟩) xt r2 .none
  | cnt=>exact absurd rfl bc
  | ret ru=>exact hR _ _ h2 bN μ2 (.inl rfl) xt r2 ru
end
end
section
open PySem
noncomputable def faL:List (Nat×Addr):=[(2,73),(3,81),(6,102),(8,116),(9,123),(10,130),(12,144),(13,151),(15,165),(16,172),(17,179),(18,186),(30,270),(31,277),(35,305),(37,319),(39,333),(48,396),(54,438),(55,445),(57,459),(58,466),(59,473),(60,480),(61,487),(64,508),(67,527),(68,534),(69,541),(70,548),(71,555),(72,569),(73,576),(75,590),(76,612),(80,655),(81,662),(82,667),(83,674),(84,681),(85,693),(86,700),(87,707),(88,714),(89,721),(90,728),(91,735),(92,742),(93,756),(94,763),(99,812),(100,826),(101,833),(102,840),(103,847),(104,854),(105,861),(106,868),(107,875),(108,882),(109,889),(110,896),(111,903),(112,908),(113,915),(114,920),(115,927),(116,932),(117,939),(118,946),(119,953)]
noncomputable def faTab (k:Nat):Option Addr:=faL.lookup k
noncomputable def dN:Nat→Addr
  | 0=>39
  | 1=>52
  | 2=>64
  | 3=>593
  | 4=>636
  | 5=>684
  | 6=>794
  | 7=>815
  | _=>0
noncomputable def gTab:Gt:={
  fn:=[(PySem.Str.ofString "mask",2),(PySem.Str.ofString "vec",3),(PySem.Str.ofString "all_x",6),(PySem.Str.ofString "from_int",8),(PySem.Str.ofString "is_known",9),(PySem.Str.ofString "to_int",10),(PySem.Str.ofString "slice_vec",12),(PySem.Str.ofString "put_slice",13),(PySem.Str.ofString "extend",15),(PySem.Str.ofString "z_to_x",16),(PySem.Str.ofString "truth",17),(PySem.Str.ofString "add",18),(PySem.Str.ofString "ordered",30),(PySem.Str.ofString "less",31),(PySem.Str.ofString "one_bit",35),(PySem.Str.ofString "bit_and",37),(PySem.Str.ofString "bit_xor",39),(PySem.Str.ofString "logic_and",48),(PySem.Str.ofString "matches",54),(PySem.Str.ofString "choose",55),(PySem.Str.ofString "arithmetic",57),(PySem.Str.ofString "comparison",58),(PySem.Str.ofString "bitwise",59),(PySem.Str.ofString "binary",60),(PySem.Str.ofString "whole_of",61),(PySem.Str.ofString "conditional",64),(PySem.Str.ofString "evaluate",67),(PySem.Str.ofString "locate",68),(PySem.Str.ofString "holder_width",69),(PySem.Str.ofString "resolve_target",70),(PySem.Str.ofString "store_rows",71),(PySem.Str.ofString "run_block",85),(PySem.Str.ofString "run_set",86),(PySem.Str.ofString "run_case",87),(PySem.Str.ofString "run_while",88),(PySem.Str.ofString "run_repeat",89),(PySem.Str.ofString "run_for",90),(PySem.Str.ofString "run_statement",91),(PySem.Str.ofString "net_kinds",92),(PySem.Str.ofString "_law_bag",100),(PySem.Str.ofString "_law_pull",101),(PySem.Str.ofString "_law_constant",102),(PySem.Str.ofString "_law_expression",103),(PySem.Str.ofString "_law_to",104),(PySem.Str.ofString "_law_store",105),(PySem.Str.ofString "_law_statement",106),(PySem.Str.ofString "_law_fixed",107),(PySem.Str.ofString "_law_function",108),(PySem.Str.ofString "_law_functions",109),(PySem.Str.ofString "_law_true",110),(PySem.Str.ofString "_law_number",111),(PySem.Str.ofString "_law_pair",112),(PySem.Str.ofString "_law_call",113),(PySem.Str.ofString "_law_value",114),(PySem.Str.ofString "_law_meets",115),(PySem.Str.ofString "_law_set",116),(PySem.Str.ofString "_law_picked",117),(PySem.Str.ofString "_law_run",118),(PySem.Str.ofString "_law_vector",119)],
  cl:=[(PySem.Str.ofString "Store",3),(PySem.Str.ofString "Context",4),(PySem.Str.ofString "FunctionContext",5),(PySem.Str.ofString "Signal",6),(PySem.Str.ofString "Thread",7)],
  gl:=[(PySem.Str.ofString "DEPTH_LIMIT",0)],
  bl:=[PySem.Str.ofString "max",PySem.Str.ofString "min",PySem.Str.ofString "abs",PySem.Str.ofString "int",PySem.Str.ofString "len",PySem.Str.ofString "range",PySem.Str.ofString "list",PySem.Str.ofString "sorted"],
  cm:=[((PySem.Str.ofString "Context",PySem.Str.ofString "__init__"),76)] }
noncomputable def dk:List Nat:=[2,3,6,8,9,10,12,13,15,16,17,18,30,31,35,37,39,48,54,55,57,58,59,60,61,64,67,68,69,70,71,72,73,75,76,80,81,82,83,84,85,86,87,88,89,90,91,92,93,94,99,100,101,102,103,104,105,106,107,108,109,110,111,112,113,114,115,116,117,118,119]
noncomputable def slotsOf (k:Nat):List PySem.Str:=((slotTab.lookup k).getD []).map PySem.Str.ofString
end
section
open PySem PySem.W PySem.Calls PyProof.Rows
noncomputable def kRef (e:Value) (f:Addr→Bool):Bool:=if h:e.ctorIdx=10 then Value.ref.elim (motive:=fun _=>Bool) e h (fun a=>f a) else false
theorem kRef_ok {e f} (h:kRef e f=true):∃ a,e=.ref a∧f a=true:=vw h fun hp=>Value.ref.elim e hp fun a _ h=>aI a rfl h
noncomputable def kStr (e:Value) (f:PySem.Str→Bool):Bool:=if h:e.ctorIdx=6 then Value.str.elim (motive:=fun _=>Bool) e h (fun q _=>f q) else false
theorem kStr_ok {e f} (h:kStr e f=true):∃ q t,e=.str q t∧f q=true:=vw h fun hp=>Value.str.elim e hp fun q t _ h=>I2A2 q t rfl h
noncomputable def kInt (e:Value) (f:Int→Bool):Bool:=if h:e.ctorIdx=4 then Value.int.elim (motive:=fun _=>Bool) e h (fun i _=>f i) else false
theorem kInt_ok {e f} (h:kInt e f=true):∃ i t,e=.int i t∧f i=true:=vw h fun hp=>Value.int.elim e hp fun i t _ h=>I2A2 i t rfl h
noncomputable def kSeq (e:Data) (f:Array Value→Bool):Bool:=if h:e.ctorIdx=2 then Data.seq.elim (motive:=fun _=>Bool) e h (fun v _=>f v) else false
theorem kSeq_ok {e f} (h:kSeq e f=true):∃ v n,e=.seq v n∧f v=true:=vw h fun hp=>Data.seq.elim e hp fun v n _ h=>I2A2 v n rfl h
noncomputable def kDic (e:Data) (f:Array DictEntry→Bool):Bool:=if h:e.ctorIdx=3 then Data.dict.elim (motive:=fun _=>Bool) e h (fun v _=>f v) else false
theorem kDic_ok {e f} (h:kDic e f=true):∃ v n,e=.dict v n∧f v=true:=vw h fun hp=>Data.dict.elim e hp fun v n _ h=>I2A2 v n rfl h
noncomputable def kFun (e:Data) (f:FuncData→Bool):Bool:=if h:e.ctorIdx=7 then Data.func.elim (motive:=fun _=>Bool) e h (fun f0=>f f0) else false
theorem kFun_ok {e f} (h:kFun e f=true):∃ f0,e=.func f0∧f f0=true:=vw h fun hp=>Data.func.elim e hp fun f0 _ h=>aI f0 rfl h
noncomputable def kFld (e:Data) (f:Array Value→Bool):Bool:=if h:e.ctorIdx=9 then Data.fields.elim (motive:=fun _=>Bool) e h (fun v=>f v) else false
theorem kFld_ok {e f} (h:kFld e f=true):∃ v,e=.fields v∧f v=true:=vw h fun hp=>Data.fields.elim e hp fun v _ h=>aI v rfl h
noncomputable def dT {α:Type} (o:Option α) (f:α→Bool):Bool:=match o with
  | none=>false
  | some a=>f a
theorem bX {α:Type} {o:Option α} {f:α→Bool} (h:dT o f=true):∃ a,o=some a∧f a=true:=by
  cases o with
  | none=>cases h
  | some a=>exact aI a rfl h
noncomputable def dflK (K:Frag) (fd:FuncData):Bool:=(fd.defaults.ctorIdx.beq 0) || kRef fd.defaults fun a=>dT (K.lookup a) fun o=>kSeq o.data fun _=>true
noncomputable def codeK (K:Frag) (fd:FuncData):Bool:=kRef fd.code fun a=>dT (K.lookup a) fun o=>kFld o.data fun vs=>dT vs[1]? fun v=>kStr v fun q=>q ==fd.qualname
noncomputable def chkK (K:Frag) (g:Gt) (a:Addr) (f:bV) (slots:List PySem.Str):Bool:=
  dT (K.lookup a) fun o=>kFun o.data fun fd=>chkFn g f fd slots && (chkFlat f fd slots && (dflK K fd && codeK K fd))
theorem dflK_ok {K:Frag} {fd:FuncData} {h:Heap} (X:K.In h) (e:dflK K fd=true):Dfl h fd:=by
  rcases (Bool.or_eq_true _ _).mp e with e | e
  · exact .inl (Value.none.elim (motive:=fun v=>v=.none) fd.defaults (Nat.eq_of_beq_eq_true e) rfl)
  · obtain ⟨a,q,e⟩:=kRef_ok e;obtain ⟨o,ho,e⟩:=bX e;obtain ⟨v,n,hd,_⟩:=kSeq_ok e
    exact .inr ⟨a,o,v,n,q,X _ _ ho,hd⟩
theorem codeK_ok {K:Frag} {fd:FuncData} {h:Heap} (X:K.In h) (e:codeK K fd=true):h.CodeRec fd.code fd.qualname:=by
  obtain ⟨a,q,e⟩:=kRef_ok e;obtain ⟨o,ho,e⟩:=bX e;obtain ⟨vs,hd,e⟩:=kFld_ok e;obtain ⟨v,hv,e⟩:=bX e;obtain ⟨z,t,rfl,e⟩:=kStr_ok e
  refine cw (beq_iff_eq.mp e) ?_;exact ⟨a,o,vs,t,q,X _ _ ho,hd,hv⟩
theorem chkK_ok {c:Cx} {a:Addr} {f:bV} {slots:List PySem.Str} (e:chkK c.K c.gt a f slots=true):∃ o fd,c.h0.get? a=some o∧o.data=.func fd∧FnGood c f a:=by
  obtain ⟨o,ho,e⟩:=bX e;obtain ⟨fd,hd,e⟩:=kFun_ok e;have e1:=ek e;have e2:=ek e1.2;have e3:=ek e2.2
  exact I2A3 o fd (c.dW _ _ ho) hd (fnGood (c.dW _ _ ho) hd e1.1 e2.1 (dflK_ok c.dW e3.1) (codeK_ok c.dW e3.2))
noncomputable def fnKey (K:Frag) (k:Nat):Bool:=dT (faTab k) fun a=>dT (fnTab k) fun f=>chkK K gTab a f (slotsOf k)
noncomputable def globB (K:Frag) (x:PySem.Str) (f:Option Value→Bool):Bool:=dT (K.lookup mainGlobals) fun o=>kDic o.data fun es=>f ((es.toList.find? (·.key.isStr x)).map (·.val))
theorem globB_ok {K:Frag} {h:Heap} {mg:PySem.Str→Option Value} (X:K.In h) (g:h.Ns mainGlobals mg) {x:PySem.Str} {f:Option Value→Bool} (e:globB K x f=true):f (mg x)=true:=by
  obtain ⟨o,ho,e⟩:=bX e;obtain ⟨es,n,hd,e⟩:=kDic_ok e
  obtain ⟨o',es',n',h1,h2,_,h4⟩:=g
  replace h1:=(X _ _ ho)▸h1;cases h1
  replace h2:=hd▸h2;cases h2
  refine cw (h4 x) ?_
  show f ((es.find? fun e=>e.key.isStr x).map (·.val))=true
  refine cw (Array.find?_toList) ?_;exact e
noncomputable def clsK (K:Frag) (C:Addr):Bool:=plainGet K C "__class__" && hasDictIn K C && findIn K (.ref C) "__setattr__" ==some (some (.builtin "object.__setattr__")) && plainOver K C && makesIn K C && keepIn K (.ref C)
theorem clsK_ok {K:Frag} {C:Addr} (h:clsK K C=true):ClsOk K C:=by
  simp only [clsK,Bool.and_eq_true,beq_iff_eq] at h
  obtain ⟨⟨⟨⟨⟨h1,h2⟩,h3⟩,h4⟩,h5⟩,h6⟩:=h
  exact ⟨h1,h2,h3,h4,h5,h6⟩
noncomputable def fldK (K:Frag) (C:Addr) (n:PySem.Str):Bool:=(match findIn K (.ref C) n with | some a=>noGet K a | none=>false) && takerIn K C n ==some none
set_option tactic.hygienic true in
theorem fldK_ok {K:Frag} {C:Addr} {n:PySem.Str} (h:fldK K C n=true):FldOk K C n:=by
  simp only [fldK,Bool.and_eq_true,beq_iff_eq] at h
  refine aY h fun h1 h2=>?_
  clear h
  split at h1
  · rename_i a ha;exact ⟨aI a ha h1,h2⟩
  · cases h1
theorem methTab_mem {k a f:Nat} (h:methTab k a=some f):(k,a,f)∈methL:=lk2_mem h
theorem initTab_mem {k f:Nat} (h:initTab k=some f):(k,f)∈initL:=lk_mem h
theorem fldTab_mem {k a:Nat} (h:fldTab k a=true):(k,a)∈fldL:=in2_mem h
theorem dynTab_mem {k a:Nat} (h:dynTab k a=true):k=7∧a=18:=by
  cases in2_mem h with
  | head=>exact ⟨rfl,rfl⟩
  | tail _ h=>cases h
theorem fnTab_mem {k:Nat} {f:bV} (h:fnTab k=some f):k∈dk:=(show fnL.map (·.1)=dk from rfl)▸List.mem_map_of_mem (f:=(·.1)) (lk_mem h)
theorem all_mem {α:Type} {l:List α} {f:α→Bool} (h:l.all f=true) {x:α} (m:x∈l):f x=true:=List.all_eq_true.mp h _ m
noncomputable def methK (K:Frag):Bool:=methL.all fun p=>decide (p.2.1 < 48) && (clsK K (dN p.1) && dT (faTab p.2.2) fun d=>findIn K (.ref (dN p.1)) (aH p.2.1) ==some (some (.ref d)) && isFn K (.ref d))
noncomputable def initK (K:Frag):Bool:=initL.all fun p=>clsK K (dN p.1) && dT (faTab p.2) fun d=>findIn K (.ref (dN p.1)) "__init__" ==some (some (.ref d)) && (typeIn K (.ref d) ==some (.type "function") && keepIn K (.ref d))
noncomputable def fldsK (K:Frag):Bool:=fldL.all fun p=>decide (p.2 < 48) && (clsK K (dN p.1) && fldK K (dN p.1) (aH p.2))
noncomputable def dynK (K:Frag):Bool:=fldTab 7 18 && findIn K (.ref (dN 7)) (aH 18) ==some none
noncomputable def gfnK (K:Frag):Bool:=gTab.fn.all fun p=>dT (faTab p.2) fun a=>globB K p.1 fun v=>v ==some (.ref a)
noncomputable def gclK (K:Frag):Bool:=gTab.cl.all fun p=>(globB K p.1 fun v=>v ==some (.ref (dN p.2))) && keepIn K (.ref (dN p.2))
noncomputable def gglK (K:Frag):Bool:=gTab.gl.all fun p=>globB K p.1 fun v=>dT v fun v=>kInt v fun i=>i ==24
noncomputable def gblK (K:Frag):Bool:=gTab.bl.all fun x=>(globB K x fun v=>v.isNone) && !(x ==("__name__" : PySem.Str))
noncomputable def findIs (o:Option CFound) (d:Addr):Bool:=match o with
  | some (.val (.ref d'))=>d' ==d
  | _=>false
noncomputable def gcmK (K:Frag):Bool:=gTab.cm.all fun p=>dT (faTab p.2) fun d=>globB K p.1.1 fun v=>dT v fun v=>kRef v fun C=>specialIn K (.ref C) "__getattribute__" ==some (some (.builtin "type.__getattribute__")) && (readsIn K C (.type "type") && findIs (findCls K (.ref C) (.type "type") p.1.2) d)
noncomputable def bigK (K:Frag):Bool:=(K.lookup 109).isSome
noncomputable def allK (K:Frag):Bool:=methK K && (initK K && (fldsK K && (dynK K && (gfnK K && (gclK K && (gglK K && (gblK K && (gcmK K && (bigK K && dk.all (fnKey K))))))))))
theorem er {K:Frag} (h:allK K=true):methK K=true∧initK K=true∧fldsK K=true∧dynK K=true∧gfnK K=true∧gclK K=true∧gglK K=true∧gblK K=true∧gcmK K=true∧bigK K=true∧dk.all (fnKey K)=true:=by
  have h1:=ek h;have h2:=ek h1.2;have h3:=ek h2.2;have h4:=ek h3.2;have h5:=ek h4.2;have h6:=ek h5.2;have h7:=ek h6.2;have h8:=ek h7.2;have h9:=ek h8.2
  exact ⟨h1.1,h2.1,h3.1,h4.1,h5.1,h6.1,h7.1,h8.1,h9.1,ek h9.2⟩
theorem lookup_mem2 {α β:Type} [BEq α] [LawfulBEq α]:∀ {l:List (α×β)} {x:α} {b:β},l.lookup x=some b→(x,b)∈l
  | (a,c) :: r,x,b,h=>by
    rw [List.lookup_cons] at h
    split at h
    · rename_i q;refine someO h ?_;refine ag (beq_iff_eq.mp q) ?_;exact List.mem_cons_self
    · exact List.mem_cons_of_mem _ (lookup_mem2 h)
section
variable {K:Frag}
theorem k_fld (ok:fldsK K=true) {k a:Nat} (h:fldTab k a=true):a < 48∧ClsOk K (dN k)∧FldOk K (dN k) (aH a):=by
  have h1:=ek (all_mem ok (fldTab_mem h));exact ⟨of_decide_eq_true h1.1,clsK_ok (ek h1.2).1,fldK_ok (ek h1.2).2⟩
theorem k_meth (ok:methK K=true) {k a f:Nat} (h:methTab k a=some f):a < 48∧ClsOk K (dN k)∧∃ d,faTab f=some d∧findIn K (.ref (dN k)) (aH a)=some (some (.ref d))∧isFn K (.ref d)=true:=by
  have h1:=ek (all_mem ok (methTab_mem h));have h2:=ek h1.2;obtain ⟨d,hd,h3⟩:=bX h2.2
  exact ⟨of_decide_eq_true h1.1,clsK_ok h2.1,d,hd,beq_iff_eq.mp (ek h3).1,(ek h3).2⟩
theorem k_init (ok:initK K=true) {k f:Nat} (h:initTab k=some f):ClsOk K (dN k)∧∃ d,faTab f=some d∧findIn K (.ref (dN k)) "__init__" = some (some (.ref d))∧typeIn K (.ref d)=some (.type "function")∧keepIn K (.ref d)=true:=by
  have h1:=ek (all_mem ok (initTab_mem h));obtain ⟨d,hd,h3⟩:=bX h1.2;have h4:=ek h3;have h5:=ek h4.2
  exact ⟨clsK_ok h1.1,d,hd,beq_iff_eq.mp h4.1,beq_iff_eq.mp h5.1,h5.2⟩
theorem k_dyn (ok:dynK K=true) {k a:Nat} (h:dynTab k a=true):fldTab k a=true∧findIn K (.ref (dN k)) (aH a)=some none:=by
  obtain ⟨rfl,rfl⟩:=dynTab_mem h;exact ⟨(ek ok).1,beq_iff_eq.mp (ek ok).2⟩
theorem findIs_ok {o:Option CFound} {d:Addr} (h:findIs o d=true):o=some (.val (.ref d)):=by
  unfold findIs at h
  split at h
  · exact ag (beq_iff_eq.mp h) rfl
  · cases h
variable {h0:Heap} {mg:PySem.Str→Option Value}
theorem k_gfn (dW:K.In h0) (g:h0.Ns mainGlobals mg) (ok:gfnK K=true) {x:PySem.Str} {k:Nat} (h:gTab.fn.lookup x=some k):∃ a,mg x=some (.ref a)∧faTab k=some a:=by
  obtain ⟨a,ha,h1⟩:=bX (all_mem ok (lookup_mem2 h));exact aI a (beq_iff_eq.mp (globB_ok dW g h1)) ha
theorem k_gcl (dW:K.In h0) (g:h0.Ns mainGlobals mg) (ok:gclK K=true) {x:PySem.Str} {k:Nat} (h:gTab.cl.lookup x=some k):mg x=some (.ref (dN k))∧keepIn K (.ref (dN k))=true:=by
  have h1:=ek (all_mem ok (lookup_mem2 h));exact ⟨beq_iff_eq.mp (globB_ok dW g h1.1),h1.2⟩
theorem k_ggl (dW:K.In h0) (g:h0.Ns mainGlobals mg) (ok:gglK K=true) {x:PySem.Str} {i:Nat} (h:gTab.gl.lookup x=some i):∃ t,mg x=some (.int 24 t):=by
  obtain ⟨v,h1,h2⟩:=bX (globB_ok dW g (all_mem ok (lookup_mem2 h)));obtain ⟨i,t,rfl,h3⟩:=kInt_ok h2;exact ⟨t,by exact ag h1 (ag (beq_iff_eq.mp h3) rfl)⟩
theorem k_gbl (dW:K.In h0) (g:h0.Ns mainGlobals mg) (ok:gblK K=true) {x:PySem.Str} (h:gTab.bl.contains x=true):mg x=none∧x≠ "__name__" := by
  have h1:=ek (all_mem ok (List.contains_iff_mem.mp h));refine ⟨Option.isNone_iff_eq_none.mp (globB_ok dW g h1.1),fun e=>?_⟩
  replace h1:=e▸h1;cases h1.2
theorem k_gcm (dW:K.In h0) (g:h0.Ns mainGlobals mg) (ok:gcmK K=true) {x a:PySem.Str} {n:Nat} (h:gTab.cm.lookup (x,a)=some n):∃ C d,mg x=some (.ref C)∧faTab n=some d∧specialIn K (.ref C) "__getattribute__" = some (some (.builtin "type.__getattribute__"))∧readsIn K C (.type "type")=true∧findCls K (.ref C) (.type "type") a=some (.val (.ref d)):=by
  obtain ⟨d,hd,h1⟩:=bX (all_mem ok (lookup_mem2 h));obtain ⟨v,hv,h1⟩:=bX (globB_ok dW g h1);obtain ⟨C,rfl,h1⟩:=kRef_ok h1
  have h2:=ek h1;have h3:=ek h2.2
  exact I2A5 C d hv hd (beq_iff_eq.mp h2.1) h3.1 (findIs_ok h3.2)
end
noncomputable def mkCx (prog:Program) (w:World) (K:Frag) (h0:Heap) (l0:List (Addr×Addr)) (mg mb:PySem.Str→Option Value) (T:Tab) (fa:Nat→Option Addr) (hT:T.fld=fldTab∧T.aV=methTab∧T.init=initTab∧T.dyn=dynTab∧T.gl=fun zz=>.int 24)
    (hfa:∀ k a,faTab k=some a→fa k=some a) (dW:K.In h0) (g:h0.Ns mainGlobals mg) (b:h0.Ns builtinsNs mb) (lim:h0.NoLimit) (bi:∀ x:PySem.Str,x≠ "__name__" → mb x=bootBuiltins x) (ok:allK K=true):Cx where
  prog:=prog
  w:=w
  K:=K
  h0:=h0
  l0:=l0
  mg:=mg
  mb:=mb
  T:=T
  fa:=fa
  ca:=dN
  dW:=dW
  g:=g
  b:=b
  lim:=lim
  bi:=bi
  big:=by
    obtain ⟨o,e⟩:=Option.isSome_iff_exists.mp (er ok).2.2.2.2.2.2.2.2.2.1
    exact I2A2 109 o (by decide) (dW _ _ e)
  fld:=fun k a h=>k_fld (er ok).2.2.1 (by refine cw hT.1 ?_;exact h)
  aV:=fun k a f h=>by
    obtain ⟨h1,h2,d,hd,h3⟩:=k_meth (er ok).1 (by refine cw hT.2.1 ?_;exact h)
    exact ⟨h1,h2,d,hfa _ _ hd,h3⟩
  dyn:=fun k a h=>by refine ag hT.1 ?_;exact k_dyn (er ok).2.2.2.1 (by refine cw hT.2.2.2.1 ?_;exact h)
  init:=fun k f h=>by
    obtain ⟨h1,d,hd,h3⟩:=k_init (er ok).2.1 (by refine cw hT.2.2.1 ?_;exact h)
    exact ⟨h1,d,hfa _ _ hd,h3⟩
  gt:=gTab
  gfn:=fun x k h=>by
    obtain ⟨a,h1,h2⟩:=k_gfn dW g (er ok).2.2.2.2.1 h
    exact ⟨a,h1,hfa _ _ h2⟩
  gcl:=fun x k h=>k_gcl dW g (er ok).2.2.2.2.2.1 h
  ggl:=fun x i h=>by
    obtain ⟨t,h1⟩:=k_ggl dW g (er ok).2.2.2.2.2.2.1 h
    exact I2A2 24 t h1 (by exact ag hT.2.2.2.2 rfl)
  gbl:=fun x h=>k_gbl dW g (er ok).2.2.2.2.2.2.2.1 h
  gcm:=fun x a n h=>by
    obtain ⟨C,d,h1,h2,h3,h4,h5⟩:=k_gcm dW g (er ok).2.2.2.2.2.2.2.2.1 h
    exact I3A5 C d _ h1 (hfa _ _ h2) h3 h4 h5
theorem mk_fns {c:Cx} (hc:c.gt=gTab) (ok:allK c.K=true) {k:Nat} {f:bV} (h:fnTab k=some f) (hfa:∀ k a,faTab k=some a→c.fa k=some a):∃ a o fd,c.fa k=some a∧c.h0.get? a=some o∧o.data=.func fd∧FnGood c f a:=by
  obtain ⟨a,ha,h1⟩:=bX (all_mem (er ok).2.2.2.2.2.2.2.2.2.2 (fnTab_mem h))
  rw [h] at h1
  replace h1:chkK c.K gTab a f (slotsOf k)=true:=h1
  rw [← hc] at h1
  obtain ⟨o,fd,h2,h3,h4⟩:=chkK_ok h1
  exact I3A4 a o fd (hfa _ _ ha) h2 h3 h4
end
section
open PySem PySem.W PySem.Calls PyProof.Rows
mutual
noncomputable def pureV:V→Bool
  | .ai=>true
  | .none=>true
  | .bool _=>true
  | .int _=>true
  | .str _=>true
  | .tup l=>pureL l
  | .lst l=>pureL l
  | .obj _=>true
  | .fn _=>false
  | .rng _=>false
noncomputable def pureL:List V→Bool
  | []=>true
  | v :: l=>pureV v && pureL l
end
structure Reach (h:Heap) (μ:Mu) (S:List Addr):Prop where
  at_:∀ a∈S,a∉aM μ∧∃ o,h.get? a=some o∧∃ vs n,o.data=.seq vs n
noncomputable def PR (h:Heap) (μ:Mu) (R:(Nat→Option Addr)→Heap→Mu→Prop):Prop:=∃ S,Reach h μ S∧∀ (h':Heap) (μ':Mu) (dn:Nat→Option Addr),(∀ a∈S,∀ o,h.get? a=some o→h'.get? a=some o)→(∀ a∈S,a∉aM μ')→(∀ (n:Nat) (p:Addr×Addr),μ.l[n]?=some p→μ'.l[n]?=some p)→R dn h' μ'
section
variable {h:Heap} {μ:Mu} {R R1 R2:(Nat→Option Addr)→Heap→Mu→Prop}
theorem pr0 (k:∀ h' (μ':Mu) dn,(∀ (n:Nat) (p:Addr×Addr),μ.l[n]?=some p→μ'.l[n]?=some p)→R dn h' μ'):PR h μ R:=⟨[],⟨fun _ h=>nomatch h⟩,fun h' μ' dn _ _ k3=>k h' μ' dn k3⟩
theorem pr1 {a:Addr} {o:Obj} (e:h.get? a=some o) (hd:∃ vs n,o.data=.seq vs n) (ha:a∉aM μ) (p:PR h μ R1) (k:∀ h' (μ':Mu) dn,h'.get? a=some o→a∉aM μ'→R1 dn h' μ'→R dn h' μ'):PR h μ R:=
  aq p fun S hS run=>⟨a :: S,⟨fun b hb=>(List.mem_cons.mp hb).elim (fun q=>q▸⟨ha,o,e,hd⟩) (hS.at_ b)⟩,fun h' μ' dn k1 k2 k3=>k h' μ' dn (k1 a (.head _) _ e) (k2 a (.head _)) (run h' μ' dn (fun b hb=>k1 b (.tail _ hb)) (fun b hb=>k2 b (.tail _ hb)) k3)⟩
theorem pr2 (p:PR h μ R1) (q:PR h μ R2) (k:∀ h' (μ':Mu) dn,R1 dn h' μ'→R2 dn h' μ'→R dn h' μ'):PR h μ R:=
  aq p fun S1 h1 run1=>aq q fun S2 h2 run2=>⟨S1++S2,⟨fun b hb=>(List.mem_append.mp hb).elim (h1.at_ b) (h2.at_ b)⟩,fun h' μ' dn k1 k2 k3=>k h' μ' dn (run1 h' μ' dn (fun b hb=>k1 b (List.mem_append.mpr (.inl hb))) (fun b hb=>k2 b (List.mem_append.mpr (.inl hb))) k3) (run2 h' μ' dn (fun b hb=>k1 b (List.mem_append.mpr (.inr hb))) (fun b hb=>k2 b (List.mem_append.mpr (.inr hb))) k3)⟩
theorem pure_reach {fa:Nat→Option Addr} {u:Value} {v:V} (p:pureV v=true) (r:Rep fa h μ u v):PR h μ fun dn h' μ'=>Rep dn h' μ' u v:=
  Rep.rec (motive_1:=fun u v _=>pureV v=true→PR h μ fun dn h' μ'=>Rep dn h' μ' u v) (motive_2:=fun us l _=>pureL l=true→PR h μ fun dn h' μ'=>aG dn h' μ' us l)
    (fun _=>pr0 fun _ _ _ _=>.none) (fun b _=>pr0 fun _ _ _ _=>.bool b) (fun i t _=>pr0 fun _ _ _ _=>.int i t) (fun s t _=>pr0 fun _ _ _ _=>.str s t)
    (fun e ha _ ih p=>pr1 e ⟨_,_,rfl⟩ ha (ih p) fun _ _ _ g n r=>.tup g n r)
    (fun e ha _ ih p=>pr1 e ⟨_,_,rfl⟩ ha (ih p) fun _ _ _ g n r=>.lst g n r)
    (fun e _=>pr0 fun _ _ _ k3=>.obj (k3 _ _ e))
    (fun _ p=>Bool.noConfusion (show false=true from p)) (fun _ _ p=>Bool.noConfusion (show false=true from p)) (fun _=>pr0 fun _ _ _ _=>.nil)
    (fun _ _ i1 i2 p=>pr2 (i1 (a1 p)) (i2 (a2 p)) fun _ _ _ r rs=>.cons r rs) r p
end
theorem Moves.wide {fa dn:Nat→Option Addr} (hf:∀ k a,fa k=some a→dn k=some a) {h:Heap} {μ:Mu}:Moves fa dn h μ h μ:=⟨fun _ _ e _ _ _=>e,fun _ _ _ h=>h,fun _ _ e=>e,hf⟩
theorem Rep.wider {fa dn:Nat→Option Addr} (hf:∀ k a,fa k=some a→dn k=some a) {h:Heap} {μ:Mu} {v:Value} {x:V} (r:Rep fa h μ v x):Rep dn h μ v x:=r.move (.wide hf)
theorem az.wider {prog:Program} {w:World} {fa dn:Nat→Option Addr} {ca:Nat→Addr} (hf:∀ k a,fa k=some a→dn k=some a) {h:Heap} {μ:Mu} {σ:St} (r:az prog w fa ca h μ σ):az prog w dn ca h μ σ:=
  ⟨r.len,r.nodup,r.zlive,fun i p o e1 e2=>(r.obj i p o e1 e2).move (.wide hf) fun _ q=>q⟩
section
variable {c:Cx}
theorem fnGoodC {f:bV} {a cell:Addr} {o oc:Obj} {fd:FuncData} {y:PySem.Str} {fv:V} {u:Value} (ho:c.h0.get? a=some o) (hdat:o.data=.func fd) (hck:chkFn c.gt f fd (fd.params.args.map (·.arg)++[y])=true) (hclo:fd.closure=[(y,cell)]) (dK:f.free=[fv]) (htot:f.bG=f.np+1)
    (bg:fd.scope.names.all (fun p=>p.2 !=.cell)=true) (hy:fd.scope.names.lookup y=some .free) (hyp:y∉fd.params.args.map (·.arg)) (dY:c.h0.get? cell=some oc) (hcd:oc.data=.cell (some u))
    (hrep:∀ (h:Heap) (μ:Mu),BaseOk c.h0 c.l0 h μ→Rep c.fa h μ u fv) (hdf:Dfl c.h0 fd) (cZ:c.h0.CodeRec fd.code fd.qualname):FnGood c f a:=by
  intro n C hC A room s μ σ us vs hr rs hlen fl ρ' σ' hx R hR bc
  unfold chkFn chkEnt at hck
  simp only [Bool.and_eq_true,decide_eq_true_eq,beq_iff_eq,Bool.not_eq_true',List.all_eq_true] at hck
  obtain ⟨⟨⟨⟨⟨⟨⟨⟨⟨⟨⟨⟨⟨c1,c2⟩,c3⟩,c4⟩,c5⟩,c6⟩,c7⟩,c8⟩,c9⟩,c10⟩,c11⟩,c12⟩,c13⟩,c14⟩:=hck
  simp only [List.all_eq_true,bne_iff_ne,ne_eq] at bg
  cases hb:fd.body with
  | expr e=>replace c14:=hb▸c14;cases c14
  | stmts body=>
  replace c14:=hb▸c14
  have hus:=rs.len
  have hnp:(fd.params.args.map (·.arg)).length=f.np:=by simp at c5;simp;exact Nat.le_antisymm (lZ (aZ (Nat.le_of_eq htot) (Nat.le_of_eq c5))) (lZ (aZ (Nat.le_of_eq htot.symm) (Nat.le_of_eq c5.symm)))
  have hpl:(fd.params.args.map (·.arg)).length=us.length:=Nat.le_antisymm (lZ (aZ (Nat.le_of_eq hlen.symm) (aZ (Nat.le_of_eq hus.symm) (Nat.le_of_eq hnp)))) (lZ (aZ (Nat.le_of_eq hlen) (aZ (Nat.le_of_eq hus) (Nat.le_of_eq hnp.symm))))
  have hdf':fd.defaults=.none∨∃ a o vs n,fd.defaults=.ref a∧s.heap.get? a=some o∧o.data=.seq vs n:=by
    clear cZ hrep hcd dY hyp hy bg htot dK hclo hdat ho u fv oc o cell a hpl hnp hus c14 c2 c1 bc hR R hx σ' ρ' fl hlen rs vs us room A hC C n;rcases hdf with e | ⟨b,o',vs',m,e1,e2,e3⟩
    · exact .inl e
    · exact .inr ⟨b,o',vs',m,e1,hr.1.keep _ _ e2,e3⟩
  have hbind:=bind_ok (s:=s) c1 c2 hpl hdf'
  refine codeAny_call_function (by have:=room.depth;show A.depth < 1000;exact lZ this) (hr.1.keep _ _ ho) hdat c7 c8 hb (cZ.keeps hr.1.keep) (hbind _ _ _ _ ?_)
  have hloc:∀ x∈(fd.params.args.map (·.arg)).zip us,fd.scope.names.lookup x.1=some .local:=fun x hx=>by
    have:=c12 _ (List.of_mem_zip (a:=x.1) (b:=x.2) hx).1
    clear cZ hdf hrep hcd dY hyp hy htot dK hclo hdat ho u fv oc o cell a hbind hdf' hpl hnp hus c14 c2 c1 bc hR R hlen rs hr μ s room A hC n hx;cases q:fd.scope.names.lookup x.1 with
    | none=>replace this:=q▸this;clear us hx;cases this
    | some kd=>
      replace this:=q▸this
      clear us hx;cases kd <;> first | (cases this;done) | rfl | skip
      exact absurd rfl (bg _ (mem_of_lookup q))
  refine wpAny_newFunctionEnv (fun x hx=>bg x hx) hloc (fun h1 hn1 hs1=>?_) c6
  dsimp only [Option.isSome_none,Bool.false_eq_true,if_false] at hs1 ⊢
  simp only [Bool.false_eq_true,if_false] at hs1
  have cz:∀ b o,s.heap.get? b=some o→h1.get? b=some o:=fun b o e=>hs1.extBut b o (Nat.ne_of_lt (Heap.lt_size e)) (Heap.get?_push_of_some _ e)
  refine ⟨(c.lim.keeps hr.1.keep).keeps cz,codeAny_func ?_⟩
  have x1:Ext [] s.heap μ h1 μ:=.keeps cz
  have r1:c.Rel h1 μ σ:=hr.grow cz
  have dead:s.heap.objs.size∉aM μ∧c.h0.get? s.heap.objs.size=none:=⟨hr.2.fresh (aJ _ (Nat.le_refl _)),by
    clear cZ hdf hrep hcd dY hyp hy bg htot dK hclo hdat ho u fv oc cell a r1 x1 cz hloc hbind hdf' hpl hnp hus c14 c2 c1 bc hR R hlen rs room A hC n o hs1 hn1 h1 hx;cases q:c.h0.get? s.heap.objs.size with
    | none=>rfl
    | some o'=>have:=hr.1.keep _ _ q;replace this:=(aJ _ (Nat.le_refl _))▸this;clear σ' ρ' fl hr vs us σ μ C;cases this⟩
  generalize hE:newEnv fd.scope s.heap.objs.size fd.globals fd.closure (fd.qualname++ ".<locals>.") (some a) fd.code none fd.builtins=env
  have b9:env.scope=fd.scope:=by refine cw hE ?_;rfl
  have e_loc:env.locals=s.heap.objs.size:=by refine cw hE ?_;rfl
  have bY:env.cells=[(y,cell)]:=by refine cw hE ?_;exact hclo
  have dI:∀ z,env.kindOf z=fd.scope.names.lookup z:=fun z=>by unfold Env.kindOf;exact ag b9 rfl
  have hcu:h1.IsCell cell (some u):=aI oc (cz _ _ (hr.1.keep _ _ dY)) hcd
  have hown:own (fnCk fd f.bG (fd.params.args.map (·.arg)++[y])) env=[s.heap.objs.size]:=by
    unfold own
    refine ag e_loc (ag bY ?_)
    simp [dI,hy]
  have zat:At c (fnCk fd f.bG (fd.params.args.map (·.arg)++[y])) env h1 μ (vs++f.free++List.replicate (f.bG - f.np - f.free.length) .ai):=by
    refine ⟨by refine ag b9 ?_;rfl,⟨by refine ag b9 ?_;exact c6,by refine cw hE ?_;exact c9,by refine cw hE ?_;exact c10,⟨_,by refine ag e_loc ?_;exact hn1,fun z i e1 e2 v hv=>?_⟩,fun z i e1 e2=>?_,by refine ag e_loc ?_;exact dead.1,fun z b hb'=>?_,by refine ag bY ?_;simp⟩,?_,c13,fun b hb'=>?_⟩
    · replace hv:=dK▸hv
      have hsl:=slotRes_get e1
      by_cases hi:i < vs.length
      · have hv':vs[i]?=some v:=by
          unfold bU at hv
          replace hv:=(List.getElem?_append_left hi ..)▸(List.append_assoc ..)▸hv
          clear cZ hdf hrep hcd dY hyp hy bg htot dK hclo hdat ho fv oc hsl hown hcu dI bY e_loc b9 dead r1 x1 cz hloc hbind hdf' hpl hnp hus c14 c2 c1 bc hR R hlen rs hr μ room A hC n e2 e1 z o hs1 hn1 h1 hx;cases q:vs[i]? with
          | none=>replace hv:=q▸hv;clear u cell σ' ρ' fl us σ C;cases hv
          | some w=>replace hv:=q▸hv;clear u cell σ' ρ' fl us σ C;cases w <;> first | (cases hv;done) | (cases hv;rfl)
        refine aq (rs.get hv') fun t ht rt=>?_
        have hz:(fd.params.args.map (·.arg))[i]?=some z:=by rwa [List.getElem?_append_left (lZ (aZ (Nat.le_of_eq hus.symm) (aZ (Nat.le_of_eq hpl.symm) hi)))] at hsl
        refine aI t ?_ (rt.ext x1 (.nil _))
        have hmem:(z,t)∈(fd.params.args.map (·.arg)).zip us:=List.mem_iff_getElem?.mpr ⟨i,by rw [List.getElem?_zip_eq_some];exact ⟨hz,ht⟩⟩
        have hp:=zip_pair (us:=us) c2
        have dQ:((fd.params.args.map (·.arg)).zip us).reverse.Pairwise (fun x y=>x.1≠y.1):=List.pairwise_reverse.mpr (hp.imp fun h=>Ne.symm h)
        exact dv dQ (List.mem_reverse.mpr hmem)
      · exfalso
        have hz:z=y:=by
          rw [List.getElem?_append_right (lZ (aZ (Nat.le_of_eq hus) (aZ (Nat.le_of_eq hpl) (Nat.le_of_not_lt hi))))] at hsl
          have:i - (fd.params.args.map (·.arg)).length=0:=by
            have:=(List.getElem?_eq_some_iff.mp hsl).1
            simp at this;simp;lia
          replace hsl:=this▸hsl
          simpa using hsl.symm
        replace e2:=(hy ..)▸(hz ..)▸(dI ..)▸e2
        clear cZ hdf hrep hcd dY hyp hy bg htot dK hclo hdat ho oc hz hsl hown hcu dI bY e_loc b9 dead r1 x1 cz hloc hbind hdf' hpl hnp hus c14 c2 c1 bc hR R hlen rs hr μ room A hC n hv v e1 z o hs1 hn1 h1 hx;cases e2
    · have hz:z=y:=by
        have hsl:=slotRes_get e1
        by_cases hi:i < (fd.params.args.map (·.arg)).length
        · exfalso
          replace hsl:=(List.getElem?_append_left hi)▸hsl
          have hm:z∈fd.params.args.map (·.arg):=List.mem_of_getElem? hsl
          have:=c12 _ hm
          replace e2:=(dI ..)▸e2
          clear cZ hdf hrep hcd dY hyp hy htot dK hclo hdat ho fv oc hm hsl hown hcu dI bY e_loc b9 dead r1 x1 cz hloc hbind hdf' hpl hnp hus c14 c2 c1 bc hR R hlen rs hr μ room A hC n e1 o hs1 hn1 h1 hx;rcases e2 with e2 | e2
          · exact absurd rfl (bg _ (mem_of_lookup e2))
          · replace this:=e2▸this;clear bg u cell σ' ρ' fl vs us σ C e2 z;cases this
        · rw [List.getElem?_append_right (lZ (Nat.le_of_not_lt hi))] at hsl
          have:i - (fd.params.args.map (·.arg)).length=0:=by
            have:=(List.getElem?_eq_some_iff.mp hsl).1
            simp at this;simp;lia
          replace hsl:=this▸hsl
          simpa using hsl.symm
      clear cZ hdf hcd dY hy bg htot hclo hdat ho oc hown dI e_loc b9 dead x1 cz hloc hbind hdf' hpl hus c14 c2 c1 bc hR R rs hr room A hC n e2 o hs1 hn1 hx;subst hz
      refine I2A3 cell _ (by refine ag bY ?_;simp [List.lookup_cons]) hcu (fun v hv=>aI u rfl ?_)
      have hsl:=slotRes_get e1
      have hi:i=vs.length:=by
        by_cases hi:i < (fd.params.args.map (·.arg)).length
        · exfalso
          replace hsl:=(List.getElem?_append_left hi)▸hsl
          exact hyp (List.mem_of_getElem? hsl)
        · have:=(List.getElem?_eq_some_iff.mp hsl).1
          simp at this hi
          simp at hnp
          exact Nat.le_antisymm (lZ (aZ (Nat.le_of_eq hlen.symm) (aZ this (Nat.le_of_eq hnp)))) (lZ (aZ (Nat.le_of_eq hlen) (aZ hi (Nat.le_of_eq hnp.symm))))
      clear hyp hsl hcu bY hnp σ' ρ' fl hlen us C e1;subst hi
      have:v=fv:=by
        replace hv:=dK▸hv
        unfold bU at hv
        replace hv:=(List.getElem?_append_right (Nat.le_refl _) ..)▸(List.append_assoc ..)▸hv
        simp at hv
        clear hrep dK u cell r1 vs σ μ h1;cases fv <;> first | (cases hv;done) | (cases hv;rfl)
      refine ag this ?_
      exact hrep h1 μ r1.1
    · replace hb':=bY▸hb'
      refine ag (List.mem_singleton.mp hb' |> Prod.mk.inj |>.2) ?_
      exact ⟨r1.1.apart _ _ dY,_,hcu⟩
    · show (vs++f.free++List.replicate (f.bG - f.np - f.free.length) V.ai).length=f.bG
      refine ag dK ?_;simp;lia
    · replace hb':=hown▸hb'
      refine ag (List.mem_singleton.mp hb') ?_
      exact dead.2
  have hA:Room (A.deeper env) (4*n+5) (16*n+213):=⟨room.hh,by show A.depth+1+_≤_;have:=room.depth;exact lZ this,by show A.units+3+_≤_;have:=room.units;exact lZ this⟩
  have run:=sound_Ss hC f.body c14 hA (s:={ s with heap:=h1,toks:=s.toks+((fd.params.args.map (·.arg)).zip us).length }) r1 zat hx
  refine run.use fun fw h2 bN μ2 x2 zp=>?_
  clear cZ hdf hrep hcd dY hyp hy bg htot dK hclo hdat ho fv oc run hA zat hcu dI bY e_loc b9 dead r1 cz hloc hbind hdf' hpl hnp hus c14 c2 c1 hlen rs hr room A hC n o hs1 hn1 hx;obtain ⟨r2,z2,fl2⟩:=zp
  have xt:Ext [] s.heap μ h2 μ2:=((x1.weaken (Y:=own (fnCk fd f.bG (fd.params.args.map (·.arg)++[y])) env) nilS).trans x2).fresh fun b hb'=>.inr (by
    replace hb':=hown▸hb'
    refine ag (List.mem_singleton.mp hb') ?_
    exact aJ _ (Nat.le_refl _))
  clear u cell hown x1 z2 ρ' vs σ C x2;cases fl2 with
  | aL=>exact hR .none .none h2 bN μ2 (.inr ⟨rfl,rfl⟩) xt r2 .none
  | cnt=>exact absurd rfl bc
  | ret ru=>exact hR _ _ h2 bN μ2 (.inl rfl) xt r2 ru
end
end
section
open PySem PySem.W PySem.Calls PyProof.Rows
section
variable {c:Cx} {n:Nat} {C:aw} {k:Ck}
theorem seq_ok (hC:bC c n C):∀ (x:List XS) {b1 r:List Stmt},chkSs c.gt k x b1=true→∀ {A:Around},Room A (4*n+5) (16*n+213)→∀ {s:Shared} {μ:Mu} {σ:St} {env:Env} {ρ ρ':List V} {σ':St} {E:Value→Shared→Prop} {Q:Flow→Shared→Prop},
    c.Rel s.heap μ σ→At c k env s.heap μ ρ→aE c.T C x ρ σ=some (.aL,ρ',σ')→
    (∀ h' tk μ',Ext (own k env) s.heap μ h' μ'→c.Rel h' μ' σ'→At c k env h' μ' ρ'→wpAny (model c.prog c.w) A (execs r env) Q E { s with heap:=h',toks:=tk })→
    wpAny (model c.prog c.w) A (execs (b1++r) env) Q E s
  | [],es,r,h,A,room,s,μ,σ,env,ρ,ρ',σ',E,Q,hr,z,hx,hQ=>by
    refine nil_e h ?_
    cases hx
    exact hQ s.heap s.toks μ (.refl ..) hr z
  | x :: l,es,r,h,A,room,s,μ,σ,env,ρ,ρ',σ',E,Q,hr,z,hx,hQ=>by
    refine chkSs_cons (P:=fun x es=>aE c.T C (x :: l) ρ σ=some (.aL,ρ',σ')→wpAny (model c.prog c.w) A (execs (es++r) env) Q E s) h (fun hx=>nomatch hx) (fun st es h1 h2 hx=>?_) hx
    refine E3A2 (i_seq hx) fun g ρ1 σ1 hx1 hx=>?_
    rcases hx with ⟨rfl,hx⟩ | ⟨bc,e,_⟩
    · show wpAny _ _ (execs (st :: (es++r)) env) _ _ _
      refine wpAny_execs_cons ((sound_S hC x h1 room hr z hx1).use fun f h1 bh μ1 x1 p1=>?_)
      refine dJ p1 fun r1 z1 fl1=>?_
      clear p1
      cases fl1
      exact seq_ok hC l h2 room (s:={ s with heap:=h1,toks:=bh }) r1 z1 hx fun h2 bN μ2 x2 r2 z2=>hQ h2 bN μ2 (x1.trans x2) r2 z2
    · exact absurd e.symm bc
theorem EnvOk.wider {fa dn:Nat→Option Addr} (hf:∀ k a,fa k=some a→dn k=some a) {env:Env} {res:PySem.Str→Option Nat} {h:Heap} {μ:Mu} {ρ:List V} (z:EnvOk fa env res h μ ρ):EnvOk dn env res h μ ρ:=by
  refine aq z.ns fun m hn hm=>?_
  refine ⟨z.kind,z.glob,z.bi,⟨m,hn,fun y i a b v r=>?_⟩,fun y i a b=>?_,z.lap,z.cap,z.apart⟩
  · refine aq (hm y i a b v r) fun u e t=>?_
    exact aI u e (t.wider hf)
  · refine E2A3 (z.cell y i a b) fun cc u e q t=>?_
    exact I2A3 cc u e q (fun v hv=>aq (t v hv) fun w e1 e2=>(aI w e1 (e2.wider hf)))
end
theorem tabs2 (fs:V):(tab2 fs).fld=fldTab∧(tab2 fs).aV=methTab∧(tab2 fs).init=initTab∧(tab2 fs).dyn=dynTab∧(tab2 fs).gl=fun zz=>.int 24:=⟨rfl,rfl,rfl,rfl,rfl⟩
theorem tabs1:bE.fld=fldTab∧bE.aV=methTab∧bE.init=initTab∧bE.dyn=dynTab∧bE.gl=fun zz=>.int 24:=⟨rfl,rfl,rfl,rfl,rfl⟩
theorem faTab_900:faTab 900=none:=rfl
theorem closure_one {di:Scope} {env:Env} {cq:PySem.Str} {cell:Addr} (hsc:di.names.filter (fun p=>p.2 ==.free)=[(cq,.free)]) (hcl:env.cells.lookup cq=some cell):closureFor di env=pure [(cq,cell)]:=by
  have dK:∀ p∈di.names,p.2=.free→p=(cq,.free):=fun p hp he=>by
    have:p∈di.names.filter (fun p=>p.2 ==.free):=List.mem_filter.mpr ⟨hp,by rw [he];rfl⟩
    rw [hsc] at this
    exact List.mem_singleton.mp this
  rw [closure_pure fun p hp he=>by rw [dK p hp he,hcl];rfl]
  congr 1
  have gen:∀ (ns:List (PySem.Str×NameKind)) (acc:List (PySem.Str×Addr)),cR env ns acc=((ns.filter (fun p=>p.2 ==.free)).filterMap (fun p=>(env.cells.lookup p.1).map (p.1,·))).reverse++acc:=by
    intro ns
    induction ns with
    | nil=>intro acc;rfl
    | cons p r ih=>
      obtain ⟨nn,kd⟩:=p
      intro acc
      unfold cR
      by_cases hk:(kd ==NameKind.free)=true
      · rw [if_pos hk,List.filter_cons,if_pos hk]
        cases q:env.cells.lookup nn with
        | none=>
          show cR env r acc=_
          rw [ih,List.filterMap_cons_none (by simp [q])]
        | some a=>
          show cR env r ((nn,a) :: acc)=_
          exact ag (ih ..) (ag (List.filterMap_cons_some (b:=(nn,a)) (by simp [q]) ..) (ag (List.reverse_cons ..) (ag (List.append_assoc ..) (ag (List.singleton_append ..) rfl))))
      · rw [if_neg hk,List.filter_cons,if_neg hk];exact ih acc
  rw [gen,hsc]
  simp [hcl]
theorem mk_eqs {prog:Program} {w:World} {K:Frag} {h0:Heap} {l0:List (Addr×Addr)} {mg mb:PySem.Str→Option Value} {T:Tab} {fa:Nat→Option Addr} {hT hfa dW g b lim bi ok} {c:Cx} (hc:c=mkCx prog w K h0 l0 mg mb T fa hT hfa dW g b lim bi ok):
    c.gt=gTab∧c.T=T∧c.h0=h0∧c.l0=l0∧c.fa=fa∧c.prog=prog∧c.w=w∧c.mg=mg∧c.ca=dN∧c.K=K:=by
  subst hc;exact ⟨rfl,rfl,rfl,rfl,rfl,rfl,rfl,rfl,rfl,rfl⟩
theorem law_walk {prog:Program} {w:World} {K:Frag} {h0:Heap} {mg mb:PySem.Str→Option Value} (dW:K.In h0) (g:h0.Ns mainGlobals mg) (b:h0.Ns builtinsNs mb) (lim:h0.NoLimit) (bi:∀ x:PySem.Str,x≠ "__name__" → mb x=bootBuiltins x) (ok:allK K=true)
    (bmain:∃ bm ob,mg "__builtins__" = some (.ref bm)∧bm≠builtinsNs∧h0.get? bm=some ob∧ob.cls=.type "module" ∧ ob.dict=some builtinsNs∧ob.data=.plain)
    {A:Around} {n:Nat} (room:Room A (4*n+5) (16*n+213)) {s:Shared} {env:Env} {k1:Ck} {ρ0:List V} {cc P:Addr} {E:Value→Shared→Prop} {Q:Flow→Shared→Prop}
    {c1:Cx} (hc1:c1=mkCx prog w K h0 [] mg mb bE faTab tabs1 (fun zz zz h=>h) dW g b lim bi ok)
    (hr:c1.Rel s.heap ⟨[],[P]⟩ []) (z:At c1 k1 env s.heap ⟨[],[P]⟩ ρ0) (hP:s.heap.get? P=some (tabObj #[])) (cZ:env.code=.ref cc) (hd:CodeHd h0 cc P) (hfz:k1.frz=[])
    {x1 xs2:List XS} {b1 b2 rbody:List Stmt} {name cq:PySem.Str} {params:Arguments} {di:Scope} {pos:Pos} {iF iR:Nat}
    (ck1:chkSs gTab k1 x1 b1=true) (ck2:chkSs gTab ⟨k1.names,k1.res,k1.n,[cq]⟩ xs2 b2=true) (ckR:(⟨k1.names,k1.res,k1.n,[cq]⟩:Ck).st name iR=true)
    (hd0:params.defaults=[]) (hk0:params.kw_defaults=[]) (ha:annTrees params none env=[])
    (hF1:k1.res.lookup cq=some iF) (hF2:k1.names.lookup cq=some .cell)
    (hsc:di.names.filter (fun p=>p.2 ==.free)=[(cq,.free)])
    (hck:∀ (fs:V) qual doc pm c' ctv cell,chkFn gTab (a0 fs) (fnX name qual params rbody di [(cq,cell)] .none .none doc pm none (.ref c') ctv) (params.args.map (·.arg)++[cq])=true)
    (bg:di.names.all (fun p=>p.2 !=.cell)=true) (hyf:di.names.lookup cq=some .free) (hyp:cq∉params.args.map (·.arg))
    {ρ1 ρ2:List V} {σ1 σ2:St} {fs:V} (run1:aE bE (ab bE n) x1 ρ0 []=some (.aL,ρ1,σ1)) (hfs:bU ρ1 iF=some fs) (hpure:pureV fs=true)
    (run2:aE (tab2 fs) (ab (tab2 fs) n) xs2 (ρ1.set iR (.fn 900)) σ1=some (.ret (.bool true),ρ2,σ2))
    (hQ:∀ h' tk,(∀ a o,h0.get? a=some o→h'.get? a=some o)→(∃ ps,h'.get? P=some (tabObj ps))→Q (.ret (.bool true)) { s with heap:=h',toks:=tk }):
    wpAny (model prog w) A (execs (b1++.FunctionDef name params rbody [] none [] di none name pos :: b2) env) Q E s:=by
  obtain ⟨e_gt,e_T,e_h0,_,e_fa,eg,e_w,e_mg,e_ca,e_K⟩:=mk_eqs hc1
  clear hc1
  have hC1:bC c1 n (ab c1.T n):=callOk_all (fun kk f hf=>mk_fns e_gt (by refine ag e_K ?_;exact ok) (by replace hf:=e_T▸hf;exact hf) (by refine ag e_fa ?_;exact fun zz zz h=>h)) n
  refine cw eg (cw e_w ?_)
  replace ck1:=(Eq.symm e_gt)▸ck1
  replace run1:=(Eq.symm e_T)▸run1
  refine seq_ok hC1 x1 ck1 room hr z run1 fun h2 bN μ2 x2 r2 z2=>?_
  refine wpAny_execs_cons ?_
  have hPown:P∉own k1 env:=fun hm=>z_of (z.own_muts P hm) (.head _)
  have hP2:h2.get? P=some (tabObj #[]):=x2.keep _ _ hP (by simp [chg]) hPown
  have hz2:P∈μ2.z:=x2.zin (.head _)
  have live2:∀ a o,h0.get? a=some o→h2.get? a=some o:=fun a o e=>r2.1.keep a o (by refine ag e_h0 ?_;exact e)
  have neP:∀ {a:Addr} {o:Obj},h0.get? a=some o→a≠P:=fun {a o} e q=>by
    clear hQ run2 hpure hfs σ2 ρ2 hyp hyf bg fs hck hsc hF2 hF1 ha hk0 hd0 ckR ck2 iR iF pos di params cq name rbody b2 xs2 hfz hd cZ hP z hr Q E cc room A bmain ok bi lim b g dW mb live2 hP2 hPown run1 ck1 hC1 e_K e_ca e_mg e_w eg e_fa e_T e_gt z2 x2 bN;subst q
    exact r2.1.apart _ o (by refine ag e_h0 ?_;exact e) (List.mem_append.mpr (.inr hz2))
  have hgP:mainGlobals≠P:=by
    clear hQ run2 hpure hfs σ2 ρ2 hyp hyf bg fs hck hsc hF2 hF1 ha hk0 hd0 ckR ck2 iR iF pos di params cq name rbody b2 xs2 hfz hd cZ hP z hr Q E cc room A bmain ok bi lim b dW mb live2 hz2 hP2 hPown run1 ck1 hC1 e_K e_ca e_mg e_w eg e_fa e_h0 e_T e_gt z2 r2 x2 μ2 bN h2;obtain ⟨o,_,_,e,_⟩:=g
    exact neP e
  refine E2A3 (z2.ok.cell cq iF hF1 (.inl (by unfold Env.kindOf;refine ag z.names ?_;exact hF2))) fun cell u0 hcl hcc hcv=>?_
  refine aq (hcv fs hfs) fun u hu0 hu=>?_
  clear hP hr run1 ck1 hC1 e_K e_T e_gt hcv x2;subst hu0
  have hclos:closureFor di env=pure [(cq,cell)]:=closure_one hsc hcl
  refine E2A6 bmain fun bm ob q1 q2 q3 q4 q5 q6=>?_
  clear bmain
  have hbG:bm≠mainGlobals:=fun q=>by
    clear hQ run2 hpure hfs σ2 ρ2 hyp hyf bg hck hsc hF2 hF1 ha hk0 hd0 ckR ck2 iR iF pos params name rbody b2 b1 xs2 x1 hfz cZ z Q E ρ0 s room n A ok bi lim b dW mb K hclos hgP neP live2 hz2 hP2 hPown e_ca e_mg e_w eg e_fa e_h0 q5 q4 q2 q1 hu hcc hcl cell z2 r2 μ2 bN h2;obtain ⟨o,es,ep,e,hd,_⟩:=g
    replace q3:=e▸q▸q3;clear σ1 ρ1 fs di cq k1 env w prog u q e;cases q3;replace q6:=hd▸q6;clear hd ob bm;cases q6
  refine nestDef_K hd0 hk0 ha ?_
  refine makeFunction_K (s:={ s with heap:=h2,toks:=bN }) (mg:=mg) (ps:=#[]) hclos z.ok.glob (by have:=Cx.Rel.glob (s:={ s with heap:=h2 }) r2;rwa [e_mg] at this) cZ (hd.keeps live2) hP2 (by trivial) rfl hgP ⟨bm,ob,q1,q2,hbG,neP q3,live2 _ _ q3,q4,q5,q6⟩ fun c' ctv doc h3 tk3 hx3 hge3 hlt3 hrec3 hP3=>?_
  have hPc:P∉chg μ2:=r2.2.z_chg hz2
  refine E2A1 (List.append_of_mem hz2) fun ζ ξ hz=>?_
  have d:Drop P h2 μ2 h3 ⟨μ2.l,ζ++ξ⟩:=⟨rfl,(I2A2 ζ ξ hz rfl),hx3⟩
  generalize hμ3:(⟨μ2.l,ζ++ξ⟩:Mu)=μ3 at d
  have r3:=r2.drop d
  have z3:=z2.drop d hPc
  have hu3:=hu.mv (d.mv hPc)
  generalize hfo:fnMade name (qualnameIn env name name) params rbody di [(cq,cell)] doc ((mg "__name__").getD .none) c' ctv=fo
  have hfo_free:fo.isFreed=false:=by refine cw hfo ?_;rfl
  have r4:=r3.push fo
  have z4:=z3.ext (.push fo)
  have hu4:=hu3.ext (.push fo) (.nil _)
  have hf4:(h3.push fo).get? h3.objs.size=some fo:=Heap.get?_push_size _ hfo_free
  have up4:∀ a o,h3.get? a=some o→(h3.push fo).get? a=some o:=fun a o e=>Heap.get?_push_of_some _ e
  generalize h3.push fo=h4 at*
  have hcell4:=z4.ok.cap cq cell (mem_of_lookup hcl)
  refine E2A3 (z4.ok.cell cq iF hF1 (.inl (by unfold Env.kindOf;refine ag z.names ?_;exact hF2))) fun cell' u' hcl' hcc4 hcv4=>?_
  replace hcl':=hcl▸hcl';clear hsc hF2 hF1 hk0 hd0 b1 x1 cZ z ρ0 hu4 hfo_free hu3 z3 hbG hclos hgP neP live2 hz2 hP2 hd e_mg hz hlt3 q6 q5 q4 q3 q2 q1 ob bm hu;cases hcl'
  refine aq (hcv4 fs hfs) fun u1 hu1 hu14=>?_
  clear hfs cc hcv4;subst hu1
  refine aq (pure_reach hpure hu14) fun S hS hrun=>?_
  let keepP:Addr→Bool:=fun a=>(h0.get? a).isSome || a ==h3.objs.size || a ==c' || a ==cell || S.contains a
  generalize hL:(List.range h4.objs.size).filter (fun a=>!keepP a)=L
  have K1:∀ a o,keepP a=true→h4.get? a=some o→(hideAll h4 L).get? a=some o:=fun a o hk e=>hideAll_get _ e (by
    refine cw hL ?_
    intro hm
    have:=(List.mem_filter.mp hm).2
    replace this:=hk▸this;clear hQ run2 hpure σ2 ρ2 hyp hyf bg hck ha ckR ck2 iR iF b2 xs2 hfz Q E room n A ok bi lim b g dW mb K hcell4 up4 hf4 z4 r4 r3 d hPc hPown e_ca e_w eg e_fa e_h0 hk hrun hS hu14 hcc4 hP3 hrec3 hge3 hx3 tk3 hcc hcl e o hm z2 r2 bN h2;cases this)
  have K2:∀ a o,(hideAll h4 L).get? a=some o→h4.get? a=some o∧keepP a=true:=fun a o e=>by
    have e4:=of_hideAll _ e
    refine ⟨e4,?_⟩
    clear hQ run2 hpure σ2 ρ2 hyp hyf bg hck ha ckR ck2 iR iF b2 xs2 hfz Q E room n A ok bi lim b g dW mb K K1 hcell4 up4 hf4 z4 r4 r3 d hPc hPown e_ca e_w eg e_fa e_h0 hrun hS hu14 hcc4 hP3 hrec3 hge3 hx3 tk3 hcc hcl z2 r2 bN h2;cases hk:keepP a with
    | true=>rfl
    | false=>
      have:a∈L:=by
        refine cw hL ?_
        exact List.mem_filter.mpr ⟨List.mem_range.mpr (Heap.lt_size e4),by refine ag hk ?_;rfl⟩
      replace e:=(hideAll_none _ this)▸e;clear σ1 ρ1 fs pos P k1 s w prog e4 this hk u1 u a;cases e
  have k0:∀ a o,h0.get? a=some o→(hideAll h4 L).get? a=some o:=fun a o e=>K1 a o (by simp [keepP,e]) (r4.1.keep a o (by refine ag e_h0 ?_;exact e))
  have kf:(hideAll h4 L).get? h3.objs.size=some fo:=K1 _ _ (by simp [keepP]) hf4
  refine aq hcc4 fun occ hocc hoccd=>?_
  clear hcc4
  have kcell:(hideAll h4 L).get? cell=some occ:=K1 _ _ (by simp [keepP]) hocc
  refine E4A4 hrec3 fun c'' occ' vs' t' hc'' hoc' hdc' hvc'=>?_
  clear hrec3
  clear hpure iF hf4 hocc hu14;cases hc''
  have kcode:(hideAll h4 L).get? c'=some occ':=K1 _ _ (by simp [keepP]) (up4 _ _ hoc')
  have kS:∀ a∈S,∀ o,h4.get? a=some o→(hideAll h4 L).get? a=some o:=fun a ha o e=>K1 a o (by simp [keepP,ha]) e
  have cases5:∀ a,keepP a=true→(h0.get? a).isSome=true∨a=h3.objs.size∨a=c'∨a=cell∨a∈S:=fun a hk=>by
    simp only [keepP,Bool.or_eq_true,beq_iff_eq,List.contains_iff_mem] at hk
    clear hQ run2 σ2 ρ2 hyp hyf bg hck ckR ck2 iR b2 xs2 hfz Q E room n A ok bi lim b g dW mb K kS kcode kcell kf k0 K2 K1 hcell4 up4 z4 r4 r3 d hPc hPown e_ca e_w eg e_fa e_h0 ha hvc' hdc' hoc' t' vs' occ' hoccd occ hrun hS u1 hP3 hge3 hx3 tk3 hcc hcl z2 r2 bN h2;rcases hk with (((hk | hk) | hk) | hk) | hk
    · exact .inl hk
    · exact .inr (.inl hk)
    · exact .inr (.inr (.inl hk))
    · exact .inr (.inr (.inr (.inl hk)))
    · exact .inr (.inr (.inr (.inr hk)))
  have hfa:∀ k a,faTab k=some a→(fun k=>if k=900 then some h3.objs.size else faTab k) k=some a:=fun k a e=>by
    by_cases q:k=900
    · clear hQ run2 σ2 ρ2 hyp hyf bg hck ckR ck2 iR b2 xs2 hfz Q E room n A ok bi lim b g dW mb K cases5 kS kcode kcell kf k0 K2 K1 hcell4 up4 z4 r4 r3 d hPc hPown e_ca e_w eg e_fa e_h0 ha hvc' hdc' hoc' t' vs' occ' hoccd occ hrun hS u1 hP3 hge3 hx3 tk3 hcc hcl z2 r2 bN h2;subst q;replace e:=faTab_900▸e;clear σ1 ρ1 fs pos P k1 s w prog u;cases e
    · simp [q,e]
  have base2:BaseOk (hideAll h4 L) μ3.l h4 μ3:=⟨fun a o e=>(K2 a o e).1,fun a o e=>by
    clear hQ run2 σ2 ρ2 hyp hyf bg hck ckR ck2 iR b2 xs2 hfz Q E room n A ok bi lim b g dW mb K hfa kS kcode kcell kf k0 K1 up4 z4 hPc hPown e_ca e_w eg e_fa ha hvc' hdc' hoc' t' vs' occ' hoccd occ hrun u1 hP3 hx3 tk3 hcc hcl z2;rcases cases5 a (K2 a o e).2 with q | q | q | q | q
    · refine aN (Option.isSome_iff_exists.mp q) fun o' e'=>?_
      exact r4.1.apart a o' (by refine ag e_h0 ?_;exact e')
    · clear ρ1 fs pos k1 w prog cases5 K2 hcell4 r4 d e_h0 hS hge3 u e o r2 bN h2;subst q;exact r3.2.fresh (aJ _ (Nat.le_refl _))
    · clear ρ1 fs pos k1 w prog cases5 K2 hcell4 r4 r3 e_h0 hS u e o;subst q;exact (d.mem (r2.2.fresh (aJ _ hge3))).1
    · clear ρ1 fs pos k1 w prog cases5 K2 r4 r3 d e_h0 hS hge3 u e o r2 bN h2;subst q;exact hcell4.1
    · exact (hS.at_ a q).1,r4.1.high,[],by simp⟩
  clear K1 hcell4 r3 hoc' r2;obtain ⟨c2,hc2⟩:∃ c2,c2=mkCx prog w K (hideAll h4 L) μ3.l mg mb (tab2 fs) (fun k=>if k=900 then some h3.objs.size else faTab k) (tabs2 fs) hfa (dW.keeps k0) (g.keeps k0) (b.keeps k0) (lim.keeps k0) bi ok:=⟨_,rfl⟩
  obtain ⟨f_gt,f_T,f_h0,f_l0,f_fa,f_prog,f_w,_,f_ca,f_K⟩:=mk_eqs hc2
  clear hc2
  replace f_ca:=f_ca.trans e_ca.symm
  have hfa12:∀ k a,c1.fa k=some a→c2.fa k=some a:=fun k a e=>by refine ag f_fa ?_;replace e:=e_fa▸e;exact hfa k a e
  have rel2:c2.Rel h4 μ3 σ1:=⟨by refine ag f_h0 (ag f_l0 ?_);exact base2,by refine ag f_prog (ag f_w (ag f_ca (cw eg (cw e_w ?_))));exact r4.2.wider hfa12⟩
  have at2:At c2 ⟨k1.names,k1.res,k1.n,[cq]⟩ env h4 μ3 ρ1:=by
    refine ⟨z4.names,z4.ok.wider hfa12,z4.len,z4.chk,fun a hm=>?_⟩
    refine ag f_h0 ?_
    clear hQ run2 σ2 ρ2 hyp hyf bg hck ckR ck2 iR b2 xs2 Q E room n A bi lim b g dW mb rel2 hfa12 base2 hfa kS kcode kcell kf k0 z4 r4 d hPc f_K f_ca f_w f_prog f_fa f_l0 f_h0 f_T f_gt e_ca e_w eg e_fa ha hvc' hdc' t' vs' occ' hoccd occ hrun u1 hP3 tk3;cases e:(hideAll h4 L).get? a with
    | none=>rfl
    | some o=>
      exfalso
      refine aY (K2 a o e) fun e4 hk=>?_
      have hm1:a∈own k1 env:=by
        clear σ1 fs pos ok K w prog cases5 K2 up4 hPown e_h0 e4 hk hS hge3 hx3 hcc hcl e o z2 bN h2;rcases List.mem_cons.mp hm with q | hm
        · refine ag q ?_;exact List.mem_cons_self
        · refine aq (List.mem_map.mp hm) fun p hp zq2=>?_
          clear ρ1 P s u hm;subst zq2
          refine aY (List.mem_filter.mp hp) fun p1 p2=>?_
          replace p2:=(Bool.and_eq_true ..)▸p2
          exact List.mem_cons_of_mem _ (List.mem_map.mpr (aI p (List.mem_filter.mpr ⟨p1,by refine ag (Bool.and_eq_true ..) (ag (hfz ..) ?_);exact ⟨p2.1,rfl⟩⟩) rfl))
      have live:∃ o2,h2.get? a=some o2∧((∃ es nn,o2.data=.dict es nn)∨∃ v,o2.data=.cell v):=by
        clear σ1 fs pos hfz w prog cases5 K2 up4 hPown e_h0 e4 hk hS hge3 hx3 hcc hcl e o hm bN;rcases List.mem_cons.mp hm1 with q | hm'
        · clear P s hm1 u;obtain ⟨m,⟨o2,es,nn,e2,hd2,_⟩,_⟩:=z2.ok.ns
          exact aI o2 (by refine ag q ?_;exact e2) (.inl ⟨es,nn,hd2⟩)
        · refine aq (List.mem_map.mp hm') fun p hp zq2=>?_
          clear P s hm1 u;subst zq2
          obtain ⟨_,v,o2,e2,hd2⟩:=z2.ok.cap p.1 p.2 (List.mem_filter.mp hp).1
          exact aI o2 e2 (.inr ⟨v,hd2⟩)
      refine aq live fun o2 e2 hd2=>?_
      clear live
      have haP:a≠P:=fun q=>hPown (q▸hm1)
      have e3:=hx3 a o2 haP e2
      have e24:=up4 _ _ e3
      replace e24:=e4▸e24;clear σ1 fs pos hfz w prog haP K2 up4 hPown hx3 e;cases e24
      clear P;rcases cases5 a hk with q | q | q | q | q
      · have:=z2.mine a hm1
        replace this:=e_h0▸this
        replace q:=this▸q;clear ok K e3 hm1 cases5 this e_h0 hd2 e2 e4 hk hS hge3 hcc hcl o hm z2 bN h2;cases q
      · exact absurd (Heap.lt_size e3) (by refine ag q ?_;exact Nat.lt_irrefl _)
      · exact absurd (Heap.lt_size e2) (by refine ag q ?_;exact Nat.not_lt.mpr hge3)
      · clear e3 hm1 cases5 e_h0 hd2 e2 e4 hk hS hge3 o bN;rcases List.mem_cons.mp hm with q' | hm'
        · refine aq z2.ok.ns fun m hn zz=>?_
          exact cells_ne hn hcc (by exact cw q (ag q' rfl))
        · refine aq (List.mem_map.mp hm') fun p hp q'=>?_
          refine aY (List.mem_filter.mp hp) fun p1 p2=>?_
          replace p2:=(Bool.and_eq_true ..)▸p2
          have:p.1=cq:=name_of_addr z2.ok.apart (c:=cell) (by refine cw q (cw q' ?_);exact p1) (mem_of_lookup hcl)
          have p3:=p2.2
          replace p3:=this▸p3
          simp at p3
      · clear ok K e3 hm1 cases5 e_h0 e2 hk hge3 hcc hcl hm z2 bN h2;obtain ⟨_,o5,e5,vs5,n5,hd5⟩:=hS.at_ a q
        replace e5:=e4▸e5;clear ρ1 k1 s e4 hS u q;cases e5
        rcases hd2 with ⟨es,nn,hd2⟩ | ⟨v,hd2⟩ <;> replace hd2:=hd5▸hd2 <;> cases hd2
  have hC2:bC c2 n (ab c2.T n):=callOk_all (fun kk f hf=>by
    by_cases q:kk=900
    · clear hQ run2 σ2 ρ2 ckR ck2 iR b2 xs2 hfz Q E room A ok bi lim b g dW mb at2 rel2 hfa12 base2 hfa cases5 k0 K2 up4 z4 r4 d hPc hPown f_K f_ca f_w f_prog e_ca e_w eg e_fa e_h0 hP3 hge3 hx3 tk3 hcc hcl z2 bN h2;subst q
      replace hf:=f_T▸hf
      have hf':some (a0 fs)=some f:=hf
      clear σ1 ρ1 pos P k1 s K w prog f_T hf;cases hf'
      refine I3A4 h3.objs.size fo _ (by refine ag f_fa ?_;rfl) (by refine ag f_h0 ?_;exact kf) (by exact cw hfo rfl) ?_
      refine fnGoodC (fd:=fnX name (qualnameIn env name name) params rbody di [(cq,cell)] .none .none doc ((mg "__name__").getD .none) none (.ref c') ctv) (cell:=cell) (oc:=occ) (y:=cq) (fv:=fs) (u:=u1) (o:=fo) (by refine ag f_h0 ?_;exact kf) (by exact cw hfo rfl) (by refine ag f_gt ?_;exact hck fs _ _ _ _ _ _) rfl rfl rfl bg hyf hyp (by refine ag f_h0 ?_;exact kcell) hoccd (fun h μ B=>hrun h μ _ (fun a ha o e=>B.keep a o (by refine ag f_h0 ?_;exact kS a ha o e)) (fun a ha=>?_) fun n p e=>by
        refine aN B.pre fun ν e1=>?_
        refine ag e1 (ag f_l0 (ag (List.getElem?_append_left (List.getElem?_eq_some_iff.mp e).1) ?_));exact e) (.inl rfl) ⟨c',occ',vs',t',rfl,by refine ag f_h0 ?_;exact kcode,hdc',hvc'⟩
      clear hyp hyf bg hck kcode kcell kf f_fa f_l0 f_gt n hvc' hdc' t' vs' occ' hoccd occ hrun u1 u;obtain ⟨_,o5,e5,_⟩:=hS.at_ a ha
      exact B.apart a o5 (by refine ag f_h0 ?_;exact kS a ha o5 e5)
    · have hf':fnTab kk=some f:=by
        replace hf:=f_T▸hf
        have:(if kk=900 then some (a0 fs) else fnTab kk)=some f:=hf
        rwa [if_neg q] at this
      exact mk_fns f_gt (by refine ag f_K ?_;exact ok) hf' fun k a e=>by refine ag f_fa ?_;exact hfa k a e) n
  have rep900:Rep c2.fa h4 μ3 (.ref h3.objs.size) (.fn 900):=.fn (by refine ag f_fa ?_;rfl)
  refine ag eg (ag e_w (cw f_prog (cw f_w ?_)))
  refine (store_ok (c:=c2) (s:={ s with heap:=h4,toks:=tk3 }) rel2 at2 ckR rep900).use fun zz h5 tk5 μ5 x5 zp=>?_
  clear hyp hyf bg hck ckR ok bi lim b g dW mb rep900 at2 rel2 hfa12 base2 hfa cases5 kS kcode kcell kf K2 z4 r4 f_K f_ca f_w f_prog f_fa f_l0 e_ca e_w eg e_fa e_h0 ha hvc' hdc' t' vs' occ' hoccd occ hrun hS u1 hge3 hx3 hcc hcl z2 bN zz;obtain ⟨e5,r5,z5⟩:=zp
  clear K w prog u;subst e5
  have run2':aE c2.T (ab c2.T n) xs2 (ρ1.set iR (.fn 900)) σ1=some (.ret (.bool true),ρ2,σ2):=by refine ag f_T ?_;exact run2
  have ck2':chkSs c2.gt ⟨k1.names,k1.res,k1.n,[cq]⟩ xs2 b2=true:=by refine ag f_gt ?_;exact ck2
  have last:=sound_Ss hC2 xs2 ck2' room (s:={ s with heap:=h5,toks:=tk5 }) r5 z5 run2'
  refine last.use fun fl h6 tk6 μ6 x6 p6=>?_
  refine dJ p6 fun r6 z6 fl6=>?_
  clear p6
  clear run2 ck2 E room last ck2' run2' hC2 z5 r5 f_T f_gt z6 n;cases fl6 with
  | ret rv=>
  clear σ1 ρ2 ρ1 fs iR b2 xs2 A;cases rv
  have x56:=x5.trans x6
  refine hQ h6 tk6 (fun a o e=>r6.1.keep a o (by refine ag f_h0 ?_;exact k0 a o e)) ⟨_,x56.keep _ _ (up4 _ _ hP3) (by refine ag d.chg ?_;exact hPc) fun hm=>?_⟩
  refine hPown ?_
  clear hQ Q x56 k0 up4 d hPc hPown f_h0 r6 x6 μ6 tk6 h6 x5 tk5 h5 hP3 tk3 h2;rcases List.mem_cons.mp hm with q | hm
  · refine ag q ?_;exact List.mem_cons_self
  · refine aq (List.mem_map.mp hm) fun p hp zq2=>?_
    clear σ2 pos s hm;subst zq2
    refine aY (List.mem_filter.mp hp) fun p1 p2=>?_
    replace p2:=(Bool.and_eq_true ..)▸p2
    exact List.mem_cons_of_mem _ (List.mem_map.mpr (aI p (List.mem_filter.mpr ⟨p1,by refine ag (Bool.and_eq_true ..) (ag (hfz ..) ?_);exact ⟨p2.1,rfl⟩⟩) rfl))
end
section
end
section
open PySem PySem.W
noncomputable def pw:Program:=PySem.Challenge.pw_sj0065_01
noncomputable def nth (i:Nat):Stmt:=pw.main.body.getD i default
noncomputable def onFD {α:Type} (s:Stmt) (f:Str→Arguments→List Stmt→Scope→Pos→α) (d:α):α:=if h:s.ctorIdx=0 then Stmt.FunctionDef.elim (motive_2:=fun _=>α) s h (fun nm a b _ _ _ sc _ _ p=>f nm a b sc p) else d
noncomputable def onCD {α:Type} (s:Stmt) (f:Str→List Stmt→α) (d:α):α:=if h:s.ctorIdx=2 then Stmt.ClassDef.elim (motive_2:=fun _=>α) s h (fun nm _ _ b _ _ _ _ _ _ _=>f nm b) else d
noncomputable def onAs {α:Type} (s:Stmt) (f:List Expr→α) (d:α):α:=if h:s.ctorIdx=5 then Stmt.Assign.elim (motive_2:=fun _=>α) s h (fun l _ _=>f l) else d
noncomputable def onNa {α:Type} (e:Expr) (f:Str→α) (d:α):α:=if h:e.ctorIdx=23 then Expr.Name.elim (motive_1:=fun _=>α) e h (fun x _=>f x) else d
noncomputable def sub (s:Stmt) (i:Nat):Stmt:=onCD s (fun _ b=>b.getD i default) default
noncomputable def fileS:Str:=Str.ofString "/claim/cut.py"
noncomputable def oTup (l:List Value):Obj:=⟨.type "tuple",none,.seq (Array.mk l) 0,Array.mk []⟩
noncomputable def oFld (l:List Value):Obj:=⟨.none,none,.fields (Array.mk l),Array.mk []⟩
noncomputable def a7 (c:String) (l:List Value):Obj:=⟨.type c,none,.fields (Array.mk l),Array.mk []⟩
noncomputable def strV:List (Str×NameKind)→Nat→List Value
  | [],_=>[]
  | (x,.local) :: l,t=>.str x t :: strV l (Nat.succ t)
  | _ :: l,t=>strV l t
noncomputable def locs:List (Str×NameKind)→Nat
  | []=>0
  | (_,.local) :: l=>Nat.succ (locs l)
  | _ :: l=>locs l
noncomputable def oFun0 (nm q:Str) (a:Arguments) (b:List Stmt) (sc:Scope):Obj:=⟨.none,none,.func ⟨nm,q,a,.stmts b,sc,0,[],.none,.none,.none,.none,none,.none,.none,0⟩,Array.mk []⟩
noncomputable def oFun (nm q:Str) (a:Arguments) (b:List Stmt) (sc:Scope) (d m:Value) (c:Nat):Obj:=⟨.type "function",none,.func ⟨nm,q,a,.stmts b,sc,3,[],d,.none,.none,m,none,.ref c,.none,0⟩,Array.mk []⟩
noncomputable def iv (n:Nat):Value:=.int (Int.ofNat n) 0
noncomputable def oCode (nm q:Str) (t ln na fl r1:Nat) (bb:Bool) (r2:Nat) (e:List Value) (t2:Nat):Obj:=
  a7 "code" ([.str nm t,.str q (t+1),.str fileS (t+2),iv ln,iv na,iv 0,iv 0,iv fl,.ref r1,.bool bb,iv 181,.ref r2,.none]++e++[iv t2,iv ln,.str fileS (t2+1)])
noncomputable def dO (s:Stmt) (q:Str) (n t:Nat) (d m:Value):List Obj:=onFD s (fun nm a b sc p=>match sc.more.isEmpty with
    | true=>[oTup [],oFld [],oTup (strV sc.names (t+3)),oTup [],oFun0 nm q a b sc,oCode nm q t p.line a.args.length 3 n true (n+1) [.ref (n+2),.ref (n+3),.ref (n+4)] (t+3+locs sc.names),oFun nm q a b sc d m (n+5)]
    | false=>[oTup [],oFld [],oFun0 nm q a b sc,oCode nm q t p.line a.args.length 3 n true (n+1) [.none,.none,.ref (n+2)] (t+3),oFun nm q a b sc d m (n+3)]) []
noncomputable def bnm (s:Stmt):Str:=onFD s (fun nm _ _ _ _=>nm) (onCD s (fun nm _=>nm) (onAs s (fun l=>onNa (l.headD default) id Str.empty) Str.empty))
noncomputable def d1 (i n t:Nat) (d m:Value):List Obj:=dO (nth i) (bnm (nth i)) n t d m
noncomputable def d2 (i j n t:Nat) (q:Str) (d m:Value):List Obj:=dO (sub (nth i) j) q n t d m
noncomputable def en (P:Params) (x:Str) (t:Nat) (v:Value):DictEntry:=⟨PyData.keyHash P x,.str x t,v⟩
noncomputable def oDic (l:List DictEntry) (n:Nat):Obj:=⟨.type "dict",none,.dict (Array.mk l) n,Array.mk []⟩
noncomputable def oPlain (c:String) (s:List (Option Value)):Obj:=⟨.type c,none,.plain,Array.mk s⟩
noncomputable def oCls (n:Str) (bs mro:List Value) (ns:Nat) (subs:List Value) (s:List (Option Value)):Obj:=⟨.type "type",none,.cls ⟨n,bs,mro,ns,n,true,[],subs,false,none,false⟩,Array.mk s⟩
end
section
open PySem PySem.W
noncomputable def pick:List Obj→Bool→List Obj
  | [],_=>[]
  | x :: l,true=>x :: pick l false
  | _ :: l,false=>pick l true
noncomputable def odds (l:List Obj):=pick l true
noncomputable def evens (l:List Obj):=pick l false
noncomputable def bt:Nat→List Obj→BT
  | 0,_=>.nil
  | _+1,[]=>.nil
  | n+1,x :: l=>.node x (bt n (odds l)) (bt n (evens l))
noncomputable def nw0 (P:Params):List Obj:=
  d1 0 15 187 (.none) (.str "__main__" 164)++(
  [oTup [.type "Exception"],a7 "builtin_function_or_method" [.builtin "type.__prepare__",.type "type"],oDic [en P "__module__" 203 (.str "gateloom.errors" 194),en P "__qualname__" 205 (.str "GateloomError" 204),en P "__firstlineno__" 207 (.int 5 206),en P "__init__" 220 (.ref 36),en P "__static_attributes__" 224 (.ref 37)] 5,oTup [],oFld [.int 7 0,.int 4 0,.ref 35],a7 "code" [.str "GateloomError" 198,.str "GateloomError" 199,.str "/claim/cut.py" 200,.int 5 0,.int 0 0,.int 0 0,.int 0 0,.int 0 0,.ref 25,.bool false,.int 181 0,.ref 26,.none,.none,.none,.none,.int 201 0,.int 5 0,.str "/claim/cut.py" 202],oPlain "frame" [some (.ref 27),some (.ref 3),some (.ref 24),none,some (.str "gateloom.errors" 194),none,some (.ref 0)],oTup [.int (-1) 209,.str "" 210]]++(
  d2 2 0 30 211 "GateloomError.__init__" (.ref 29) (.str "gateloom.errors" 194)++(
  [oTup [.str "at" 221,.str "detail" 222,.str "kind" 223],oDic [en P "__module__" 203 (.str "gateloom.errors" 194),en P "__firstlineno__" 207 (.int 5 206),en P "__init__" 220 (.ref 36),en P "__static_attributes__" 224 (.ref 37),en P "__weakref__" 226 (.ref 40),en P "__doc__" 227 (.none)] 3,oCls "GateloomError" [.type "Exception"] [.ref 39,.type "Exception",.type "BaseException",.type "object"] 38 [.ref 52,.ref 64] [some (.ref 22),none,some (.str "GateloomError" 196),some (.str "GateloomError" 204),some (.builtin "Exception.__new__"),some (.bool true)],a7 "getset_descriptor" [.str "__weakref__" 225,.ref 39,.builtin "ExceptionGroup.__weakref__",.none],a7 "super" [.ref 39,.ref 39,.ref 39],a7 "builtin_function_or_method" [.builtin "object.__init_subclass__",.ref 39],oTup [.ref 39],a7 "builtin_function_or_method" [.builtin "type.__prepare__",.type "type"],oDic [en P "__module__" 239 (.str "gateloom.errors" 194),en P "__qualname__" 241 (.str "DesignError" 240),en P "__firstlineno__" 243 (.int 11 242),en P "__static_attributes__" 244 (.ref 50)] 4,oTup [],oFld [],a7 "code" [.str "DesignError" 234,.str "DesignError" 235,.str "/claim/cut.py" 236,.int 11 0,.int 0 0,.int 0 0,.int 0 0,.int 0 0,.ref 46,.bool false,.int 181 0,.ref 47,.none,.none,.none,.none,.int 237 0,.int 11 0,.str "/claim/cut.py" 238],oPlain "frame" [some (.ref 48),some (.ref 3),some (.ref 45),none,some (.str "gateloom.errors" 194),none,some (.ref 0)],oTup [],oDic [en P "__module__" 239 (.str "gateloom.errors" 194),en P "__firstlineno__" 243 (.int 11 242),en P "__static_attributes__" 244 (.ref 50),en P "__doc__" 245 (.none)] 2,oCls "DesignError" [.ref 39] [.ref 52,.ref 39,.type "Exception",.type "BaseException",.type "object"] 51 [] [some (.ref 43),none,some (.str "DesignError" 232),some (.str "DesignError" 240),some (.builtin "Exception.__new__"),some (.bool true)],a7 "super" [.ref 52,.ref 52,.ref 52],a7 "builtin_function_or_method" [.builtin "object.__init_subclass__",.ref 52],oTup [.ref 39],a7 "builtin_function_or_method" [.builtin "type.__prepare__",.type "type"],oDic [en P "__module__" 255 (.str "gateloom.errors" 194),en P "__qualname__" 257 (.str "LimitReached" 256),en P "__firstlineno__" 259 (.int 13 258),en P "__static_attributes__" 260 (.ref 62)] 4,oTup [],oFld [],a7 "code" [.str "LimitReached" 250,.str "LimitReached" 251,.str "/claim/cut.py" 252,.int 13 0,.int 0 0,.int 0 0,.int 0 0,.int 0 0,.ref 58,.bool false,.int 181 0,.ref 59,.none,.none,.none,.none,.int 253 0,.int 13 0,.str "/claim/cut.py" 254],oPlain "frame" [some (.ref 60),some (.ref 3),some (.ref 57),none,some (.str "gateloom.errors" 194),none,some (.ref 0)],oTup [],oDic [en P "__module__" 255 (.str "gateloom.errors" 194),en P "__firstlineno__" 259 (.int 13 258),en P "__static_attributes__" 260 (.ref 62),en P "__doc__" 261 (.none)] 2,oCls "LimitReached" [.ref 39] [.ref 64,.ref 39,.type "Exception",.type "BaseException",.type "object"] 63 [] [some (.ref 55),none,some (.str "LimitReached" 248),some (.str "LimitReached" 256),some (.builtin "Exception.__new__"),some (.bool true)],a7 "super" [.ref 64,.ref 64,.ref 64],a7 "builtin_function_or_method" [.builtin "object.__init_subclass__",.ref 64]])))
noncomputable def nw1 (P:Params):List Obj:=
  d1 6 67 266 (.none) (.str "gateloom.vec" 264)++(
  [oTup [.int 0 273]]++(
  d1 7 75 274 (.ref 74) (.str "gateloom.vec" 264)++(
  d1 8 82 284 (.none) (.str "gateloom.vec" 264)++(
  d1 9 89 291 (.none) (.str "gateloom.vec" 264)++(
  d1 10 96 298 (.none) (.str "gateloom.vec" 264)++(
  d1 11 103 306 (.none) (.str "gateloom.vec" 264)++(
  d1 12 110 313 (.none) (.str "gateloom.vec" 264)++(
  d1 13 117 321 (.none) (.str "gateloom.vec" 264)++(
  d1 14 124 328 (.none) (.str "gateloom.vec" 264)++(
  d1 15 131 339 (.none) (.str "gateloom.vec" 264)++(
  d1 16 138 347 (.none) (.str "gateloom.vec" 264)++(
  d1 17 145 363 (.none) (.str "gateloom.vec" 264)))))))))))))
noncomputable def nw2 (P:Params):List Obj:=
  d1 18 152 379 (.none) (.str "gateloom.vec" 264)++(
  d1 19 159 390 (.none) (.str "gateloom.vec" 264)++(
  d1 20 166 403 (.none) (.str "gateloom.vec" 264)++(
  d1 21 173 410 (.none) (.str "gateloom.vec" 264)++(
  d1 23 180 419 (.none) (.str "gateloom.vecarith" 417)++(
  d1 24 187 427 (.none) (.str "gateloom.vecarith" 417)++(
  d1 25 194 435 (.none) (.str "gateloom.vecarith" 417)++(
  d1 26 201 443 (.none) (.str "gateloom.vecarith" 417)++(
  d1 27 208 450 (.none) (.str "gateloom.vecarith" 417)++(
  d1 28 215 459 (.none) (.str "gateloom.vecarith" 417)++(
  d1 29 222 470 (.none) (.str "gateloom.vecarith" 417)++(
  d1 30 229 481 (.none) (.str "gateloom.vecarith" 417))))))))))))
noncomputable def nw3 (P:Params):List Obj:=
  d1 31 236 494 (.none) (.str "gateloom.vecarith" 417)++(
  d1 32 243 507 (.none) (.str "gateloom.vecarith" 417)++(
  d1 33 250 517 (.none) (.str "gateloom.vecarith" 417)++(
  d1 34 257 526 (.none) (.str "gateloom.vecarith" 417)++(
  d1 35 264 541 (.none) (.str "gateloom.vecarith" 417)++(
  d1 36 271 552 (.none) (.str "gateloom.vecarith" 417)++(
  d1 37 278 562 (.none) (.str "gateloom.vecarith" 417)++(
  d1 38 285 572 (.none) (.str "gateloom.vecarith" 417)++(
  d1 39 292 581 (.none) (.str "gateloom.vecarith" 417)++(
  d1 41 299 592 (.none) (.str "gateloom.vecops" 590)++(
  d1 42 306 599 (.none) (.str "gateloom.vecops" 590)++(
  d1 43 313 609 (.none) (.str "gateloom.vecops" 590))))))))))))
noncomputable def nw4 (P:Params):List Obj:=
  d1 44 320 623 (.none) (.str "gateloom.vecops" 590)++(
  d1 45 327 638 (.none) (.str "gateloom.vecops" 590)++(
  d1 46 334 647 (.none) (.str "gateloom.vecops" 590)++(
  d1 47 341 655 (.none) (.str "gateloom.vecops" 590)++(
  d1 48 348 665 (.none) (.str "gateloom.vecops" 590)++(
  d1 49 355 672 (.none) (.str "gateloom.vecops" 590)++(
  d1 50 362 679 (.none) (.str "gateloom.vecops" 590)++(
  d1 51 369 686 (.none) (.str "gateloom.vecops" 590)++(
  d1 52 376 695 (.none) (.str "gateloom.vecops" 590)++(
  d1 53 383 702 (.none) (.str "gateloom.vecops" 590)++(
  d1 54 390 709 (.none) (.str "gateloom.vecops" 590)++(
  d1 55 397 717 (.none) (.str "gateloom.vecops" 590)++(
  d1 56 404 725 (.none) (.str "gateloom.vecops" 590)))))))))))))
noncomputable def nw5 (P:Params):List Obj:=
  d1 57 411 734 (.none) (.str "gateloom.vecops" 590)++(
  d1 58 418 742 (.none) (.str "gateloom.vecops" 590)++(
  d1 59 425 750 (.none) (.str "gateloom.vecops" 590)++(
  d1 60 432 758 (.none) (.str "gateloom.vecops" 590)++(
  d1 61 439 769 (.none) (.str "gateloom.vecops" 590)++(
  d1 63 446 784 (.none) (.str "gateloom.evaluate" 782)++(
  d1 64 453 792 (.none) (.str "gateloom.evaluate" 782)++(
  d1 65 460 802 (.none) (.str "gateloom.evaluate" 782)++(
  d1 66 467 812 (.none) (.str "gateloom.evaluate" 782)++(
  d1 67 474 821 (.none) (.str "gateloom.evaluate" 782)++(
  d1 68 481 832 (.none) (.str "gateloom.evaluate" 782)++(
  d1 69 488 841 (.none) (.str "gateloom.evaluate" 782))))))))))))
noncomputable def nw6 (P:Params):List Obj:=
  d1 70 495 851 (.none) (.str "gateloom.evaluate" 782)++(
  d1 71 502 861 (.none) (.str "gateloom.evaluate" 782)++(
  d1 72 509 871 (.none) (.str "gateloom.evaluate" 782)++(
  d1 73 516 879 (.none) (.str "gateloom.evaluate" 782)++(
  d1 74 523 890 (.none) (.str "gateloom.evaluate" 782)++(
  d1 75 528 896 (.none) (.str "gateloom.evaluate" 782)++(
  d1 76 535 905 (.none) (.str "gateloom.evaluate" 782)++(
  d1 77 542 913 (.none) (.str "gateloom.evaluate" 782)++(
  d1 78 549 932 (.none) (.str "gateloom.evaluate" 782)))))))))
noncomputable def nw7 (P:Params):List Obj:=
  [oTup [],a7 "builtin_function_or_method" [.builtin "type.__prepare__",.type "type"],oDic [en P "__module__" 958 (.str "gateloom.store" 949),en P "__qualname__" 960 (.str "Store" 959),en P "__firstlineno__" 962 (.int 472 961),en P "__init__" 970 (.ref 569),en P "get" 980 (.ref 576),en P "word" 992 (.ref 583),en P "set_bits" 1005 (.ref 590),en P "__static_attributes__" 1010 (.ref 591)] 8,oTup [],oFld [.int 474 0,.int 4 0,.ref 568,.int 480 0,.int 4 0,.ref 575,.int 489 0,.int 4 0,.ref 582,.int 504 0,.int 4 0,.ref 589],a7 "code" [.str "Store" 953,.str "Store" 954,.str "/claim/cut.py" 955,.int 472 0,.int 0 0,.int 0 0,.int 0 0,.int 0 0,.ref 559,.bool false,.int 181 0,.ref 560,.none,.none,.none,.none,.int 956 0,.int 472 0,.str "/claim/cut.py" 957],oPlain "frame" [some (.ref 561),some (.ref 3),some (.ref 558),none,some (.str "gateloom.store" 949),none,some (.ref 0)]]++(
  d2 80 0 563 963 "Store.__init__" (.none) (.str "gateloom.store" 949)++(
  d2 80 1 570 971 "Store.get" (.none) (.str "gateloom.store" 949)++(
  d2 80 2 577 981 "Store.word" (.none) (.str "gateloom.store" 949)++(
  d2 80 3 584 993 "Store.set_bits" (.none) (.str "gateloom.store" 949)++(
  [oTup [.str "memories" 1006,.str "random_seed" 1007,.str "signals" 1008,.str "values" 1009],oDic [en P "__module__" 958 (.str "gateloom.store" 949),en P "__firstlineno__" 962 (.int 472 961),en P "__init__" 970 (.ref 569),en P "get" 980 (.ref 576),en P "word" 992 (.ref 583),en P "set_bits" 1005 (.ref 590),en P "__static_attributes__" 1010 (.ref 591),en P "__dict__" 1012 (.ref 594),en P "__weakref__" 1014 (.ref 595),en P "__doc__" 1015 (.none)] 4,oCls "Store" [.type "object"] [.ref 593,.type "object"] 592 [] [none,none,some (.str "Store" 951),some (.str "Store" 959),some (.builtin "object.__new__"),some (.bool true)],a7 "getset_descriptor" [.str "__dict__" 1011,.ref 593,.builtin "function.__dict__",.builtin "function.__dict__#set"],a7 "getset_descriptor" [.str "__weakref__" 1013,.ref 593,.builtin "ExceptionGroup.__weakref__",.none],a7 "super" [.ref 593,.ref 593,.ref 593],a7 "builtin_function_or_method" [.builtin "object.__init_subclass__",.ref 593]])))))
noncomputable def nw8 (P:Params):List Obj:=
  [oTup [],a7 "builtin_function_or_method" [.builtin "type.__prepare__",.type "type"],oDic [en P "__module__" 1025 (.str "gateloom.store" 949),en P "__qualname__" 1027 (.str "Context" 1026),en P "__firstlineno__" 1029 (.int 522 1028),en P "__init__" 1040 (.ref 612),en P "call" 1049 (.ref 619),en P "next_random" 1057 (.ref 626),en P "time_vec" 1065 (.ref 633),en P "__static_attributes__" 1069 (.ref 634)] 8,oTup [],oFld [.int 524 0,.int 4 0,.ref 611,.int 529 0,.int 4 0,.ref 618,.int 532 0,.int 4 0,.ref 625,.int 539 0,.int 4 0,.ref 632],a7 "code" [.str "Context" 1020,.str "Context" 1021,.str "/claim/cut.py" 1022,.int 522 0,.int 0 0,.int 0 0,.int 0 0,.int 0 0,.ref 601,.bool false,.int 181 0,.ref 602,.none,.none,.none,.none,.int 1023 0,.int 522 0,.str "/claim/cut.py" 1024],oPlain "frame" [some (.ref 603),some (.ref 3),some (.ref 600),none,some (.str "gateloom.store" 949),none,some (.ref 0)],oTup [.int 0 1030]]++(
  d2 81 0 606 1031 "Context.__init__" (.ref 605) (.str "gateloom.store" 949)++(
  d2 81 1 613 1041 "Context.call" (.none) (.str "gateloom.store" 949)++(
  d2 81 2 620 1050 "Context.next_random" (.none) (.str "gateloom.store" 949)++(
  d2 81 3 627 1058 "Context.time_vec" (.none) (.str "gateloom.store" 949)++(
  [oTup [.str "frame" 1066,.str "now" 1067,.str "store" 1068],oDic [en P "__module__" 1025 (.str "gateloom.store" 949),en P "__firstlineno__" 1029 (.int 522 1028),en P "__init__" 1040 (.ref 612),en P "call" 1049 (.ref 619),en P "next_random" 1057 (.ref 626),en P "time_vec" 1065 (.ref 633),en P "__static_attributes__" 1069 (.ref 634),en P "__dict__" 1071 (.ref 637),en P "__weakref__" 1073 (.ref 638),en P "__doc__" 1074 (.none)] 4,oCls "Context" [.type "object"] [.ref 636,.type "object"] 635 [.ref 684] [none,none,some (.str "Context" 1018),some (.str "Context" 1026),some (.builtin "object.__new__"),some (.bool true)],a7 "getset_descriptor" [.str "__dict__" 1070,.ref 636,.builtin "function.__dict__",.builtin "function.__dict__#set"],a7 "getset_descriptor" [.str "__weakref__" 1072,.ref 636,.builtin "ExceptionGroup.__weakref__",.none],a7 "super" [.ref 636,.ref 636,.ref 636],a7 "builtin_function_or_method" [.builtin "object.__init_subclass__",.ref 636],oTup [.ref 636],a7 "builtin_function_or_method" [.builtin "type.__prepare__",.type "type"],oDic [en P "__module__" 1088 (.str "gateloom.funcs" 1077),en P "__qualname__" 1090 (.str "FunctionContext" 1089),en P "__firstlineno__" 1092 (.int 543 1091),en P "__init__" 1105 (.ref 655),en P "call" 1117 (.ref 662),en P "new_frame" 1123 (.ref 667),en P "burn" 1130 (.ref 674),en P "is_true" 1138 (.ref 681),en P "__static_attributes__" 1144 (.ref 682)] 9,oTup [],oFld [.int 545 0,.int 4 0,.ref 654,.int 552 0,.int 4 0,.ref 661,.int 567 0,.int 4 0,.ref 666,.int 579 0,.int 4 0,.ref 673,.int 584 0,.int 4 0,.ref 680],a7 "code" [.str "FunctionContext" 1083,.str "FunctionContext" 1084,.str "/claim/cut.py" 1085,.int 543 0,.int 0 0,.int 0 0,.int 0 0,.int 0 0,.ref 644,.bool false,.int 181 0,.ref 645,.none,.none,.none,.none,.int 1086 0,.int 543 0,.str "/claim/cut.py" 1087],oPlain "frame" [some (.ref 646),some (.ref 3),some (.ref 643),none,some (.str "gateloom.funcs" 1077),none,some (.ref 0)],oTup [.int 10000 1093]]++(
  d2 84 0 649 1094 "FunctionContext.__init__" (.ref 648) (.str "gateloom.funcs" 1077)++(
  d2 84 1 656 1106 "FunctionContext.call" (.none) (.str "gateloom.funcs" 1077)++(
  d2 84 2 663 1118 "FunctionContext.new_frame" (.none) (.str "gateloom.funcs" 1077)++(
  d2 84 3 668 1124 "FunctionContext.burn" (.none) (.str "gateloom.funcs" 1077)++(
  d2 84 4 675 1131 "FunctionContext.is_true" (.none) (.str "gateloom.funcs" 1077)++(
  [oTup [.str "depth" 1139,.str "design" 1140,.str "frame" 1141,.str "fuel" 1142,.str "written" 1143],oDic [en P "__module__" 1088 (.str "gateloom.funcs" 1077),en P "__firstlineno__" 1092 (.int 543 1091),en P "__init__" 1105 (.ref 655),en P "call" 1117 (.ref 662),en P "new_frame" 1123 (.ref 667),en P "burn" 1130 (.ref 674),en P "is_true" 1138 (.ref 681),en P "__static_attributes__" 1144 (.ref 682),en P "__doc__" 1145 (.none)] 2,oCls "FunctionContext" [.ref 636] [.ref 684,.ref 636,.type "object"] 683 [] [some (.ref 641),none,some (.str "FunctionContext" 1081),some (.str "FunctionContext" 1089),some (.builtin "object.__new__"),some (.bool true)],a7 "super" [.ref 684,.ref 684,.ref 684],a7 "builtin_function_or_method" [.builtin "object.__init_subclass__",.ref 684]])))))))))))
noncomputable def nw9 (P:Params):List Obj:=
  d1 85 687 1148 (.none) (.str "gateloom.funcs" 1077)++(
  d1 86 694 1158 (.none) (.str "gateloom.funcs" 1077)++(
  d1 87 701 1168 (.none) (.str "gateloom.funcs" 1077)++(
  d1 88 708 1181 (.none) (.str "gateloom.funcs" 1077)++(
  d1 89 715 1192 (.none) (.str "gateloom.funcs" 1077)++(
  d1 90 722 1202 (.none) (.str "gateloom.funcs" 1077)++(
  d1 91 729 1210 (.none) (.str "gateloom.funcs" 1077)++(
  d1 93 736 1221 (.none) (.str "gateloom.design" 1219))))))))
noncomputable def nw10 (P:Params):List Obj:=
  [oTup [],a7 "builtin_function_or_method" [.builtin "type.__prepare__",.type "type"],oDic [en P "__module__" 1234 (.str "gateloom.design" 1219),en P "__qualname__" 1236 (.str "Signal" 1235),en P "__firstlineno__" 1238 (.int 664 1237),en P "__init__" 1252 (.ref 756),en P "is_net" 1259 (.ref 763),en P "is_memory" 1266 (.ref 770),en P "words" 1273 (.ref 777),en P "offset" 1282 (.ref 784),en P "place" 1291 (.ref 791),en P "__static_attributes__" 1304 (.ref 792)] 10,oTup [],oFld [.int 666 0,.int 4 0,.ref 755,.int 680 0,.int 4 0,.ref 762,.int 683 0,.int 4 0,.ref 769,.int 686 0,.int 4 0,.ref 776,.int 691 0,.int 4 0,.ref 783,.int 700 0,.int 4 0,.ref 790],a7 "code" [.str "Signal" 1229,.str "Signal" 1230,.str "/claim/cut.py" 1231,.int 664 0,.int 0 0,.int 0 0,.int 0 0,.int 0 0,.ref 746,.bool false,.int 181 0,.ref 747,.none,.none,.none,.none,.int 1232 0,.int 664 0,.str "/claim/cut.py" 1233],oPlain "frame" [some (.ref 748),some (.ref 3),some (.ref 745),none,some (.str "gateloom.design" 1219),none,some (.ref 0)]]++(
  d2 94 0 750 1239 "Signal.__init__" (.none) (.str "gateloom.design" 1219)++(
  d2 94 1 757 1253 "Signal.is_net" (.none) (.str "gateloom.design" 1219)++(
  d2 94 2 764 1260 "Signal.is_memory" (.none) (.str "gateloom.design" 1219)++(
  d2 94 3 771 1267 "Signal.words" (.none) (.str "gateloom.design" 1219)++(
  d2 94 4 778 1274 "Signal.offset" (.none) (.str "gateloom.design" 1219)++(
  d2 94 5 785 1283 "Signal.place" (.none) (.str "gateloom.design" 1219)++(
  [oTup [.str "at" 1292,.str "first" 1293,.str "init" 1294,.str "key" 1295,.str "kind" 1296,.str "last" 1297,.str "lsb" 1298,.str "msb" 1299,.str "path" 1300,.str "scalar" 1301,.str "signed" 1302,.str "width" 1303],oDic [en P "__module__" 1234 (.str "gateloom.design" 1219),en P "__firstlineno__" 1238 (.int 664 1237),en P "__init__" 1252 (.ref 756),en P "is_net" 1259 (.ref 763),en P "is_memory" 1266 (.ref 770),en P "words" 1273 (.ref 777),en P "offset" 1282 (.ref 784),en P "place" 1291 (.ref 791),en P "__static_attributes__" 1304 (.ref 792),en P "__dict__" 1306 (.ref 795),en P "__weakref__" 1308 (.ref 796),en P "__doc__" 1309 (.none)] 4,oCls "Signal" [.type "object"] [.ref 794,.type "object"] 793 [] [none,none,some (.str "Signal" 1227),some (.str "Signal" 1235),some (.builtin "object.__new__"),some (.bool true)],a7 "getset_descriptor" [.str "__dict__" 1305,.ref 794,.builtin "function.__dict__",.builtin "function.__dict__#set"],a7 "getset_descriptor" [.str "__weakref__" 1307,.ref 794,.builtin "ExceptionGroup.__weakref__",.none],a7 "super" [.ref 794,.ref 794,.ref 794],a7 "builtin_function_or_method" [.builtin "object.__init_subclass__",.ref 794]])))))))
noncomputable def nw11 (P:Params):List Obj:=
  [oTup [],a7 "builtin_function_or_method" [.builtin "type.__prepare__",.type "type"],oDic [en P "__module__" 1321 (.str "gateloom.process" 1312),en P "__qualname__" 1323 (.str "Thread" 1322),en P "__firstlineno__" 1325 (.int 711 1324),en P "__init__" 1337 (.ref 812),en P "__static_attributes__" 1352 (.ref 813)] 5,oTup [],oFld [.int 713 0,.int 4 0,.ref 811],a7 "code" [.str "Thread" 1316,.str "Thread" 1317,.str "/claim/cut.py" 1318,.int 711 0,.int 0 0,.int 0 0,.int 0 0,.int 0 0,.ref 802,.bool false,.int 181 0,.ref 803,.none,.none,.none,.none,.int 1319 0,.int 711 0,.str "/claim/cut.py" 1320],oPlain "frame" [some (.ref 804),some (.ref 3),some (.ref 801),none,some (.str "gateloom.process" 1312),none,some (.ref 0)]]++(
  d2 96 0 806 1326 "Thread.__init__" (.none) (.str "gateloom.process" 1312)++(
  [oTup [.str "again" 1338,.str "calls" 1339,.str "children" 1340,.str "code" 1341,.str "done" 1342,.str "frame" 1343,.str "looking" 1344,.str "number" 1345,.str "parent" 1346,.str "path" 1347,.str "pc" 1348,.str "scopes" 1349,.str "stamp" 1350,.str "wait" 1351],oDic [en P "__module__" 1321 (.str "gateloom.process" 1312),en P "__firstlineno__" 1325 (.int 711 1324),en P "__init__" 1337 (.ref 812),en P "__static_attributes__" 1352 (.ref 813),en P "__dict__" 1354 (.ref 816),en P "__weakref__" 1356 (.ref 817),en P "__doc__" 1357 (.none)] 4,oCls "Thread" [.type "object"] [.ref 815,.type "object"] 814 [] [none,none,some (.str "Thread" 1314),some (.str "Thread" 1322),some (.builtin "object.__new__"),some (.bool true)],a7 "getset_descriptor" [.str "__dict__" 1353,.ref 815,.builtin "function.__dict__",.builtin "function.__dict__#set"],a7 "getset_descriptor" [.str "__weakref__" 1355,.ref 815,.builtin "ExceptionGroup.__weakref__",.none],a7 "super" [.ref 815,.ref 815,.ref 815],a7 "builtin_function_or_method" [.builtin "object.__init_subclass__",.ref 815]]++(
  d1 98 820 1362 (.none) (.str "law_sj0065_01" 1360)++(
  d1 99 827 1371 (.none) (.str "law_sj0065_01" 1360)++(
  d1 100 834 1381 (.none) (.str "law_sj0065_01" 1360)++(
  d1 101 841 1389 (.none) (.str "law_sj0065_01" 1360)))))))
noncomputable def nw12 (P:Params):List Obj:=
  d1 102 848 1403 (.none) (.str "law_sj0065_01" 1360)++(
  d1 103 855 1411 (.none) (.str "law_sj0065_01" 1360)++(
  d1 104 862 1423 (.none) (.str "law_sj0065_01" 1360)++(
  d1 105 869 1442 (.none) (.str "law_sj0065_01" 1360)++(
  d1 106 876 1450 (.none) (.str "law_sj0065_01" 1360)++(
  d1 107 883 1462 (.none) (.str "law_sj0065_01" 1360)++(
  d1 108 890 1477 (.none) (.str "law_sj0065_01" 1360)++(
  d1 109 897 1484 (.none) (.str "law_sj0065_01" 1360)++(
  d1 110 904 1494 (.none) (.str "law_sj0065_01" 1360)++(
  d1 111 909 1500 (.none) (.str "law_sj0065_01" 1360)++(
  d1 112 916 1515 (.none) (.str "law_sj0065_01" 1360)++(
  d1 113 921 1521 (.none) (.str "law_sj0065_01" 1360))))))))))))
noncomputable def nw13 (P:Params):List Obj:=
  d1 114 928 1532 (.none) (.str "law_sj0065_01" 1360)++(
  d1 115 933 1538 (.none) (.str "law_sj0065_01" 1360)++(
  d1 116 940 1554 (.none) (.str "law_sj0065_01" 1360)++(
  d1 117 947 1570 (.none) (.str "law_sj0065_01" 1360)++(
  d1 118 954 1580 (.none) (.str "law_sj0065_01" 1360)))))
noncomputable def me (g:Nat) (P:Params):List DictEntry:=match g with
  | 0=>[en P "_wall" 193 (.ref 21),en P "GateloomError" 231 (.ref 39),en P "DesignError" 247 (.ref 52),en P "LimitReached" 263 (.ref 64)]
  | 1=>[en P "mask" 272 (.ref 73),en P "vec" 283 (.ref 81),en P "zeros" 290 (.ref 88),en P "ones" 297 (.ref 95),en P "all_x" 305 (.ref 102),en P "all_z" 312 (.ref 109),en P "from_int" 320 (.ref 116),en P "is_known" 327 (.ref 123),en P "to_int" 338 (.ref 130),en P "code" 346 (.ref 137),en P "slice_vec" 362 (.ref 144),en P "put_slice" 378 (.ref 151)]
  | 2=>[en P "concat" 389 (.ref 158),en P "extend" 402 (.ref 165),en P "z_to_x" 409 (.ref 172),en P "truth" 416 (.ref 179),en P "add" 426 (.ref 186),en P "sub" 434 (.ref 193),en P "mul" 442 (.ref 200),en P "neg" 449 (.ref 207),en P "quotient" 458 (.ref 214),en P "div" 469 (.ref 221),en P "mod" 480 (.ref 228),en P "raise_whole" 493 (.ref 235)]
  | 3=>[en P "power" 506 (.ref 242),en P "shift_left" 516 (.ref 249),en P "shift_right" 525 (.ref 256),en P "shift_arith" 540 (.ref 263),en P "ordered" 551 (.ref 270),en P "less" 561 (.ref 277),en P "less_equal" 571 (.ref 284),en P "greater" 580 (.ref 291),en P "greater_equal" 589 (.ref 298),en P "one_bit" 598 (.ref 305),en P "bit_not" 608 (.ref 312),en P "bit_and" 622 (.ref 319)]
  | 4=>[en P "bit_or" 637 (.ref 326),en P "bit_xor" 646 (.ref 333),en P "bit_xnor" 654 (.ref 340),en P "reduce_and" 664 (.ref 347),en P "reduce_nand" 671 (.ref 354),en P "reduce_or" 678 (.ref 361),en P "reduce_nor" 685 (.ref 368),en P "reduce_xor" 694 (.ref 375),en P "reduce_xnor" 701 (.ref 382),en P "logic_not" 708 (.ref 389),en P "logic_and" 716 (.ref 396),en P "logic_or" 724 (.ref 403),en P "equal" 733 (.ref 410)]
  | 5=>[en P "not_equal" 741 (.ref 417),en P "case_equal" 749 (.ref 424),en P "case_not_equal" 757 (.ref 431),en P "matches" 768 (.ref 438),en P "choose" 781 (.ref 445),en P "unary" 791 (.ref 452),en P "arithmetic" 801 (.ref 459),en P "comparison" 811 (.ref 466),en P "bitwise" 820 (.ref 473),en P "binary" 831 (.ref 480),en P "whole_of" 840 (.ref 487),en P "memory_word" 850 (.ref 494)]
  | 6=>[en P "picked" 860 (.ref 501),en P "conditional" 870 (.ref 508),en P "bits_needed" 878 (.ref 515),en P "system_value" 889 (.ref 522),en P "evaluate" 895 (.ref 527),en P "locate" 904 (.ref 534),en P "holder_width" 912 (.ref 541),en P "resolve_target" 931 (.ref 548),en P "store_rows" 948 (.ref 555)]
  | 7=>[en P "Store" 1017 (.ref 593)]
  | 8=>[en P "Context" 1076 (.ref 636),en P "DEPTH_LIMIT" 1080 (.int 24 1079),en P "FunctionContext" 1147 (.ref 684)]
  | 9=>[en P "run_block" 1157 (.ref 693),en P "run_set" 1167 (.ref 700),en P "run_case" 1180 (.ref 707),en P "run_while" 1191 (.ref 714),en P "run_repeat" 1201 (.ref 721),en P "run_for" 1209 (.ref 728),en P "run_statement" 1218 (.ref 735),en P "net_kinds" 1226 (.ref 742)]
  | 10=>[en P "Signal" 1311 (.ref 794)]
  | 11=>[en P "Thread" 1359 (.ref 815),en P "_law_bag" 1370 (.ref 826),en P "_law_pull" 1380 (.ref 833),en P "_law_constant" 1388 (.ref 840),en P "_law_expression" 1402 (.ref 847)]
  | 12=>[en P "_law_to" 1410 (.ref 854),en P "_law_store" 1422 (.ref 861),en P "_law_statement" 1441 (.ref 868),en P "_law_fixed" 1449 (.ref 875),en P "_law_function" 1461 (.ref 882),en P "_law_functions" 1476 (.ref 889),en P "_law_true" 1483 (.ref 896),en P "_law_number" 1493 (.ref 903),en P "_law_pair" 1499 (.ref 908),en P "_law_call" 1514 (.ref 915),en P "_law_value" 1520 (.ref 920),en P "_law_meets" 1531 (.ref 927)]
  | 13=>[en P "_law_set" 1537 (.ref 932),en P "_law_picked" 1553 (.ref 939),en P "_law_run" 1569 (.ref 946),en P "_law_vector" 1579 (.ref 953),en P "law" 1585 (.ref 958)]
  | _=>[]
noncomputable def ml (g:Nat):List Value:=match g with
  | 0=>[iv 1,iv 0,.ref 20,iv 5,iv 0,.ref 27,iv 11,iv 0,.ref 48,iv 13,iv 0,.ref 60]
  | 1=>[iv 16,iv 0,.ref 72,iv 18,iv 0,.ref 80,iv 21,iv 0,.ref 87,iv 23,iv 0,.ref 94,iv 25,iv 0,.ref 101,iv 28,iv 0,.ref 108,iv 30,iv 0,.ref 115,iv 32,iv 0,.ref 122,iv 34,iv 0,.ref 129,iv 41,iv 0,.ref 136,iv 43,iv 0,.ref 143,iv 54,iv 0,.ref 150]
  | 2=>[iv 65,iv 0,.ref 157,iv 74,iv 0,.ref 164,iv 84,iv 0,.ref 171,iv 86,iv 0,.ref 178,iv 93,iv 0,.ref 185,iv 97,iv 0,.ref 192,iv 101,iv 0,.ref 199,iv 105,iv 0,.ref 206,iv 109,iv 0,.ref 213,iv 114,iv 0,.ref 220,iv 120,iv 0,.ref 227,iv 126,iv 0,.ref 234]
  | 3=>[iv 137,iv 0,.ref 241,iv 152,iv 0,.ref 248,iv 160,iv 0,.ref 255,iv 167,iv 0,.ref 262,iv 177,iv 0,.ref 269,iv 185,iv 0,.ref 276,iv 190,iv 0,.ref 283,iv 195,iv 0,.ref 290,iv 197,iv 0,.ref 297,iv 200,iv 0,.ref 304,iv 202,iv 0,.ref 311,iv 205,iv 0,.ref 318]
  | 4=>[iv 210,iv 0,.ref 325,iv 216,iv 0,.ref 332,iv 219,iv 0,.ref 339,iv 221,iv 0,.ref 346,iv 226,iv 0,.ref 353,iv 228,iv 0,.ref 360,iv 230,iv 0,.ref 367,iv 232,iv 0,.ref 374,iv 241,iv 0,.ref 381,iv 243,iv 0,.ref 388,iv 245,iv 0,.ref 395,iv 247,iv 0,.ref 402,iv 249,iv 0,.ref 409]
  | 5=>[iv 254,iv 0,.ref 416,iv 256,iv 0,.ref 423,iv 258,iv 0,.ref 430,iv 260,iv 0,.ref 437,iv 268,iv 0,.ref 444,iv 279,iv 0,.ref 451,iv 299,iv 0,.ref 458,iv 317,iv 0,.ref 465,iv 335,iv 0,.ref 472,iv 349,iv 0,.ref 479,iv 358,iv 0,.ref 486,iv 360,iv 0,.ref 493]
  | 6=>[iv 368,iv 0,.ref 500,iv 374,iv 0,.ref 507,iv 382,iv 0,.ref 514,iv 387,iv 0,.ref 521,iv 400,iv 0,.ref 526,iv 431,iv 0,.ref 533,iv 438,iv 0,.ref 540,iv 442,iv 0,.ref 547,iv 461,iv 0,.ref 554]
  | 7=>[iv 472,iv 0,.ref 561]
  | 8=>[iv 522,iv 0,.ref 603,iv 543,iv 0,.ref 646]
  | 9=>[iv 586,iv 0,.ref 692,iv 594,iv 0,.ref 699,iv 601,iv 0,.ref 706,iv 612,iv 0,.ref 713,iv 620,iv 0,.ref 720,iv 631,iv 0,.ref 727,iv 634,iv 0,.ref 734,iv 662,iv 0,.ref 741]
  | 10=>[iv 664,iv 0,.ref 748]
  | 11=>[iv 711,iv 0,.ref 804,iv 729,iv 0,.ref 825,iv 735,iv 0,.ref 832,iv 746,iv 0,.ref 839,iv 749,iv 0,.ref 846]
  | 12=>[iv 773,iv 0,.ref 853,iv 775,iv 0,.ref 860,iv 785,iv 0,.ref 867,iv 814,iv 0,.ref 874,iv 818,iv 0,.ref 881,iv 824,iv 0,.ref 888,iv 834,iv 0,.ref 895,iv 838,iv 0,.ref 902,iv 847,iv 0,.ref 907,iv 860,iv 0,.ref 914,iv 872,iv 0,.ref 919,iv 895,iv 0,.ref 926]
  | 13=>[iv 902,iv 0,.ref 931,iv 916,iv 0,.ref 938,iv 927,iv 0,.ref 945,iv 953,iv 0,.ref 952,iv 960,iv 0,.ref 957]
  | _=>[]
noncomputable def nw (g:Nat) (P:Params):List Obj:=match g with
  | 0=>nw0 P
  | 1=>nw1 P
  | 2=>nw2 P
  | 3=>nw3 P
  | 4=>nw4 P
  | 5=>nw5 P
  | 6=>nw6 P
  | 7=>nw7 P
  | 8=>nw8 P
  | 9=>nw9 P
  | 10=>nw10 P
  | 11=>nw11 P
  | 12=>nw12 P
  | 13=>nw13 P
  | _=>[]
noncomputable def upto {α:Type} (f:Nat→List α):Nat→List α
  | 0=>[]
  | n+1=>upto f n++f n
noncomputable def mainO (P:Params) (nm:Value) (es:List DictEntry) (k:Nat):Obj:=oDic (en P "__name__" 165 nm :: en P "__doc__" 166 (.none) :: en P "__package__" 167 (.none) :: en P "__loader__" 168 (.builtin "__main__.__loader__#opaque") :: en P "__spec__" 169 (.none) :: en P "__annotations__" 170 (.ref 6) :: en P "__builtins__" 171 (.ref 4) :: en P "__file__" 173 (.str "/claim/cut.py" 172) :: en P "__cached__" 174 (.none) :: es) k
noncomputable def st2 (P:Params):Obj:=⟨.none,none,.dict (Array.mk [en P "type.__subclasses__.Exception.0" 228 (.int 39 0),en P "type.__subclasses__.Exception.n" 229 (.int 1 0)]) 2,Array.mk []⟩
noncomputable def heapL (P:Params) (o2:Obj) (nm:Value) (k:Nat) (g:Nat):List Obj:=
  boot_o_0 P :: boot_o_1 P :: o2 :: mainO P nm (upto (fun i=>me i P) g) k :: boot_o_4 P :: boot_o_5 P :: boot_o_6 P :: boot_o_7 P :: boot_o_8 P :: boot_o_9 P :: boot_o_10 P :: oTup [] :: oFld (upto ml g) :: (a7 "code" [.str "<module>" 182,.str "<module>" 183,.str "/claim/cut.py" 184,.int 1 0,.int 0 0,.int 0 0,.int 0 0,.int 0 0,.ref 11,.bool false,.int 181 0,.ref 12,.none,.none,.none,.none,.int 185 0,.int 1 0,.str "/claim/cut.py" 186]) :: (oPlain "frame" [some (.ref 13),some (.ref 3),some (.ref 3),none,some (.str "__main__" 164),none,some (.ref 0)]) :: upto (fun i=>nw i P) g
noncomputable def sl:Nat→Nat→List Stmt→List Stmt
  | 0,0,_=>[]
  | _,_,[]=>[]
  | 0,k+1,x :: l=>x :: sl 0 k l
  | a+1,k,_ :: l=>sl a k l
noncomputable def env:Env:={ scope:=pw.main.scope,locals:=mainNs,globals:=mainNs,cells:=[],code:=.ref 13,frame:=some 14 }
noncomputable def cE:Code:=.body (behindTheImports pw) env
noncomputable def q0:Pos:=⟨0,0,0,0⟩
noncomputable def stT (P:Params) (o2:Obj) (nm:Value) (k g n toks:Nat) (os:OsState):SharedT:=⟨bt 11 (heapL P o2 nm k g),n,{},Array.mk [],{},toks,os⟩
noncomputable def s0 (P:Params) (os:OsState):SharedT:=stT P (boot_o_2 P) (.str "__main__" 164) 9 0 15 187 os
noncomputable def s1 (P:Params) (os:OsState):SharedT:=stT P (st2 P) (.str "gateloom.errors" 194) 13 1 67 264 os
noncomputable def s2 (P:Params) (os:OsState):SharedT:=stT P (st2 P) (.str "gateloom.vec" 264) 25 2 152 379 os
noncomputable def s3 (P:Params) (os:OsState):SharedT:=stT P (st2 P) (.str "gateloom.vecarith" 417) 37 3 236 494 os
noncomputable def s4 (P:Params) (os:OsState):SharedT:=stT P (st2 P) (.str "gateloom.vecops" 590) 49 4 320 623 os
noncomputable def s5 (P:Params) (os:OsState):SharedT:=stT P (st2 P) (.str "gateloom.vecops" 590) 62 5 411 734 os
noncomputable def s6 (P:Params) (os:OsState):SharedT:=stT P (st2 P) (.str "gateloom.evaluate" 782) 74 6 495 851 os
noncomputable def s7 (P:Params) (os:OsState):SharedT:=stT P (st2 P) (.str "gateloom.store" 949) 83 7 556 951 os
noncomputable def s8 (P:Params) (os:OsState):SharedT:=stT P (st2 P) (.str "gateloom.store" 949) 84 8 598 1018 os
noncomputable def s9 (P:Params) (os:OsState):SharedT:=stT P (st2 P) (.str "gateloom.funcs" 1077) 87 9 687 1148 os
noncomputable def s10 (P:Params) (os:OsState):SharedT:=stT P (st2 P) (.str "gateloom.design" 1219) 95 10 743 1227 os
noncomputable def s11 (P:Params) (os:OsState):SharedT:=stT P (st2 P) (.str "gateloom.design" 1219) 96 11 799 1312 os
noncomputable def s12 (P:Params) (os:OsState):SharedT:=stT P (st2 P) (.str "law_sj0065_01" 1360) 101 12 848 1403 os
noncomputable def s13 (P:Params) (os:OsState):SharedT:=stT P (st2 P) (.str "law_sj0065_01" 1360) 113 13 928 1532 os
noncomputable def s14 (P:Params) (os:OsState):SharedT:=stT P (st2 P) (.str "law_sj0065_01" 1360) 118 14 959 1586 os
noncomputable def run (w:World) (k:Nat) (s:SharedT) (l:List Stmt) (p:Pos):=PySem.W.Fast.tw10110043849684766642 PySem.W.Fast.tw14364793385576792824 pw w 11 (some (.ref 6)) 1 k s (piecesOf l env cE p [topFrame q0])
theorem g0 (w:World):(fun os=>run w 705 (s0 w.params os) (sl 0 5 pw.main.body) q0)=fun os=>some (.next,s1 w.params os,cE,⟨13,0,14,8⟩):=by kernel_rfl
theorem g1 (w:World):(fun os=>run w 388 (s1 w.params os) (sl 5 13 pw.main.body) ⟨13,0,14,8⟩)=fun os=>some (.next,s2 w.params os,cE,⟨54,0,64,23⟩):=by kernel_rfl
theorem g2 (w:World):(fun os=>run w 387 (s2 w.params os) (sl 18 13 pw.main.body) ⟨54,0,64,23⟩)=fun os=>some (.next,s3 w.params os,cE,⟨126,0,136,17⟩):=by kernel_rfl
theorem g3 (w:World):(fun os=>run w 401 (s3 w.params os) (sl 31 13 pw.main.body) ⟨126,0,136,17⟩)=fun os=>some (.next,s4 w.params os,cE,⟨205,0,209,36⟩):=by kernel_rfl
theorem g4 (w:World):(fun os=>run w 398 (s4 w.params os) (sl 44 13 pw.main.body) ⟨205,0,209,36⟩)=fun os=>some (.next,s5 w.params os,cE,⟨249,0,253,44⟩):=by kernel_rfl
theorem g5 (w:World):(fun os=>run w 389 (s5 w.params os) (sl 57 13 pw.main.body) ⟨249,0,253,44⟩)=fun os=>some (.next,s6 w.params os,cE,⟨360,0,367,38⟩):=by kernel_rfl
theorem g6 (w:World):(fun os=>run w 304 (s6 w.params os) (sl 70 10 pw.main.body) ⟨360,0,367,38⟩)=fun os=>some (.next,s7 w.params os,cE,⟨471,0,471,8⟩):=by kernel_rfl
theorem g7 (w:World):(fun os=>run w 333 (s7 w.params os) (sl 80 1 pw.main.body) ⟨471,0,471,8⟩)=fun os=>some (.next,s8 w.params os,cE,⟨472,0,521,19⟩):=by kernel_rfl
theorem g8 (w:World):(fun os=>run w 726 (s8 w.params os) (sl 81 4 pw.main.body) ⟨472,0,521,19⟩)=fun os=>some (.next,s9 w.params os,cE,⟨543,0,585,44⟩):=by kernel_rfl
theorem g9 (w:World):(fun os=>run w 263 (s9 w.params os) (sl 85 9 pw.main.body) ⟨543,0,585,44⟩)=fun os=>some (.next,s10 w.params os,cE,⟨662,0,663,89⟩):=by kernel_rfl
theorem g10 (w:World):(fun os=>run w 399 (s10 w.params os) (sl 94 1 pw.main.body) ⟨662,0,663,89⟩)=fun os=>some (.next,s11 w.params os,cE,⟨664,0,709,20⟩):=by kernel_rfl
theorem g11 (w:World):(fun os=>run w 387 (s11 w.params os) (sl 95 7 pw.main.body) ⟨664,0,709,20⟩)=fun os=>some (.next,s12 w.params os,cE,⟨749,0,772,68⟩):=by kernel_rfl
theorem g12 (w:World):(fun os=>run w 390 (s12 w.params os) (sl 102 12 pw.main.body) ⟨749,0,772,68⟩)=fun os=>some (.next,s13 w.params os,cE,⟨895,0,901,15⟩):=by kernel_rfl
theorem g13 (w:World):(fun os=>run w 161 (s13 w.params os) (sl 114 5 pw.main.body) ⟨895,0,901,15⟩)=fun os=>some (.next,s14 w.params os,cE,⟨960,0,991,78⟩):=by kernel_rfl
end
section
open PySem PySem.W
theorem run_eq (w:World) (k:Nat) (s:SharedT) (l:List Stmt) (p:Pos):segRunT treeTable pw w 11 (some (.ref 6)) 1 k s (piecesOf l env cE p [topFrame q0])=run w k s l p:=by
  unfold run
  rw [PySem.W.Fast.te10110043849684766642,PySem.W.Fast.te14364793385576792824]
theorem seg_g {w:World} {k a n:Nat} {s s':Params→OsState→SharedT} {p p':Pos} (h:(fun os=>run w k (s w.params os) (sl a n pw.main.body) p)=fun os=>some (.next,s' w.params os,cE,p')) (os:OsState):
    segRun treeTable pw w 11 (some (.ref 6)) 1 k (s w.params os).abs (piecesOf (sl a n pw.main.body) env cE p [topFrame q0])=some (.next,(s' w.params os).abs,cE,p'):=
  segRun_of ((run_eq ..).trans (congrFun h os))
theorem pre_q (w:World):(fun os=>PySem.W.Fast.tw15667345088766844465 PySem.W.Fast.tw14364793385576792824 pw w 11 (some (.ref 6)) 12 ⟨boot_heap w.params,Array.mk [],boot_drawn,boot_toks,os⟩ (topStub pw))=
    fun os=>some ((s0 w.params os).abs,⟨PySem.W.Fast.tw11892475500146522536 PySem.W.Fast.tw14364793385576792824 cE,cE,q0,[topFrame q0]⟩):=by kernel_rfl
theorem pre_g (w:World) (os:OsState):topGo treeTable pw w 11 (some (.ref 6)) 12 ⟨boot_heap w.params,Array.mk [],boot_drawn,boot_toks,os⟩ (topStub pw)=some ((s0 w.params os).abs,⟨denote treeTable cE,cE,q0,[topFrame q0]⟩):=by
  rw [PySem.W.Fast.te15667345088766844465,PySem.W.Fast.te14364793385576792824,PySem.W.Fast.te11892475500146522536]
  exact congrFun (pre_q w) os
theorem block_q (w:World):(fun os=>PySem.W.Fast.tw14374325043358763698 PySem.W.Fast.tw14364793385576792824 pw w 11 (some (.ref 6)) 1 1 (s0 w.params os).abs (blockOf (behindTheImports pw) env cE q0 [topFrame q0]))=
    fun os=>some (.next,(s0 w.params os).abs,cE,q0):=by kernel_rfl
theorem block_g (w:World) (os:OsState):segRun treeTable pw w 11 (some (.ref 6)) 1 1 (s0 w.params os).abs (blockOf (behindTheImports pw) env cE q0 [topFrame q0])=some (.next,(s0 w.params os).abs,cE,q0):=by
  rw [PySem.W.Fast.te14374325043358763698,PySem.W.Fast.te14364793385576792824]
  exact congrFun (block_q w) os
noncomputable def hl (P:Params):List Obj:=heapL P (st2 P) (.str "law_sj0065_01" 1360) 118 14
noncomputable def H1 (P:Params):Heap:=⟨Array.mk (hl P),{}⟩
theorem fin_q (w:World):(fun os=>PySem.W.Fast.tw14082659384304107361 PySem.W.Fast.tw14364793385576792824 pw w 11 (some (.ref 6)) 2 (s14 w.params os).abs ⟨doneF .next,cE,⟨960,0,991,78⟩,[topFrame q0]⟩)=fun os=>some ⟨H1 w.params,Array.mk [],{},1586,os⟩:=by kernel_rfl
theorem body_eq:behindTheImports pw=sl 0 5 pw.main.body++(sl 5 13 pw.main.body++(sl 18 13 pw.main.body++(sl 31 13 pw.main.body++(sl 44 13 pw.main.body++(sl 57 13 pw.main.body++(sl 70 10 pw.main.body++(sl 80 1 pw.main.body++(sl 81 4 pw.main.body++(sl 85 9 pw.main.body++(sl 94 1 pw.main.body++(sl 95 7 pw.main.body++(sl 102 12 pw.main.body++(sl 114 5 pw.main.body++([])))))))))))))):=by kernel_rfl
theorem fin_g (w:World) (os:OsState):topRun treeTable pw w 11 (some (.ref 6)) 2 (s14 w.params os).abs (restOf [] env cE ⟨960,0,991,78⟩ [topFrame q0])=some ⟨H1 w.params,Array.mk [],{},1586,os⟩:=by
  rw [PySem.W.Fast.te14082659384304107361,PySem.W.Fast.te14364793385576792824]
  exact congrFun (fin_q w) os
theorem rest_g (w:World) (os:OsState):topRun treeTable pw w 11 (some (.ref 6)) (705+(388+(387+(401+(398+(389+(304+(333+(726+(263+(399+(387+(390+(161+2)))))))))))))) (s0 w.params os).abs (restOf (behindTheImports pw) env cE q0 [topFrame q0])=some ⟨H1 w.params,Array.mk [],{},1586,os⟩:=by
  rw [body_eq]
  exact piece_app (seg_g (s:=s0) (s':=s1) (g0 w) os) (piece_app (seg_g (s:=s1) (s':=s2) (g1 w) os) (piece_app (seg_g (s:=s2) (s':=s3) (g2 w) os) (piece_app (seg_g (s:=s3) (s':=s4) (g3 w) os) (piece_app (seg_g (s:=s4) (s':=s5) (g4 w) os) (piece_app (seg_g (s:=s5) (s':=s6) (g5 w) os) (piece_app (seg_g (s:=s6) (s':=s7) (g6 w) os) (piece_app (seg_g (s:=s7) (s':=s8) (g7 w) os) (piece_app (seg_g (s:=s8) (s':=s9) (g8 w) os) (piece_app (seg_g (s:=s9) (s':=s10) (g9 w) os) (piece_app (seg_g (s:=s10) (s':=s11) (g10 w) os) (piece_app (seg_g (s:=s11) (s':=s12) (g11 w) os) (piece_app (seg_g (s:=s12) (s':=s13) (g12 w) os) (piece_app (seg_g (s:=s13) (s':=s14) (g13 w) os) (fin_g w os))))))))))))))
theorem run_g (w:World) (os:OsState):topRun treeTable pw w 11 (some (.ref 6)) (12+(1+(705+(388+(387+(401+(398+(389+(304+(333+(726+(263+(399+(387+(390+(161+2)))))))))))))))) ⟨boot_heap w.params,Array.mk [],boot_drawn,boot_toks,os⟩ (topStub pw)=some ⟨H1 w.params,Array.mk [],{},1586,os⟩:=
  go_top (pre_g w os) (piece_block (block_g w os) (rest_g w os))
end
section
open PySem PySem.W
noncomputable def qv:Program:={ pw with main:={ pw.main with body:=[nth 118] } }
noncomputable def lo:List Str:=((sl 0 118 pw.main.body).map bnm).filter fun x=>!(x ==Str.ofString "__name__")
noncomputable def sF (w:World) (os:OsState):Shared:=⟨H1 w.params,Array.mk [],{},1586,os⟩
theorem open_g (w:World):(fencedOpening treeTable pw w 20000).map (fun s=>(s.heap,s.gens,s.drawn,s.toks))=some (boot_heap w.params,Array.mk [],boot_drawn,boot_toks):=
  boot_open (by kernel_rfl) (by kernel_rfl) (fun s=>by kernel_rfl) w
theorem size_g (w:World):((boot_heap w.params).isNs mainGlobals && (Array.mk []:Array GenState).size ==0,(boot_heap w.params).objs.size,(boot_heap w.params).nsMap mainGlobals "__annotations__")=(true,11,some (.ref 6)):=by kernel_rfl
theorem l1 (w:World):staticsOk (importedModules pw.main.body) (boot_heap w.params) (H1 w.params)=true:=by kernel_rfl
theorem l2 (w:World):namesBound pw (H1 w.params)=true:=by kernel_rfl
theorem l3 (w:World):(fun os=>gensDone (sF w os))=fun zz=>true:=by kernel_rfl
theorem l4 (w:World):laidKept (boot_heap w.params) (H1 w.params)=true:=by kernel_rfl
theorem l5q (w:World):(fun os=>PySem.W.Fast.tw4187177175401517315 qv lo (importedModules pw.main.body) (fun zz=>true) true (sF w os))=fun zz=>openGood qv lo:=by kernel_rfl
theorem l5 (w:World) (os:OsState):openSeen qv lo (importedModules pw.main.body) (fun zz=>true) true (sF w os)=openGood qv lo:=by
  rw [PySem.W.Fast.te4187177175401517315]
  exact congrFun (l5q w) os
end
section
open PySem PySem.W
theorem le2:namesResolve pw=true:=by
  rw [PySem.W.Fast.te8377067652309620493]
  kernel_rfl
theorem le4a:readsOut pw pw.main.body (Str.ofString "vars")=false:=by kernel_rfl
theorem le4b:readsOut pw pw.main.body (Str.ofString "dir")=false:=by kernel_rfl
theorem le4c:readsOut pw pw.main.body (Str.ofString "locals")=false:=by kernel_rfl
theorem le4d:(!(importedModules pw.main.body).all cThrough.contains)=false:=by kernel_rfl
theorem le4e:noRoadLSs { strict:=false,foot:=none,bare:=[] } pw.main.body=true:=by
  rw [PySem.W.Fast.te8326940854005059898]
  kernel_rfl
theorem le4:noRoadLSs { strict:=!(importedModules pw.main.body).all cThrough.contains,foot:=none,bare:=List.filter (readsOut pw pw.main.body) [Str.ofString "vars",Str.ofString "dir",Str.ofString "locals"] } pw.main.body=true:=by
  rw [le4d,List.filter_cons,le4a,List.filter_cons,le4b,List.filter_cons,le4c]
  exact le4e
theorem le5:(namesMeet pw pw.main.body fun x n=>attrL n)=true:=by kernel_rfl
theorem looks_g (p:Program) (hl:p=pw):looksOpen p=true:=by
  unfold looksOpen
  refine (look_both (look_both (look_both (look_both (look_both ?e0 ?e1) ?e2) ?e3) ?e4) ?e5)
  case e2=>subst hl;exact le2
  case e4=>subst hl;exact le4
  case e5=>subst hl;exact le5
  all_goals (subst hl;kernel_rfl)
theorem part_g (l:OpenRow) (hl:l=PySem.Challenge.rw_sj0065_01.row):l.wellSaid=true:=by
  unfold OpenRow.wellSaid
  refine (look_both (look_both ?c0 ?c1) ?c2)
  unfold OpenRow.partSaid
  refine (look_both (look_both (look_both (look_both (look_both (look_both (look_both (look_both (look_both (look_both (look_both (look_both (look_both ?d0 ?d1) ?d2) ?d3) ?d4) ?d5) ?d6) ?d7) ?d8) ?d9) ?d10) ?d11) ?d12) ?d13)
  case d0=>exact looks_g l.prog (by rw [hl];rfl)
  all_goals (subst hl;kernel_rfl)
noncomputable abbrev rl:OpenLaw:=PySem.Challenge.rw_sj0065_01
theorem lc3:noClassBlock rl.prog rl.footing=true:=by kernel_rfl
theorem lc6:noRoadLSs { strict:=true,foot:=some rl.bound',writes:=rl.writes,may:=rl.may } rl.footing=true:=by kernel_rfl
theorem lc8:rl.namesIt=true:=by kernel_rfl
theorem lc10:rl.bound'.all (fun n=>!builtinNamed n || rl.about ==[n] || !rl.reads n)=true:=by
  rw [PySem.W.Fast.named_eq,PySem.W.Fast.te6984425678791042302]
  kernel_rfl
theorem lc13:namesMeet rl.prog rl.footing (fun sc n=>(!(["type", "isinstance", "issubclass", "getattr", "hasattr"]:List Str).contains n || sc.names.lookup n ==some .globalImplicit) &&
    (rl.may !=some n || sc.kind ==.module || sc.names.lookup n ==some .globalImplicit))=true:=by kernel_rfl
theorem lc16:rl.own.all (fun n=>!builtinNamed n)=true:=by
  rw [PySem.W.Fast.named_eq]
  kernel_rfl
theorem lc17:namesMeet rl.prog rl.above (fun _ n=>!rl.own.contains n)=true:=by kernel_rfl
theorem lc18:(namesMeet rl.prog rl.footing fun sc n=>sc.kind ==.module || sc.names.lookup n !=some .globalExplicit)=true:=by kernel_rfl
theorem said_g (l:OpenLaw) (hl:l=rl):OpenLaw.wellSaid l=true:=by
  unfold OpenLaw.wellSaid
  refine (look_both (look_both (look_both (look_both (look_both (look_both (look_both (look_both (look_both (look_both (look_both (look_both (look_both (look_both (look_both (look_both (look_both (look_both ?c0 ?c1) ?c2) ?c3) ?c4) ?c5) ?c6) ?c7) ?c8) ?c9) ?c10) ?c11) ?c12) ?c13) ?c14) ?c15) ?c16) ?c17) ?c18)
  case c0=>exact part_g l.row (by rw [hl])
  case c3=>subst hl;exact lc3
  case c6=>subst hl;exact lc6
  case c8=>subst hl;exact lc8
  case c10=>subst hl;exact lc10
  case c13=>subst hl;exact lc13
  case c16=>subst hl;exact lc16
  case c17=>subst hl;exact lc17
  case c18=>subst hl;exact lc18
  all_goals (subst hl;kernel_rfl)
end
section
open PySem PySem.W PySem.Calls PyProof.Rows
theorem left_g:LeftO pw qv lo (fun zz=>true) (fun s=>s.heap) (fun w=>H1 w.params) 20000:=
  LeftO.of_pieces open_g size_g run_g (by decide +kernel) fun w=>by
    funext os
    exact Prod.ext (by show (_ && _ && _ && _)=true;rw [l1,l2,l4];exact congrArg (fun x=>true && true && x && true) (congrFun (l3 w) os)) (Prod.ext (l5 w os) rfl)
noncomputable def lawD:DefRec:=onFD (nth 118) (fun nm a b sc p=>⟨nm,a,b,sc,p⟩) ⟨Str.empty,default,[],default,default⟩
noncomputable abbrev YG:World→Heap→Prop:=fun w h=>∀ b o,(H1 w.params).get? b=some o→h.get? b=some o
theorem h1_g:defOf qv PySem.Challenge.rw_sj0065_01.row.name=some (lawD,[]):=by kernel_rfl
theorem h2_g:PySem.Challenge.rw_sj0065_01.row.prog.theDef PySem.Challenge.rw_sj0065_01.row.name=some (lawD.params,lawD.body,lawD.scope):=by kernel_rfl
theorem h4_g:(chainsOk qv && opensWell PySem.Challenge.rw_sj0065_01.row.prog && (frees PySem.Challenge.rw_sj0065_01.row.toRowW && PySem.Challenge.rw_sj0065_01.row.within.isEmpty))=true:=by decide +kernel
theorem wsh {top:Scope} {cx:TablesWhole.Ctx} {sc:Scope}:∀ (l r:List Stmt),TablesWhole.wSs TablesWhole.holds top cx sc l=true→TablesWhole.wSs TablesWhole.holds top cx sc r=true→TablesWhole.wSs TablesWhole.holds top cx sc (l++r)=true
  | [],_,_,k=>k
  | x :: l,r,h,k=>by
    have h':(TablesWhole.wS TablesWhole.holds top cx sc x && TablesWhole.wSs TablesWhole.holds top cx sc l)=true:=h
    show (TablesWhole.wS TablesWhole.holds top cx sc x && TablesWhole.wSs TablesWhole.holds top cx sc (l++r))=true
    rw [Bool.and_eq_true] at h' ⊢
    exact ⟨h'.1,wsh l r h'.2 k⟩
theorem wsg {top:Scope} {cx:TablesWhole.Ctx} {sc:Scope}:∀ (l r:List Stmt),TablesWhole.wSs TablesWhole.gather top cx sc l=[]→TablesWhole.wSs TablesWhole.gather top cx sc r=[]→TablesWhole.wSs TablesWhole.gather top cx sc (l++r)=[]
  | [],_,_,k=>k
  | x :: l,r,h,k=>by
    have h':(TablesWhole.wS TablesWhole.gather top cx sc x++TablesWhole.wSs TablesWhole.gather top cx sc l)=[]:=h
    show (TablesWhole.wS TablesWhole.gather top cx sc x++TablesWhole.wSs TablesWhole.gather top cx sc (l++r))=[]
    rw [List.append_eq_nil_iff] at h' ⊢
    exact ⟨h'.1,wsg l r h'.2 k⟩
theorem wshT {top:Scope} {cx:TablesWhole.Ctx} {sc:Scope} (n:Nat) {l:List Stmt} (h:TablesWhole.wSs TablesWhole.holds top cx sc (l.take n)=true) (k:TablesWhole.wSs TablesWhole.holds top cx sc (l.drop n)=true):TablesWhole.wSs TablesWhole.holds top cx sc l=true:=by
  have:=wsh _ _ h k
  rwa [List.take_append_drop] at this
theorem wsgT {top:Scope} {cx:TablesWhole.Ctx} {sc:Scope} (n:Nat) {l:List Stmt} (h:TablesWhole.wSs TablesWhole.gather top cx sc (l.take n)=[]) (k:TablesWhole.wSs TablesWhole.gather top cx sc (l.drop n)=[]):TablesWhole.wSs TablesWhole.gather top cx sc l=[]:=by
  have:=wsg _ _ h k
  rwa [List.take_append_drop] at this
theorem wh0_g:TablesWhole.wSs TablesWhole.holds PySem.Challenge.rw_sj0065_01.row.prog.main.scope ⟨PySem.Challenge.rw_sj0065_01.row.prog.main.scope,[],[],[],none⟩ PySem.Challenge.rw_sj0065_01.row.prog.main.scope (PySem.Challenge.rw_sj0065_01.row.prog.main.body.take 20)=true:=by kernel_rfl
theorem wh1_g:TablesWhole.wSs TablesWhole.holds PySem.Challenge.rw_sj0065_01.row.prog.main.scope ⟨PySem.Challenge.rw_sj0065_01.row.prog.main.scope,[],[],[],none⟩ PySem.Challenge.rw_sj0065_01.row.prog.main.scope ((PySem.Challenge.rw_sj0065_01.row.prog.main.body.drop 20).take 20)=true:=by kernel_rfl
theorem wh2_g:TablesWhole.wSs TablesWhole.holds PySem.Challenge.rw_sj0065_01.row.prog.main.scope ⟨PySem.Challenge.rw_sj0065_01.row.prog.main.scope,[],[],[],none⟩ PySem.Challenge.rw_sj0065_01.row.prog.main.scope (((PySem.Challenge.rw_sj0065_01.row.prog.main.body.drop 20).drop 20).take 20)=true:=by kernel_rfl
theorem wh3_g:TablesWhole.wSs TablesWhole.holds PySem.Challenge.rw_sj0065_01.row.prog.main.scope ⟨PySem.Challenge.rw_sj0065_01.row.prog.main.scope,[],[],[],none⟩ PySem.Challenge.rw_sj0065_01.row.prog.main.scope ((((PySem.Challenge.rw_sj0065_01.row.prog.main.body.drop 20).drop 20).drop 20).take 20)=true:=by kernel_rfl
theorem wh4_g:TablesWhole.wSs TablesWhole.holds PySem.Challenge.rw_sj0065_01.row.prog.main.scope ⟨PySem.Challenge.rw_sj0065_01.row.prog.main.scope,[],[],[],none⟩ PySem.Challenge.rw_sj0065_01.row.prog.main.scope (((((PySem.Challenge.rw_sj0065_01.row.prog.main.body.drop 20).drop 20).drop 20).drop 20).take 20)=true:=by kernel_rfl
theorem wh5_g:TablesWhole.wSs TablesWhole.holds PySem.Challenge.rw_sj0065_01.row.prog.main.scope ⟨PySem.Challenge.rw_sj0065_01.row.prog.main.scope,[],[],[],none⟩ PySem.Challenge.rw_sj0065_01.row.prog.main.scope (((((PySem.Challenge.rw_sj0065_01.row.prog.main.body.drop 20).drop 20).drop 20).drop 20).drop 20)=true:=by kernel_rfl
theorem wh_g:TablesWhole.wSs TablesWhole.holds PySem.Challenge.rw_sj0065_01.row.prog.main.scope ⟨PySem.Challenge.rw_sj0065_01.row.prog.main.scope,[],[],[],none⟩ PySem.Challenge.rw_sj0065_01.row.prog.main.scope PySem.Challenge.rw_sj0065_01.row.prog.main.body=true:=wshT 20 wh0_g (wshT 20 wh1_g (wshT 20 wh2_g (wshT 20 wh3_g (wshT 20 wh4_g wh5_g))))
theorem wg0_g:TablesWhole.wSs TablesWhole.gather PySem.Challenge.rw_sj0065_01.row.prog.main.scope ⟨PySem.Challenge.rw_sj0065_01.row.prog.main.scope,[],[],[],none⟩ PySem.Challenge.rw_sj0065_01.row.prog.main.scope (PySem.Challenge.rw_sj0065_01.row.prog.main.body.take 20)=[]:=by kernel_rfl
theorem wg1_g:TablesWhole.wSs TablesWhole.gather PySem.Challenge.rw_sj0065_01.row.prog.main.scope ⟨PySem.Challenge.rw_sj0065_01.row.prog.main.scope,[],[],[],none⟩ PySem.Challenge.rw_sj0065_01.row.prog.main.scope ((PySem.Challenge.rw_sj0065_01.row.prog.main.body.drop 20).take 20)=[]:=by kernel_rfl
theorem wg2_g:TablesWhole.wSs TablesWhole.gather PySem.Challenge.rw_sj0065_01.row.prog.main.scope ⟨PySem.Challenge.rw_sj0065_01.row.prog.main.scope,[],[],[],none⟩ PySem.Challenge.rw_sj0065_01.row.prog.main.scope (((PySem.Challenge.rw_sj0065_01.row.prog.main.body.drop 20).drop 20).take 20)=[]:=by kernel_rfl
theorem wg3_g:TablesWhole.wSs TablesWhole.gather PySem.Challenge.rw_sj0065_01.row.prog.main.scope ⟨PySem.Challenge.rw_sj0065_01.row.prog.main.scope,[],[],[],none⟩ PySem.Challenge.rw_sj0065_01.row.prog.main.scope ((((PySem.Challenge.rw_sj0065_01.row.prog.main.body.drop 20).drop 20).drop 20).take 20)=[]:=by kernel_rfl
theorem wg4_g:TablesWhole.wSs TablesWhole.gather PySem.Challenge.rw_sj0065_01.row.prog.main.scope ⟨PySem.Challenge.rw_sj0065_01.row.prog.main.scope,[],[],[],none⟩ PySem.Challenge.rw_sj0065_01.row.prog.main.scope (((((PySem.Challenge.rw_sj0065_01.row.prog.main.body.drop 20).drop 20).drop 20).drop 20).take 20)=[]:=by kernel_rfl
theorem wg5_g:TablesWhole.wSs TablesWhole.gather PySem.Challenge.rw_sj0065_01.row.prog.main.scope ⟨PySem.Challenge.rw_sj0065_01.row.prog.main.scope,[],[],[],none⟩ PySem.Challenge.rw_sj0065_01.row.prog.main.scope (((((PySem.Challenge.rw_sj0065_01.row.prog.main.body.drop 20).drop 20).drop 20).drop 20).drop 20)=[]:=by kernel_rfl
theorem wg_g:TablesWhole.wSs TablesWhole.gather PySem.Challenge.rw_sj0065_01.row.prog.main.scope ⟨PySem.Challenge.rw_sj0065_01.row.prog.main.scope,[],[],[],none⟩ PySem.Challenge.rw_sj0065_01.row.prog.main.scope PySem.Challenge.rw_sj0065_01.row.prog.main.body=[]:=wsgT 20 wg0_g (wsgT 20 wg1_g (wsgT 20 wg2_g (wsgT 20 wg3_g (wsgT 20 wg4_g wg5_g))))
theorem h5_g:PySem.Challenge.rw_sj0065_01.row.prog.tablesWhole=true:=by
  unfold Program.tablesWhole TablesWhole.wProgram TablesWhole.wModule
  dsimp only
  rw [wg_g,wh_g]
  kernel_rfl
theorem holds_of (call:WalkO qv lo (fun zz zz=>True) YG PySem.Challenge.rw_sj0065_01.row.toRowW lawD [] fun f vs=>PySem.call f vs):PySem.Challenge.rw_sj0065_01.Holds:=by
  refine holds_law (said_g _ rfl) fun said=>?_
  refine holds_open (d:=lawD) (kwd:=[]) (q:=qv) (loose:=lo) (Xt:=fun zz=>true) (XP:=fun zz zz=>True) (Yf:=fun s=>s.heap) (Ya:=fun w=>H1 w.params) (YP:=YG) (N:=20000) left_g (fun w s e b o h=>by rw [e];exact h) (fun w h h' y k b o e=>k b o (y b o e)) (fun zz zz=>trivial) (fun zz zz zz zz zz=>trivial) h1_g h2_g (by kernel_rfl) ?_ (by rfl) said h4_g ⟨rfl,rfl,rfl,rfl,rfl,h5_g⟩ ?_ call
  · exact fun s zz=>recFacts_of (by rfl)
  · w_witness2
end
section
open PySem PySem.W PySem.Calls PyProof.Rows
noncomputable def numF:Nat→List Obj→Frag
  | _,[]=>[]
  | i,o :: l=>if i ==955 then numF (i+1) l else (i,o) :: numF (i+1) l
noncomputable def KP (P:Params):Frag:=numF 0 (hl P)
theorem numF_get:∀ (l:List Obj) (i:Nat) {a:Addr} {o:Obj},(numF i l).lookup a=some o→i≤a∧l[a - i]?=some o
  | [],i,a,o,h=>by simp [numF] at h
  | x :: l,i,a,o,h=>by
    unfold numF at h
    have step:(numF (i+1) l).lookup a=some o→i≤a∧(x :: l)[a - i]?=some o:=fun h=>by
      refine aY (numF_get l (i+1) h) fun h1 h2=>?_
      have hj:(a:Nat) - i=(a - (i+1))+1:=by
        refine cw (Nat.sub_sub ..) ?_
        exact (Nat.sub_add_cancel (Nat.le_sub_of_add_le (by rw [Nat.add_comm];exact h1))).symm
      rw [hj,List.getElem?_cons_succ]
      exact ⟨Nat.le_of_succ_le h1,h2⟩
    split at h
    · exact step h
    · rw [List.lookup_cons] at h
      split at h
      · rename_i q;clear step;refine someO h ?_;refine ag (eq_of_beq q ..) ?_;simp
      · exact step h
theorem numF_ne:∀ (l:List Obj) (i:Nat) {a:Addr} {o:Obj},(numF i l).lookup a=some o→a≠955
  | [],i,a,o,h=>by simp [numF] at h
  | x :: l,i,a,o,h=>by
    unfold numF at h
    split at h
    · exact numF_ne l (i+1) h
    · rename_i hi
      rw [List.lookup_cons] at h
      split at h
      · rename_i q;rw [eq_of_beq q];simpa using hi
      · exact numF_ne l (i+1) h
theorem kP_in {w:World} {h:Heap} (live:((hl w.params).all fun o=>!o.isFreed)=true) (Y:YG w h):(KP w.params).In h:=fun a o e=>by
  refine aY (numF_get _ _ e) fun zz e2=>?_
  refine Y a o ?_
  have hm:=List.mem_of_getElem? e2
  have hf:o.isFreed=false:=by simpa using List.all_eq_true.mp live o hm
  rw [Nat.sub_zero] at e2
  unfold H1 Heap.get?
  simp [e2]
  clear Y live h hm e2 zz e a;obtain ⟨c,d,dat,sl⟩:=o
  clear w;cases dat <;> first | rfl | cases hf
end
section
open PySem PySem.W PySem.Calls PyProof.Rows
theorem b_and {a b:Bool} (h:a=true) (k:b=true):(a && b)=true:=by rw [h,k];rfl
theorem all_td {α:Type} {f:α→Bool} (n:Nat) {l:List α} (h:(l.take n).all f=true) (k:(l.drop n).all f=true):l.all f=true:=by rw [← List.take_append_drop n l,List.all_append,h,k];rfl
theorem k0_g (P:Params):methK (KP P)=true:=by kernel_rfl
theorem k1_g (P:Params):initK (KP P)=true:=by kernel_rfl
theorem k2_g (P:Params):fldsK (KP P)=true:=by kernel_rfl
theorem k3_g (P:Params):dynK (KP P)=true:=by kernel_rfl
theorem k4_g (P:Params):gfnK (KP P)=true:=by kernel_rfl
theorem k5_g (P:Params):gclK (KP P)=true:=by kernel_rfl
theorem k6_g (P:Params):gglK (KP P)=true:=by kernel_rfl
theorem k7_g (P:Params):gblK (KP P)=true:=by kernel_rfl
theorem k8_g (P:Params):gcmK (KP P)=true:=by kernel_rfl
theorem k9_g (P:Params):bigK (KP P)=true:=by kernel_rfl
theorem n0_g (P:Params):(dk.take 6).all (fnKey (KP P))=true:=by kernel_rfl
theorem n1_g (P:Params):((dk.drop 6).take 6).all (fnKey (KP P))=true:=by kernel_rfl
theorem n2_g (P:Params):(((dk.drop 6).drop 6).take 6).all (fnKey (KP P))=true:=by kernel_rfl
theorem n3_g (P:Params):((((dk.drop 6).drop 6).drop 6).take 6).all (fnKey (KP P))=true:=by kernel_rfl
theorem n4_g (P:Params):(((((dk.drop 6).drop 6).drop 6).drop 6).take 6).all (fnKey (KP P))=true:=by kernel_rfl
theorem n5_g (P:Params):((((((dk.drop 6).drop 6).drop 6).drop 6).drop 6).take 6).all (fnKey (KP P))=true:=by kernel_rfl
theorem n6_g (P:Params):(((((((dk.drop 6).drop 6).drop 6).drop 6).drop 6).drop 6).take 6).all (fnKey (KP P))=true:=by kernel_rfl
theorem n7_g (P:Params):((((((((dk.drop 6).drop 6).drop 6).drop 6).drop 6).drop 6).drop 6).take 6).all (fnKey (KP P))=true:=by kernel_rfl
theorem n8_g (P:Params):(((((((((dk.drop 6).drop 6).drop 6).drop 6).drop 6).drop 6).drop 6).drop 6).take 6).all (fnKey (KP P))=true:=by kernel_rfl
theorem n9_g (P:Params):((((((((((dk.drop 6).drop 6).drop 6).drop 6).drop 6).drop 6).drop 6).drop 6).drop 6).take 6).all (fnKey (KP P))=true:=by kernel_rfl
theorem n10_g (P:Params):(((((((((((dk.drop 6).drop 6).drop 6).drop 6).drop 6).drop 6).drop 6).drop 6).drop 6).drop 6).take 6).all (fnKey (KP P))=true:=by kernel_rfl
theorem n11_g (P:Params):(((((((((((dk.drop 6).drop 6).drop 6).drop 6).drop 6).drop 6).drop 6).drop 6).drop 6).drop 6).drop 6).all (fnKey (KP P))=true:=by kernel_rfl
theorem allK_g (P:Params):allK (KP P)=true:=b_and (k0_g P) (b_and (k1_g P) (b_and (k2_g P) (b_and (k3_g P) (b_and (k4_g P) (b_and (k5_g P) (b_and (k6_g P) (b_and (k7_g P) (b_and (k8_g P) (b_and (k9_g P) (all_td 6 (n0_g P) (all_td 6 (n1_g P) (all_td 6 (n2_g P) (all_td 6 (n3_g P) (all_td 6 (n4_g P) (all_td 6 (n5_g P) (all_td 6 (n6_g P) (all_td 6 (n7_g P) (all_td 6 (n8_g P) (all_td 6 (n9_g P) (all_td 6 (n10_g P) (n11_g P)))))))))))))))))))))
theorem live_g (P:Params):((hl P).all fun o=>!o.isFreed)=true:=by kernel_rfl
theorem tabs_g (P:Params):codeHdIn (KP P) 957 955=true:=by kernel_rfl
theorem law_g (P:Params):tabIn (KP P) lawD.name=some (957,955):=by kernel_rfl
theorem t955_g (P:Params):(H1 P).get? 955=some (tabObj #[]):=by kernel_rfl
end
section
open PySem PySem.W PySem.Calls PyProof.Rows
noncomputable def lawSl:List Str:=[Str.ofString "script",Str.ofString "bag",Str.ofString "rows",Str.ofString "turn",Str.ofString "wild",Str.ofString "functions",Str.ofString "shop",Str.ofString "first",Str.ofString "body",Str.ofString "signals",Str.ofString "store",Str.ofString "key",Str.ofString "_law_routine",Str.ofString "design",Str.ofString "ctx",Str.ofString "left",Str.ofString "sigs",Str.ofString "frame",Str.ofString "told"]
noncomputable def k1:Ck:=⟨lawD.scope.names,slotRes lawSl,19,[]⟩
noncomputable abbrev rNm:Str:=Str.ofString "_law_routine"
noncomputable abbrev fNm:Str:=Str.ofString "functions"
noncomputable def rS:Stmt:=lawD.body.getD 10 default
noncomputable def rP:Arguments:=onFD rS (fun _ a _ _ _=>a) default
noncomputable def rB:List Stmt:=onFD rS (fun _ _ b _ _=>b) default
noncomputable def rSc:Scope:=onFD rS (fun _ _ _ s _=>s) default
noncomputable def rPos:Pos:=onFD rS (fun _ _ _ _ p=>p) default
theorem body_g:lawD.body=lawD.body.take 10++.FunctionDef rNm rP rB [] none [] rSc none rNm rPos :: lawD.body.drop 11:=by kernel_rfl
theorem ck1_g:chkSs gTab k1 x_law1 (lawD.body.take 10)=true:=by kernel_rfl
theorem ck2_g:chkSs gTab ⟨k1.names,k1.res,k1.n,[fNm]⟩ x_law2 (lawD.body.drop 11)=true:=by kernel_rfl
theorem ckR_g:(⟨k1.names,k1.res,k1.n,[fNm]⟩:Ck).st rNm 12=true:=by kernel_rfl
theorem hd0_g:rP.defaults=[]:=by kernel_rfl
theorem hk0_g:rP.kw_defaults=[]:=by kernel_rfl
theorem ha_g (env:Env):annTrees rP none env=[]:=by kernel_rfl
theorem hF1_g:k1.res.lookup fNm=some 5:=by kernel_rfl
theorem hF2_g:k1.names.lookup fNm=some .cell:=by kernel_rfl
theorem hsc_g:rSc.names.filter (fun p=>p.2 ==.free)=[(fNm,.free)]:=by kernel_rfl
theorem hck_g (fs:V) (qual doc pm c' ctv cell):chkFn gTab (a0 fs) (fnX rNm qual rP rB rSc [(fNm,cell)] .none .none doc pm none (.ref c') ctv) (rP.args.map (·.arg)++[fNm])=true:=by kernel_rfl
theorem hnc_g:rSc.names.all (fun p=>p.2 !=.cell)=true:=by kernel_rfl
theorem hyf_g:rSc.names.lookup fNm=some .free:=by kernel_rfl
theorem hyp_g:decide (fNm∉rP.args.map (·.arg))=true:=by kernel_rfl
theorem ent_g (dV kV pm doc:Value):chkEnt 1 19 { docDef lawD.name lawD.params lawD.body lawD.scope pm (.ref 957) doc with defaults:=dV,kwdefaults:=kV } lawSl=true:=by kernel_rfl
theorem free_g:(slotRes lawSl).all (fun p=>lawD.scope.names.lookup p.1 !=some .free)=true:=by kernel_rfl
theorem dfl_g:lawD.params.defaults=[]:=by kernel_rfl
end
section
noncomputable def dh (o:Option bV):Tab:={ fn:=fun k=>if k=900 then o else fnTab k,aV:=methTab,init:=initTab,gl:=fun _=>.int 24,fld:=fldTab,dyn:=dynTab }
structure bz (T T':Tab):Prop where
  ex:∃ o,T'=dh o
  fld:T'.fld=T.fld
  aV:T'.aV=T.aV
  init:T'.init=T.init
  dyn:T'.dyn=T.dyn
  fn:∀ k f,T.fn k=some f→T'.fn k=some f
theorem fn_tabO {o:Option bV} (k:Nat) (f:bV) (h:bE.fn k=some f):(dh o).fn k=some f:=by
  show (if k=900 then o else fnTab k)=some f
  by_cases q:k=900
  · subst q;cases (show (none:Option bV)=some f from h)
  · rw [if_neg q];exact h
theorem tabO_le (o:Option bV):bz bE (dh o):=⟨⟨o,rfl⟩,rfl,rfl,rfl,rfl,fn_tabO⟩
theorem tab1_eq:bE=dh none:=by
  have:fnTab=fun k=>if k=900 then none else fnTab k:=funext fun k=>by
    by_cases q:k=900
    · subst q;rfl
    · rw [if_neg q]
  unfold bE dh;rw [← this]
theorem tab11:bz bE bE:=by have:=tabO_le none;rwa [← tab1_eq] at this
theorem tab12 (fs:V):bz bE (tab2 fs):=tabO_le (some (a0 fs))
theorem pure_run {T:Tab} {m k:Nat} {vs:List V} {f:bV} {σ:St} {r:Option (V×St)} (hf:T.fn k=some f) (h:1≤m) (e:∀ C,runF T C f vs σ=r):ab T m k vs σ=r:=by
  obtain ⟨n,rfl⟩:∃ n,m=n+1:=⟨m - 1,cI (lZ h)⟩
  exact ba hf (e _)
noncomputable def mapA {α β:Type} (f:α→β):List α→List β
  | []=>[]
  | a :: l=>f a :: mapA f l
noncomputable def mapB {α β:Type} (f:α→β):List α→List β
  | []=>[]
  | a :: l=>f a :: mapB f l
theorem bW {α β:Type} {f g:α→β}:∀ {l:List α},mapA f l=mapB g l→∀ a∈l,f a=g a
  | b :: l,h,a,ha=>by
    injection h with h1 h2
    cases ha with
    | head=>exact h1
    | tail _ ha=>exact bW h2 a ha
end
section
open PySem
noncomputable def Ok (r:Option (V×St)) (Q:V→St→Prop):Prop:=∃ v σ,r=some (v,σ)∧Q v σ
noncomputable def Oks (r:Option (List V×St)) (Q:List V→St→Prop):Prop:=∃ v σ,r=some (v,σ)∧Q v σ
noncomputable def Okf (r:Option (Fl×List V×St)) (Q:Fl→List V→St→Prop):Prop:=∃ f ρ σ,r=some (f,ρ,σ)∧Q f ρ σ
noncomputable def Somev {α} (r:Option α) (Q:α→Prop):Prop:=∃ v,r=some v∧Q v
theorem Ok.mk {r v σ} {Q:V→St→Prop} (h:r=some (v,σ)) (q:Q v σ):Ok r Q:=I2A2 v σ h q
theorem Oks.mk {r v σ} {Q:List V→St→Prop} (h:r=some (v,σ)) (q:Q v σ):Oks r Q:=I2A2 v σ h q
theorem Okf.mk {r f ρ σ} {Q:Fl→List V→St→Prop} (h:r=some (f,ρ,σ)) (q:Q f ρ σ):Okf r Q:=I3A2 f ρ σ h q
theorem Somev.mk {α} {r:Option α} {v} {Q:α→Prop} (h:r=some v) (q:Q v):Somev r Q:=⟨v,h,q⟩
theorem Ok.use {r} {P Q:V→St→Prop} (h:Ok r P) (q:∀ v σ,P v σ→Q v σ):Ok r Q:=by
  refine dP h fun v σ e p=>?_
  clear h
  exact I2A2 v σ e (q v σ p)
theorem Okf.use {r} {P Q:Fl→List V→St→Prop} (h:Okf r P) (q:∀ f ρ σ,P f ρ σ→Q f ρ σ):Okf r Q:=by
  refine E3A2 h fun v ρ σ e p=>?_
  clear h
  exact I3A2 v ρ σ e (q v ρ σ p)
theorem Ok.eq {r v σ} (h:Ok r fun v' σ'=>v'=v∧σ'=σ):r=some (v,σ):=by
  refine E2A3 h fun v σ e zq3 zq4=>?_
  clear h
  subst zq3 zq4
  exact e
inductive After (Q:Fl→List V→St→Prop) (k:List V→St→Prop):Fl→List V→St→Prop
  | aL {ρ σ}:k ρ σ→After Q k .aL ρ σ
  | cnt {ρ σ}:Q .cnt ρ σ→After Q k .cnt ρ σ
  | ret {ρ σ v}:Q (.ret v) ρ σ→After Q k (.ret v) ρ σ
inductive bj (P:V→St→Prop):Fl→List V→St→Prop
  | aL {ρ σ}:P .none σ→bj P .aL ρ σ
  | ret {ρ σ v}:P v σ→bj P (.ret v) ρ σ
inductive Turn (Q:Fl→List V→St→Prop) (k:List V→St→Prop):Fl→List V→St→Prop
  | aL {ρ σ}:k ρ σ→Turn Q k .aL ρ σ
  | cnt {ρ σ}:k ρ σ→Turn Q k .cnt ρ σ
  | ret {ρ σ v}:Q (.ret v) ρ σ→Turn Q k (.ret v) ρ σ
theorem noTup' {x:V} (h:∀ l,x≠.tup l):isTup x=false:=by cases x <;> first | rfl | exact absurd rfl (h _)
theorem isNB' {x:V} (h:x=.none∨∃ b,x=.bool b):isNB x=true:=by rcases h with rfl | ⟨b,rfl⟩ <;> rfl
theorem bif_t {α:Type} {x y:α} {w} (k:x=w):(bif true then x else y)=w:=k
theorem c_some {T:Tab} {C:aw} {e:XE} {ρ:List V} {σ σ1:St} {v:V} {b:Bool} (h:ae T C e ρ σ=some (v,σ1)) (h':truth v=some b):condX T C (some e) ρ σ=some (b,σ1):=x_cond.trans (ak h (map_eq h'))
theorem bif_f {α:Type} {c:Bool} {x y:α} {w} (h:c=false) (k:y=w):(bif c then x else y)=w:=by refine ag h ?_;exact k
structure WE (T:Tab) (C:aw) (e:XE) (ρ:List V) (σ:St) (Q:V→St→Prop):Prop where of ::
  ok:Ok (ae T C e ρ σ) Q
theorem WE.mk {T C e ρ σ v σ'} {Q:V→St→Prop} (h:ae T C e ρ σ=some (v,σ')) (q:Q v σ'):WE T C e ρ σ Q:=⟨v,σ',h,q⟩
structure WL (T:Tab) (C:aw) (e:List XE) (ρ:List V) (σ:St) (Q:List V→St→Prop):Prop where of ::
  ok:Oks (bp T C e ρ σ) Q
theorem WL.mk {T C e ρ σ v σ'} {Q:List V→St→Prop} (h:bp T C e ρ σ=some (v,σ')) (q:Q v σ'):WL T C e ρ σ Q:=⟨v,σ',h,q⟩
structure WA (T:Tab) (C:aw) (e:List XE) (ρ:List V) (σ:St) (Q:V→St→Prop):Prop where of ::
  ok:Ok (andX T C e ρ σ) Q
theorem WA.mk {T C e ρ σ v σ'} {Q:V→St→Prop} (h:andX T C e ρ σ=some (v,σ')) (q:Q v σ'):WA T C e ρ σ Q:=⟨v,σ',h,q⟩
structure WO (T:Tab) (C:aw) (e:List XE) (ρ:List V) (σ:St) (Q:V→St→Prop):Prop where of ::
  ok:Ok (orX T C e ρ σ) Q
theorem WO.mk {T C e ρ σ v σ'} {Q:V→St→Prop} (h:orX T C e ρ σ=some (v,σ')) (q:Q v σ'):WO T C e ρ σ Q:=⟨v,σ',h,q⟩
structure WC (C:aw) (k:Nat) (vs:List V) (σ:St) (Q:V→St→Prop):Prop where of ::
  ok:Ok (C k vs σ) Q
theorem WC.mk {C:aw} {k vs σ v σ'} {Q:V→St→Prop} (h:C k vs σ=some (v,σ')) (q:Q v σ'):WC C k vs σ Q:=⟨v,σ',h,q⟩
theorem WC.use {C:aw} {k vs σ} {P Q:V→St→Prop} (h:WC C k vs σ P) (q:∀ v σ,P v σ→Q v σ):WC C k vs σ Q:=⟨h.ok.use q⟩
theorem WC.eq {C:aw} {k vs σ v σ'} (h:WC C k vs σ fun v1 σ1=>v1=v∧σ1=σ'):C k vs σ=some (v,σ'):=h.ok.eq
structure WB (b:Bl) (vs:List V) (σ:St) (Q:V→St→Prop):Prop where of ::
  ok:Ok (bltV b vs σ) Q
theorem WB.mk {b vs σ v σ'} {Q:V→St→Prop} (h:bltV b vs σ=some (v,σ')) (q:Q v σ'):WB b vs σ Q:=⟨v,σ',h,q⟩
structure WM (C:aw) (f:Callee) (a:Nat) (vs:List V) (σ:St) (Q:V→St→Prop):Prop where of ::
  ok:Ok (callF C f a vs σ) Q
theorem WM.mk {C f a vs σ v σ'} {Q:V→St→Prop} (h:callF C f a vs σ=some (v,σ')) (q:Q v σ'):WM C f a vs σ Q:=⟨v,σ',h,q⟩
structure WS (T:Tab) (C:aw) (e:List XS) (ρ:List V) (σ:St) (Q:Fl→List V→St→Prop):Prop where of ::
  ok:Okf (aE T C e ρ σ) Q
theorem WS.mk {T C e ρ σ f ρ' σ'} {Q:Fl→List V→St→Prop} (h:aE T C e ρ σ=some (f,ρ',σ')) (q:Q f ρ' σ'):WS T C e ρ σ Q:=⟨f,ρ',σ',h,q⟩
structure SB (o:Op) (x y:V) (Q:V→Prop):Prop where of ::
  ok:Somev (binV o x y) Q
theorem SB.mk {o x y w} {Q:V→Prop} (h:binV o x y=some w) (q:Q w):SB o x y Q:=⟨w,h,q⟩
structure SU (o:Op) (x y:V) (Q:V→Prop):Prop where of ::
  ok:Somev (augV o x y) Q
theorem SU.mk {o x y w} {Q:V→Prop} (h:augV o x y=some w) (q:Q w):SU o x y Q:=⟨w,h,q⟩
structure ST (x:V) (Q:Bool→Prop):Prop where of ::
  ok:Somev (truth x) Q
theorem ST.mk {x w} {Q:Bool→Prop} (h:truth x=some w) (q:Q w):ST x Q:=⟨w,h,q⟩
structure SC (σ:St) (o:Cm) (x y:V) (Q:Bool→Prop):Prop where of ::
  ok:Somev (cmpV σ o x y) Q
theorem SC.mk {σ o x y w} {Q:Bool→Prop} (h:cmpV σ o x y=some w) (q:Q w):SC σ o x y Q:=⟨w,h,q⟩
structure SI (σ:St) (x y:V) (Q:V→Prop):Prop where of ::
  ok:Somev (getI σ x y) Q
theorem SI.mk {σ x y w} {Q:V→Prop} (h:getI σ x y=some w) (q:Q w):SI σ x y Q:=⟨w,h,q⟩
structure SG (T:Tab) (σ:St) (x:V) (a:Nat) (Q:V→Prop):Prop where of ::
  ok:Somev (getA T σ x a) Q
theorem SG.mk {T σ x a w} {Q:V→Prop} (h:getA T σ x a=some w) (q:Q w):SG T σ x a Q:=⟨w,h,q⟩
structure SP (T:Tab) (σ:St) (x:V) (a:Nat) (v:V) (Q:St→Prop):Prop where of ::
  ok:Somev (setA T σ x a v) Q
theorem SP.mk {T σ x a v w} {Q:St→Prop} (h:setA T σ x a v=some w) (q:Q w):SP T σ x a v Q:=⟨w,h,q⟩
structure SJ (σ:St) (x y v:V) (Q:St→Prop):Prop where of ::
  ok:Somev (setI σ x y v) Q
theorem SJ.mk {σ x y v w} {Q:St→Prop} (h:setI σ x y v=some w) (q:Q w):SJ σ x y v Q:=⟨w,h,q⟩
structure SM (T:Tab) (σ:St) (x:V) (a:Nat) (Q:Callee→Prop):Prop where of ::
  ok:Somev (dB T σ x a) Q
theorem SM.mk {T σ x a w} {Q:Callee→Prop} (h:dB T σ x a=some w) (q:Q w):SM T σ x a Q:=⟨w,h,q⟩
structure SQ (σ:St) (x:V) (Q:List V→Prop):Prop where of ::
  ok:Somev (bk σ x) Q
theorem SQ.mk {σ x w} {Q:List V→Prop} (h:bk σ x=some w) (q:Q w):SQ σ x Q:=⟨w,h,q⟩
theorem WE.el {T:Tab} {C:aw} {e:XE} {ρ:List V} {σ:St} {Q:V→St→Prop} {P:Prop} (h:WE T C e ρ σ Q) (k:∀ v σ',ae T C e ρ σ=some (v,σ')→Q v σ'→P):P:=dP h.ok k
theorem WL.el {T:Tab} {C:aw} {e:List XE} {ρ:List V} {σ:St} {Q:List V→St→Prop} {P:Prop} (h:WL T C e ρ σ Q) (k:∀ v σ',bp T C e ρ σ=some (v,σ')→Q v σ'→P):P:=dP h.ok k
theorem WA.el {T:Tab} {C:aw} {e:List XE} {ρ:List V} {σ:St} {Q:V→St→Prop} {P:Prop} (h:WA T C e ρ σ Q) (k:∀ v σ',andX T C e ρ σ=some (v,σ')→Q v σ'→P):P:=dP h.ok k
theorem WO.el {T:Tab} {C:aw} {e:List XE} {ρ:List V} {σ:St} {Q:V→St→Prop} {P:Prop} (h:WO T C e ρ σ Q) (k:∀ v σ',orX T C e ρ σ=some (v,σ')→Q v σ'→P):P:=dP h.ok k
theorem WC.el {C:aw} {k:Nat} {vs:List V} {σ:St} {Q:V→St→Prop} {P:Prop} (h:WC C k vs σ Q) (z:∀ v σ',C k vs σ=some (v,σ')→Q v σ'→P):P:=dP h.ok z
theorem WB.el {b:Bl} {vs:List V} {σ:St} {Q:V→St→Prop} {P:Prop} (h:WB b vs σ Q) (k:∀ v σ',bltV b vs σ=some (v,σ')→Q v σ'→P):P:=dP h.ok k
theorem WM.el {C:aw} {f:Callee} {a:Nat} {vs:List V} {σ:St} {Q:V→St→Prop} {P:Prop} (h:WM C f a vs σ Q) (k:∀ v σ',callF C f a vs σ=some (v,σ')→Q v σ'→P):P:=dP h.ok k
theorem WS.el {T:Tab} {C:aw} {e:List XS} {ρ:List V} {σ:St} {Q:Fl→List V→St→Prop} {P:Prop} (h:WS T C e ρ σ Q) (k:∀ g ρ' σ',aE T C e ρ σ=some (g,ρ',σ')→Q g ρ' σ'→P):P:=E3A2 h.ok k
theorem SB.el {o:Op} {x y:V} {Q:V→Prop} {P:Prop} (h:SB o x y Q) (k:∀ w,binV o x y=some w→Q w→P):P:=aq h.ok k
theorem SU.el {o:Op} {x y:V} {Q:V→Prop} {P:Prop} (h:SU o x y Q) (k:∀ w,augV o x y=some w→Q w→P):P:=aq h.ok k
theorem ST.el {x:V} {Q:Bool→Prop} {P:Prop} (h:ST x Q) (k:∀ w,truth x=some w→Q w→P):P:=aq h.ok k
theorem SC.el {σ:St} {o:Cm} {x y:V} {Q:Bool→Prop} {P:Prop} (h:SC σ o x y Q) (k:∀ w,cmpV σ o x y=some w→Q w→P):P:=aq h.ok k
theorem SI.el {σ:St} {x y:V} {Q:V→Prop} {P:Prop} (h:SI σ x y Q) (k:∀ w,getI σ x y=some w→Q w→P):P:=aq h.ok k
theorem SG.el {T:Tab} {σ:St} {x:V} {a:Nat} {Q:V→Prop} {P:Prop} (h:SG T σ x a Q) (k:∀ w,getA T σ x a=some w→Q w→P):P:=aq h.ok k
theorem SP.el {T:Tab} {σ:St} {x:V} {a:Nat} {v:V} {Q:St→Prop} {P:Prop} (h:SP T σ x a v Q) (k:∀ w,setA T σ x a v=some w→Q w→P):P:=aq h.ok k
theorem SJ.el {σ:St} {x y v:V} {Q:St→Prop} {P:Prop} (h:SJ σ x y v Q) (k:∀ w,setI σ x y v=some w→Q w→P):P:=aq h.ok k
theorem SM.el {T:Tab} {σ:St} {x:V} {a:Nat} {Q:Callee→Prop} {P:Prop} (h:SM T σ x a Q) (k:∀ w,dB T σ x a=some w→Q w→P):P:=aq h.ok k
theorem SQ.el {σ:St} {x:V} {Q:List V→Prop} {P:Prop} (h:SQ σ x Q) (k:∀ w,bk σ x=some w→Q w→P):P:=aq h.ok k
section
variable {T:Tab} {C:aw} {ρ:List V} {σ:St} {Q:V→St→Prop}
theorem w_gl {b} (q:Q (T.gl b) σ):WE T C (.gl b) ρ σ Q:=.mk rfl q
theorem dt {o a b} (h:WE T C a ρ σ fun x σ=>WE T C b ρ σ fun y σ=>SB o x y fun v=>Q v σ):WE T C (.bin o a b) ρ σ Q:=by
  refine h.el fun x σ1 e1 h=>h.el fun y σ2 e2 h=>h.el fun v e3 q=>?_
  exact .mk (ak e1 (ak e2 (map_eq e3))) q
theorem w_neg {a} (h:WE T C a ρ σ fun x σ=>∃ i,x=.int i∧Q (.int (-i)) σ):WE T C (.neg a) ρ σ Q:=by
  refine h.el fun x σ1 e1 z=>?_
  obtain ⟨i,rfl,q⟩:=z
  exact .mk (ak e1 rfl) q
theorem w_ite {t a b} (h:WE T C t ρ σ fun x σ=>ST x fun c=>(c=true→WE T C a ρ σ Q)∧(c=false→WE T C b ρ σ Q)):WE T C (.ite t a b) ρ σ Q:=by
  refine h.el fun x σ1 e1 h=>h.el fun c e2 z=>?_
  obtain ⟨q1,q2⟩:=z
  cases c
  · obtain ⟨v,σ2,e3,q⟩:=q2 rfl
    exact .mk (ak e1 (ba e2 e3)) q
  · obtain ⟨v,σ2,e3,q⟩:=q1 rfl
    exact .mk (ak e1 (ba e2 e3)) q
theorem aX {l} (h:WL T C l ρ σ fun vs σ=>vs.length < 1000∧Q (.tup vs) σ):WE T C (.tup l) ρ σ Q:=by
  refine h.el fun vs σ1 e1 z=>?_
  obtain ⟨hl,q⟩:=z
  exact .mk (ak e1 (bA hl rfl)) q
theorem w_lstF {l} (h:WL T C l ρ σ fun vs σ=>vs.length < 1000∧Q (.lst vs) σ):WE T C (.lst false l) ρ σ Q:=by
  refine h.el fun vs σ1 e1 z=>?_
  obtain ⟨hl,q⟩:=z
  exact .mk (ak e1 (bA hl rfl)) q
theorem w_lstT {l} (h:WL T C l ρ σ fun vs σ=>vs.length < 1000∧Q (.obj σ.length) (σ++[.lst vs])):WE T C (.lst true l) ρ σ Q:=by
  refine h.el fun vs σ1 e1 z=>?_
  obtain ⟨hl,q⟩:=z
  exact .mk (ak e1 (bA hl rfl)) q
theorem bT {o a b} (h:WE T C a ρ σ fun x σ=>WE T C b ρ σ fun y σ=>SC σ o x y fun v=>Q (.bool v) σ):WE T C (.cmp o a b) ρ σ Q:=by
  refine h.el fun x σ1 e1 h=>h.el fun y σ2 e2 h=>h.el fun v e3 q=>?_
  exact .mk (ak e1 (ak e2 (map_eq e3))) q
theorem w_cmp2 {a o b o' c} (h:WE T C a ρ σ fun x σ=>WE T C b ρ σ fun y σ=>SC σ o x y fun v=>(v=true→WE T C c ρ σ fun z σ=>SC σ o' y z fun v=>Q (.bool v) σ)∧(v=false→Q (.bool false) σ)):WE T C (.cmp2 a o b o' c) ρ σ Q:=by
  refine h.el fun x σ1 e1 h=>h.el fun y σ2 e2 h=>h.el fun v e3 z=>?_
  obtain ⟨q1,q2⟩:=z
  cases v
  · exact .mk (ak e1 (ak e2 (ba e3 rfl))) (q2 rfl)
  · obtain ⟨z,σ3,e4,v,e5,q⟩:=q1 rfl
    exact .mk (ak e1 (ak e2 (ba e3 (bif_t (ak e4 (map_eq e5)))))) q
theorem aD {k l} (h:WL T C l ρ σ fun vs σ=>WC C k vs σ Q):WE T C (.call k l) ρ σ Q:=by
  refine h.el fun vs σ1 e1 h=>h.el fun v σ2 e2 q=>?_
  exact .mk (ak e1 e2) q
theorem w_new {c k l} (hi:T.init c=some k) (h:WL T C l ρ σ fun vs σ=>WC C k (.obj σ.length :: vs) (σ++[.inst c []]) fun v σ'=>v=.none∧Q (.obj σ.length) σ'):WE T C (.new c l) ρ σ Q:=by
  refine h.el fun vs σ1 e1 h=>h.el fun v σ2 e2 z=>?_
  obtain ⟨rfl,q⟩:=z
  exact .mk (ak e1 (ba hi (ak e2 rfl))) q
theorem w_blt {b l} (h:WL T C l ρ σ fun vs σ=>WB b vs σ Q):WE T C (.blt b l) ρ σ Q:=by
  refine h.el fun vs σ1 e1 h=>h.el fun v σ2 e2 q=>?_
  exact .mk (ak e1 e2) q
theorem w_meth {o a l} (h:WE T C o ρ σ fun x σ=>SM T σ x a fun f=>WL T C l ρ σ fun vs σ=>WM C f a vs σ Q):WE T C (.aV o a l) ρ σ Q:=by
  refine h.el fun x σ1 e1 h=>h.el fun f e2 h=>h.el fun vs σ2 e3 h=>h.el fun v σ3 e4 q=>?_
  exact .mk (ak e1 (ba e2 (ak e3 e4))) q
theorem w_idx {o i} (h:WE T C o ρ σ fun x σ=>WE T C i ρ σ fun y σ=>SI σ x y fun v=>Q v σ):WE T C (.idx o i) ρ σ Q:=by
  refine h.el fun x σ1 e1 h=>h.el fun y σ2 e2 h=>h.el fun v e3 q=>?_
  exact .mk (ak e1 (ak e2 (map_eq e3))) q
theorem w_sliceToF {o k} (h:WE T C o ρ σ fun x σ=>(∀ l,x≠.tup l)∧SQ σ x fun l=>l.length < 1000∧Q (.lst (l.take k)) σ):WE T C (.sliceTo false o k) ρ σ Q:=by
  refine h.el fun x σ1 e1 z=>?_
  obtain ⟨hn,l,e2,hl,q⟩:=z
  exact .mk (ak e1 (bA (noTup' hn) (ba e2 (bA hl (bA (Nat.lt_of_le_of_lt (by refine ag List.length_take ?_;exact Nat.min_le_right _ _) hl) rfl))))) q
theorem w_sliceToT {o k} (h:WE T C o ρ σ fun x σ=>(∀ l,x≠.tup l)∧SQ σ x fun l=>l.length < 1000∧Q (.obj σ.length) (σ++[.lst (l.take k)])):WE T C (.sliceTo true o k) ρ σ Q:=by
  refine h.el fun x σ1 e1 z=>?_
  obtain ⟨hn,l,e2,hl,q⟩:=z
  exact .mk (ak e1 (bA (noTup' hn) (ba e2 (bA hl (bA (Nat.lt_of_le_of_lt (by rw [List.length_take];exact Nat.min_le_right _ _) hl) rfl))))) q
theorem w_sliceFromT {o k} (h:WE T C o ρ σ fun x σ=>(∀ l,x≠.tup l)∧SQ σ x fun l=>l.length < 1000∧Q (.obj σ.length) (σ++[.lst (l.drop k)])):WE T C (.sliceFrom true o k) ρ σ Q:=by
  refine h.el fun x σ1 e1 z=>?_
  obtain ⟨hn,l,e2,hl,q⟩:=z
  exact .mk (ak e1 (bif_f (noTup' hn) (ba e2 (bA hl (bA (Nat.lt_of_le_of_lt (by rw [List.length_drop];exact Nat.sub_le _ _) hl) rfl))))) q
theorem w_sliceFromF {o k} (h:WE T C o ρ σ fun x σ=>(∀ l,x≠.tup l)∧SQ σ x fun l=>l.length < 1000∧Q (.lst (l.drop k)) σ):WE T C (.sliceFrom false o k) ρ σ Q:=by
  refine h.el fun x σ1 e1 z=>?_
  obtain ⟨hn,l,e2,hl,q⟩:=z
  exact .mk (ak e1 (bif_f (noTup' hn) (ba e2 (bA hl (bA (Nat.lt_of_le_of_lt (by refine ag List.length_drop ?_;exact Nat.sub_le _ _) hl) rfl))))) q
theorem aP {Q:List V→St→Prop} (q:Q [] σ):WL T C [] ρ σ Q:=.mk rfl q
theorem af {e l} {Q:List V→St→Prop} (h:WE T C e ρ σ fun v σ=>WL T C l ρ σ fun vs σ=>Q (v :: vs) σ):WL T C (e :: l) ρ σ Q:=by
  refine h.el fun v σ1 e1 h=>h.el fun vs σ2 e2 q=>?_
  exact .mk (ak e1 (ak e2 rfl)) q
theorem w_and {l} (h:WA T C l ρ σ Q):WE T C (.and l) ρ σ Q:=⟨h.ok⟩
theorem w_or {l} (h:WO T C l ρ σ Q):WE T C (.or l) ρ σ Q:=⟨h.ok⟩
theorem w_and1 {e} (h:WE T C e ρ σ Q):WA T C [e] ρ σ Q:=by
  refine h.el fun v σ1 e1 q=>?_
  exact .mk (ak e1 rfl) q
theorem w_or1 {e} (h:WE T C e ρ σ Q):WO T C [e] ρ σ Q:=by
  refine h.el fun v σ1 e1 q=>?_
  exact .mk (ak e1 rfl) q
theorem w_and2 {e e' l} (h:WE T C e ρ σ fun v σ=>ST v fun b=>(b=true→WA T C (e' :: l) ρ σ Q)∧(b=false→Q v σ)):WA T C (e :: e' :: l) ρ σ Q:=by
  refine h.el fun v σ1 e1 h=>h.el fun b e2 z=>?_
  obtain ⟨q1,q2⟩:=z
  cases b
  · exact .mk (ak e1 (ba e2 rfl)) (q2 rfl)
  · obtain ⟨w,σ2,e3,q⟩:=q1 rfl
    exact .mk (ak e1 (ba e2 e3)) q
theorem w_or2 {e e' l} (h:WE T C e ρ σ fun v σ=>ST v fun b=>(b=true→Q v σ)∧(b=false→WO T C (e' :: l) ρ σ Q)):WO T C (e :: e' :: l) ρ σ Q:=by
  refine h.el fun v σ1 e1 h=>h.el fun b e2 z=>?_
  obtain ⟨q1,q2⟩:=z
  cases b
  · obtain ⟨w,σ2,e3,q⟩:=q2 rfl
    exact .mk (ak e1 (ba e2 e3)) q
  · exact .mk (ak e1 (ba e2 rfl)) (q1 rfl)
structure Comp (T:Tab) (C:aw) (elt:XE) (cond:Option XE) (ρ:List V) (src:V) (f i:Nat) (acc:List V) (σ:St) (Q:List V→St→Prop):Prop where of ::
  ok:Oks (compX (eltX T C elt cond ρ) src f i acc σ) Q
theorem Comp.mk {T C elt cond ρ src f i acc σ v σ'} {Q:List V→St→Prop} (h:compX (eltX T C elt cond ρ) src f i acc σ=some (v,σ')) (q:Q v σ'):Comp T C elt cond ρ src f i acc σ Q:=⟨v,σ',h,q⟩
theorem Comp.el {T:Tab} {C:aw} {elt:XE} {cond:Option XE} {ρ:List V} {src:V} {f i:Nat} {acc:List V} {σ:St} {Q:List V→St→Prop} {P:Prop} (h:Comp T C elt cond ρ src f i acc σ Q) (k:∀ v σ',compX (eltX T C elt cond ρ) src f i acc σ=some (v,σ')→Q v σ'→P):P:=dP h.ok k
theorem w_compF {elt it cond} (h:WE T C it ρ σ fun src σ=>cP src σ=true∧Comp T C elt cond ρ src 64 0 [] σ fun l σ=>l.length < 1000∧Q (.lst l) σ):WE T C (.comp false elt it cond) ρ σ Q:=by
  refine h.el fun src σ1 e1 z=>?_
  obtain ⟨hi,l,σ2,e2,hl,q⟩:=z
  exact .mk (ak e1 (bA hi (ak e2 (bA hl rfl)))) q
theorem w_compT {elt it cond} (h:WE T C it ρ σ fun src σ=>cP src σ=true∧Comp T C elt cond ρ src 64 0 [] σ fun l σ=>l.length < 1000∧Q (.obj σ.length) (σ++[.lst l])):WE T C (.comp true elt it cond) ρ σ Q:=by
  refine h.el fun src σ1 e1 z=>?_
  obtain ⟨hi,l,σ2,e2,hl,q⟩:=z
  exact .mk (ak e1 (bA hi (ak e2 (bA hl rfl)))) q
theorem cB {elt cond src f i acc} {Q:List V→St→Prop} (hn:a9 src i σ=some .none) (q:Q acc σ):Comp T C elt cond ρ src (f+1) i acc σ Q:=.mk (v:=acc) (σ':=σ) (ba hn rfl) q
theorem aA {elt src f i acc v} {Q:List V→St→Prop} (hn:a9 src i σ=some (some v)) (hl:acc.length < 1000) (h:WE T C elt (ρ++[v]) σ fun w σ=>Comp T C elt .none ρ src f (i+1) (acc++[w]) σ Q):Comp T C elt .none ρ src (f+1) i acc σ Q:=by
  refine h.el fun w σ1 e1 h=>h.el fun l σ2 e2 q=>?_
  exact .mk (v:=l) (σ':=σ2) (ba hn (ak (v:=some w) (σ:=σ1) (ak (v:=true) (σ:=σ) rfl (bif_t (ak e1 rfl))) (bA hl e2))) q
theorem w_comp_if {elt c src f i acc v} {Q:List V→St→Prop} (hn:a9 src i σ=some (some v)) (hl:acc.length < 1000) (h:WE T C c (ρ++[v]) σ fun x σ=>ST x fun b=>(b=true→WE T C elt (ρ++[v]) σ fun w σ=>Comp T C elt (some c) ρ src f (i+1) (acc++[w]) σ Q)∧(b=false→Comp T C elt (some c) ρ src f (i+1) acc σ Q)):Comp T C elt (some c) ρ src (f+1) i acc σ Q:=by
  refine h.el fun x σ1 e1 h=>h.el fun b e2 z=>?_
  obtain ⟨q1,q2⟩:=z
  cases b
  · obtain ⟨l,σ2,e3,q⟩:=q2 rfl
    exact .mk (v:=l) (σ':=σ2) (ba hn (ak (v:=(none:Option V)) (σ:=σ1) (ak (v:=false) (σ:=σ1) (c_some e1 e2) rfl) e3)) q
  · obtain ⟨w,σ2,e3,l,σ3,e4,q⟩:=q1 rfl
    exact .mk (v:=l) (σ':=σ3) (ba hn (ak (v:=some w) (σ:=σ2) (ak (v:=true) (σ:=σ1) (c_some e1 e2) (bif_t (ak e3 rfl))) (bA hl e4))) q
end
section
variable {T:Tab} {C:aw} {ρ:List V} {σ:St} {Q:Fl→List V→St→Prop}
theorem execXs_append (a l:List XS):∀ (ρ:List V) (σ:St),aE T C (a++l) ρ σ=bn3 (aE T C a ρ σ) fun fl ρ σ=>seqF fl ρ σ (aE T C l ρ σ):=by
  induction a with
  | nil=>intro ρ σ;rfl
  | cons s a ih=>
    intro ρ σ
    have e1:aE T C (s :: a++l) ρ σ=bn3 (bP T C s ρ σ) fun fl ρ σ=>seqF fl ρ σ (aE T C (a++l) ρ σ):=rfl
    have e2:aE T C (s :: a) ρ σ=bn3 (bP T C s ρ σ) fun fl ρ σ=>seqF fl ρ σ (aE T C a ρ σ):=rfl
    refine ag e1 (ag e2 ?_)
    cases bP T C s ρ σ with
    | none=>rfl
    | some p=>
      obtain ⟨f,ρ1,σ1⟩:=p
      cases f <;> first | rfl | exact ih ρ1 σ1
theorem aU (q:Q .aL ρ σ):WS T C [] ρ σ Q:=.mk rfl q
theorem s_cons {s l} (h:Okf (bP T C s ρ σ) (After Q fun ρ σ=>WS T C l ρ σ Q)):WS T C (s :: l) ρ σ Q:=by
  refine E3A2 h fun f ρ1 σ1 e1 q=>?_
  clear h
  cases q with
  | aL q=>
    obtain ⟨f,ρ2,σ2,e2,q⟩:=q
    exact .mk (cS e1 e2) q
  | cnt q=>exact .mk (cS e1 rfl) q
  | ret q=>exact .mk (cS e1 rfl) q
theorem s_to {s l ρ1 σ1} (e:bP T C s ρ σ=some (.aL,ρ1,σ1)) (h:WS T C l ρ1 σ1 Q):WS T C (s :: l) ρ σ Q:=s_cons (.mk e (.aL h))
theorem s_stop {s l ρ1 σ1 v} (e:bP T C s ρ σ=some (.ret v,ρ1,σ1)) (h:Q (.ret v) ρ1 σ1):WS T C (s :: l) ρ σ Q:=s_cons (.mk e (.ret h))
theorem s_cnt {s l ρ1 σ1} (e:bP T C s ρ σ=some (.cnt,ρ1,σ1)) (h:Q .cnt ρ1 σ1):WS T C (s :: l) ρ σ Q:=s_cons (.mk e (.cnt h))
theorem bH {e l} (h:WE T C e ρ σ fun v σ=>(v=.none∨∃ b,v=.bool b)∧WS T C l ρ σ Q):WS T C (.expr e :: l) ρ σ Q:=by
  refine h.el fun v σ1 e1 z=>?_
  obtain ⟨hv,q⟩:=z
  exact s_to (ρ1:=ρ) (σ1:=σ1) (x_expr.trans<|ak e1 (bA (isNB' hv) rfl)) q
theorem s_cont {l} (q:Q .cnt ρ σ):WS T C (.cont :: l) ρ σ Q:=s_cnt rfl q
theorem s_ret0 {l} (q:Q (.ret .none) ρ σ):WS T C (.ret0 :: l) ρ σ Q:=s_stop rfl q
theorem bI {e l} (h:WE T C e ρ σ fun v σ=>Q (.ret v) ρ σ):WS T C (.ret e :: l) ρ σ Q:=by
  refine h.el fun v σ1 e1 q=>?_
  exact s_stop (x_ret.trans<|ak e1 rfl) q
theorem s_ite {t a b l} (h:WE T C t ρ σ fun x σ=>ST x fun c=>(c=true→WS T C (a++l) ρ σ Q)∧(c=false→WS T C (b++l) ρ σ Q)):WS T C (.ite t a b :: l) ρ σ Q:=by
  refine h.el fun x σ1 e1 h=>h.el fun c e2 z=>?_
  obtain ⟨q1,q2⟩:=z
  cases c
  · obtain ⟨f,ρ2,σ2,e3,q⟩:=q2 rfl
    rw [execXs_append] at e3
    refine .mk (f:=f) (ρ':=ρ2) (σ':=σ2) (Eq.trans (congrArg (bn3 · _) (show bP T C (.ite t a b) ρ σ=aE T C b ρ σ1 from x_ite.trans<|ak e1 (ba e2 rfl))) e3) q
  · obtain ⟨f,ρ2,σ2,e3,q⟩:=q1 rfl
    rw [execXs_append] at e3
    refine .mk (f:=f) (ρ':=ρ2) (σ':=σ2) (Eq.trans (congrArg (bn3 · _) (show bP T C (.ite t a b) ρ σ=aE T C a ρ σ1 from x_ite.trans<|ak e1 (ba e2 rfl))) e3) q
theorem ar {i e l} (h:WE T C e ρ σ fun v σ=>i < ρ.length∧WS T C l (ρ.set i v) σ Q):WS T C (.asg (.loc i) e :: l) ρ σ Q:=by
  refine h.el fun v σ1 e1 z=>?_
  obtain ⟨hi,q⟩:=z
  exact s_to (x_asg.trans<|ak e1 (ak (bA hi rfl) rfl)) q
theorem s_asgA {o a e l} (h:WE T C e ρ σ fun v σ=>WE T C o ρ σ fun x σ=>SP T σ x a v fun σ=>WS T C l ρ σ Q):WS T C (.asg (.attr o a) e :: l) ρ σ Q:=by
  refine h.el fun v σ1 e1 h=>h.el fun x σ2 e2 h=>h.el fun σ3 e3 q=>?_
  exact s_to (x_asg.trans<|ak e1 (ak (x_asgA.trans<|ak e2 (map_eq e3)) rfl)) q
theorem dE {o i e l} (h:WE T C e ρ σ fun v σ=>WE T C o ρ σ fun x σ=>WE T C i ρ σ fun y σ=>SJ σ x y v fun σ=>WS T C l ρ σ Q):WS T C (.asg (.idx o i) e :: l) ρ σ Q:=by
  refine h.el fun v σ1 e1 h=>h.el fun x σ2 e2 h=>h.el fun y σ3 e3 h=>h.el fun σ4 e4 q=>?_
  exact s_to (x_asg.trans<|ak e1 (ak (x_asgI.trans<|ak e2 (ak e3 (map_eq e4))) rfl)) q
theorem s_aug {i o e l x} (hx:bU ρ i=some x) (h:WE T C e ρ σ fun y σ=>SU o x y fun v=>WS T C l (ρ.set i v) σ Q):WS T C (.aug (.loc i) o e :: l) ρ σ Q:=by
  refine h.el fun y σ1 e1 h=>h.el fun v e2 q=>?_
  exact s_to (x_aug.trans<|ak (ba hx (ak e1 (map_eq e2))) rfl) q
theorem s_augA {t a o e l} (h:WE T C t ρ σ fun x σ=>SG T σ x a fun old=>WE T C e ρ σ fun y σ=>SU o old y fun v=>SP T σ x a v fun σ=>WS T C l ρ σ Q):WS T C (.aug (.attr t a) o e :: l) ρ σ Q:=by
  refine h.el fun x σ1 e1 h=>h.el fun old e2 h=>h.el fun y σ2 e3 h=>h.el fun v e4 h=>h.el fun σ3 e5 q=>?_
  exact s_to (x_aug.trans<|ak (x_augA.trans<|ak e1 (ba e2 (ak e3 (ba e4 (map_eq e5))))) rfl) q
theorem s_augI {t i o e l} (h:WE T C t ρ σ fun x σ=>WE T C i ρ σ fun k σ=>SI σ x k fun old=>WE T C e ρ σ fun y σ=>SU o old y fun v=>SJ σ x k v fun σ=>WS T C l ρ σ Q):WS T C (.aug (.idx t i) o e :: l) ρ σ Q:=by
  refine h.el fun x σ1 e1 h=>h.el fun k σ0 e0 h=>h.el fun old e2 h=>h.el fun y σ2 e3 h=>h.el fun v e4 h=>h.el fun σ3 e5 q=>?_
  exact s_to (x_aug.trans<|ak (x_augI.trans<|ak e1 (ak e0 (ba e2 (ak e3 (ba e4 (map_eq e5)))))) rfl) q
theorem s_tryf {b f l} (h:WS T C b ρ σ fun r ρ σ=>WS T C f ρ σ fun g ρ σ=>g=.aL∧After Q (fun ρ σ=>WS T C l ρ σ Q) r ρ σ):WS T C (.tryf b f :: l) ρ σ Q:=by
  refine h.el fun r ρ1 σ1 e1 h=>h.el fun g ρ2 σ2 e2 z=>?_
  obtain ⟨rfl,q⟩:=z
  exact s_cons (.mk (x_try.trans<|cS e1 (cS e2 rfl)) q)
structure Loop (T:Tab) (C:aw) (t:XT) (b:List XS) (src:V) (f i:Nat) (ρ:List V) (σ:St) (Q:Fl→List V→St→Prop):Prop where of ::
  ok:Okf (loopX (turnX T C t b) src f i ρ σ) Q
theorem Loop.mk {T C t b src n i ρ σ f ρ' σ'} {Q:Fl→List V→St→Prop} (h:loopX (turnX T C t b) src n i ρ σ=some (f,ρ',σ')) (q:Q f ρ' σ'):Loop T C t b src n i ρ σ Q:=⟨f,ρ',σ',h,q⟩
theorem Loop.el {T:Tab} {C:aw} {t:XT} {b:List XS} {src:V} {f i:Nat} {ρ:List V} {σ:St} {Q:Fl→List V→St→Prop} {P:Prop} (h:Loop T C t b src f i ρ σ Q) (k:∀ g ρ' σ',loopX (turnX T C t b) src f i ρ σ=some (g,ρ',σ')→Q g ρ' σ'→P):P:=E3A2 h.ok k
theorem b6 {t it b l} (h:WE T C it ρ σ fun src σ=>cP src σ=true∧Loop T C t b src 64 0 ρ σ (After Q fun ρ σ=>WS T C l ρ σ Q)):WS T C (.for t it b :: l) ρ σ Q:=by
  refine h.el fun src σ1 e1 z=>?_
  obtain ⟨hi,f,ρ2,σ2,e2,q⟩:=z
  exact s_cons (.mk (x_for.trans<|ak e1 (bA hi e2)) q)
theorem cM {t b src f i} (hn:a9 src i σ=some .none) (q:Q .aL ρ σ):Loop T C t b src (f+1) i ρ σ Q:=.mk (f:=.aL) (ρ':=ρ) (σ':=σ) (ba hn rfl) q
theorem bO {i0 b src f i v} (hn:a9 src i σ=some (some v)) (hi:i0 < ρ.length) (h:WS T C b (ρ.set i0 v) σ (Turn Q fun ρ σ=>Loop T C (.loc i0) b src f (i+1) ρ σ Q)):Loop T C (.loc i0) b src (f+1) i ρ σ Q:=by
  refine h.el fun fl ρ1 σ1 e1 q=>?_
  have e:turnX T C (.loc i0) b v ρ σ=some (fl,ρ1,σ1):=ak (bA hi rfl) e1
  clear h hi e1;cases q with
  | aL q=>obtain ⟨f,ρ2,σ2,e2,q⟩:=q;exact .mk (f:=f) (ρ':=ρ2) (σ':=σ2) (ba hn (cS e e2)) q
  | cnt q=>obtain ⟨f,ρ2,σ2,e2,q⟩:=q;exact .mk (f:=f) (ρ':=ρ2) (σ':=σ2) (ba hn (cS e e2)) q
  | ret q=>exact .mk (f:=.ret _) (ρ':=ρ1) (σ':=σ1) (ba hn (cS e rfl)) q
theorem bQ {is b src f i vs} (hn:a9 src i σ=some (some (.tup vs))) (hi:vs.length=is.length∧is.all (· < ρ.length)=true) (h:WS T C b (setSlots ρ is vs) σ (Turn Q fun ρ σ=>Loop T C (.tup is) b src f (i+1) ρ σ Q)):Loop T C (.tup is) b src (f+1) i ρ σ Q:=by
  refine h.el fun fl ρ1 σ1 e1 q=>?_
  have e:turnX T C (.tup is) b (.tup vs) ρ σ=some (fl,ρ1,σ1):=ak (bA hi rfl) e1
  clear h hi e1;cases q with
  | aL q=>obtain ⟨f,ρ2,σ2,e2,q⟩:=q;exact .mk (f:=f) (ρ':=ρ2) (σ':=σ2) (ba hn (cS e e2)) q
  | cnt q=>obtain ⟨f,ρ2,σ2,e2,q⟩:=q;exact .mk (f:=f) (ρ':=ρ2) (σ':=σ2) (ba hn (cS e e2)) q
  | ret q=>exact .mk (f:=.ret _) (ρ':=ρ1) (σ':=σ1) (ba hn (cS e rfl)) q
structure While (T:Tab) (C:aw) (t:XE) (b:List XS) (f:Nat) (ρ:List V) (σ:St) (Q:Fl→List V→St→Prop):Prop where of ::
  ok:Okf (whileX (fun ρ σ=>ae T C t ρ σ) (fun ρ σ=>aE T C b ρ σ) f ρ σ) Q
theorem While.mk {T C t b n ρ σ f ρ' σ'} {Q:Fl→List V→St→Prop} (h:whileX (fun ρ σ=>ae T C t ρ σ) (fun ρ σ=>aE T C b ρ σ) n ρ σ=some (f,ρ',σ')) (q:Q f ρ' σ'):While T C t b n ρ σ Q:=⟨f,ρ',σ',h,q⟩
theorem While.el {T:Tab} {C:aw} {t:XE} {b:List XS} {f:Nat} {ρ:List V} {σ:St} {Q:Fl→List V→St→Prop} {P:Prop} (h:While T C t b f ρ σ Q) (k:∀ g ρ' σ',whileX (fun ρ σ=>ae T C t ρ σ) (fun ρ σ=>aE T C b ρ σ) f ρ σ=some (g,ρ',σ')→Q g ρ' σ'→P):P:=E3A2 h.ok k
theorem s_while {t b l} (h:While T C t b 64 ρ σ (After Q fun ρ σ=>WS T C l ρ σ Q)):WS T C (.while t b :: l) ρ σ Q:=by
  refine h.el fun f ρ2 σ2 e2 q=>?_
  exact s_cons (.mk (x_while.trans<|e2) q)
theorem w_while {t b f} (h:WE T C t ρ σ fun x σ=>ST x fun c=>(c=true→WS T C b ρ σ (Turn Q fun ρ σ=>While T C t b f ρ σ Q))∧(c=false→Q .aL ρ σ)):While T C t b (f+1) ρ σ Q:=by
  refine h.el fun x σ1 e1 h=>h.el fun c e2 z=>?_
  obtain ⟨q1,q2⟩:=z
  cases c
  · exact .mk (f:=.aL) (ρ':=ρ) (σ':=σ1) (ak e1 (ba e2 rfl)) (q2 rfl)
  · obtain ⟨fl,ρ1,σ2,e3,q⟩:=q1 rfl
    cases q with
    | aL q=>obtain ⟨g,ρ2,σ2,e4,q⟩:=q;exact .mk (f:=g) (ρ':=ρ2) (σ':=σ2) (ak e1 (ba e2 (bif_t (cS e3 e4)))) q
    | cnt q=>obtain ⟨g,ρ2,σ2,e4,q⟩:=q;exact .mk (f:=g) (ρ':=ρ2) (σ':=σ2) (ak e1 (ba e2 (bif_t (cS e3 e4)))) q
    | ret q=>exact .mk (f:=.ret _) (ρ':=ρ1) (σ':=σ2) (ak e1 (ba e2 (bif_t (cS e3 rfl)))) q
end
theorem aj {T:Tab} {n k:Nat} {f:bV} {vs ρ:List V} {σ:St} {Q:V→St→Prop} (hf:T.fn k=some f) (hl:vs.length=f.np) (hρ:vs++f.free++List.replicate (f.bG - f.np - f.free.length) .ai=ρ) (h:WS T (ab T n) f.body ρ σ (bj Q)):WC (ab T (n+1)) k vs σ Q:=by
  refine h.el fun fl ρ1 σ1 e1 q=>?_
  clear h;subst hρ
  cases q with
  | aL q=>exact .mk (v:=.none) (σ':=σ1) (ba hf (bA hl (cS e1 rfl))) q
  | ret q=>exact .mk (v:=_) (σ':=σ1) (ba hf (bA hl (cS e1 rfl))) q
theorem truth_bool {b} {Q:Bool→Prop} (q:Q b):ST (.bool b) Q:=⟨b,rfl,q⟩
theorem b_add {a b:Int} {Q:V→Prop} (q:Q (.int (a+b))):SB .add (.int a) (.int b) Q:=⟨_,rfl,q⟩
theorem b_sub {a b:Int} {Q:V→Prop} (q:Q (.int (a - b))):SB .sub (.int a) (.int b) Q:=⟨_,rfl,q⟩
theorem b_mulL {a b:Int} {Q:V→Prop} (h:small a=true) (q:Q (.int (a*b))):SB .mul (.int a) (.int b) Q:=⟨_,by simp only [binV,onI,intOp,h,Bool.true_or,if_true],q⟩
theorem b_mulR {a b:Int} {Q:V→Prop} (h:small b=true) (q:Q (.int (a*b))):SB .mul (.int a) (.int b) Q:=⟨_,by simp only [binV,onI,intOp,h,Bool.or_true,if_true],q⟩
theorem b_div {a b:Int} {Q:V→Prop} (h:small b=true∧(b !=0)=true) (q:Q (.int (a.fdiv b))):SB .fdiv (.int a) (.int b) Q:=⟨_,by simp only [binV,onI,intOp,h.1,h.2,Bool.true_and,if_true],q⟩
theorem b_mod {a b:Int} {Q:V→Prop} (h:small b=true∧(b !=0)=true) (q:Q (.int (a.fmod b))):SB .mod (.int a) (.int b) Q:=⟨_,by simp only [binV,onI,intOp,h.1,h.2,Bool.true_and,if_true],q⟩
theorem a_sub {a b:Int} {Q:V→Prop} (q:Q (.int (a - b))):SU .sub (.int a) (.int b) Q:=⟨_,rfl,q⟩
theorem c_eqi {σ} {a b:Int} {Q:Bool→Prop} (q:Q (a ==b)):SC σ .eq (.int a) (.int b) Q:=⟨_,rfl,q⟩
theorem c_nei {σ} {a b:Int} {Q:Bool→Prop} (q:Q (!(a ==b))):SC σ .ne (.int a) (.int b) Q:=⟨_,rfl,q⟩
theorem i_tup {σ} {l:List V} {k:Int} {v} {Q:V→Prop} (hk:idxOk k=true) (h:idxL l k=some v) (q:Q v):SI σ (.tup l) (.int k) Q:=⟨v,by simp only [getI,bk,hk,if_true,h],q⟩
theorem i_obj {σ:St} {n l} {k:Int} {v} {Q:V→Prop} (hn:σ[n]?=some (.lst l)) (hk:idxOk k=true) (h:idxL l k=some v) (q:Q v):SI σ (.obj n) (.int k) Q:=⟨v,by simp only [getI,bk,hn,hk,if_true,h],q⟩
theorem g_attr {T:Tab} {σ:St} {n a c fs v} {Q:V→Prop} (hn:σ[n]?=some (.inst c fs)) (hf:T.fld c a=true) (h:cn a fs=some v) (q:Q v):SG T σ (.obj n) a Q:=⟨v,by simp only [getA,hn,hf,if_true,h],q⟩
theorem p_attr {T:Tab} {σ:St} {n a c fs v} {Q:St→Prop} (hn:σ[n]?=some (.inst c fs)) (hf:T.fld c a=true) (hl:fs.length < 100) (q:Q (σ.set n (.inst c (putF a v fs)))):SP T σ (.obj n) a v Q:=⟨_,by simp only [setA,hn,hf,hl,decide_true,Bool.and_true,if_true],q⟩
theorem p_lst {σ:St} {n l} {k:Int} {v} {Q:St→Prop} (hn:σ[n]?=some (.lst l)) (h0:0≤k) (h1:k < l.length) (hl:l.length < 1000) (q:Q (σ.set n (.lst (l.set k.toNat v)))):SJ σ (.obj n) (.int k) v Q:=⟨_,by simp only [setI,hn,h0,h1,hl,decide_true,Bool.and_true,if_true],q⟩
theorem p_dct {σ:St} {n l} {k:Int} {v} {Q:St→Prop} (hn:σ[n]?=some (.cN l)) (hl:l.length < 60) (q:Q (σ.set n (.cN (putD k v l)))):SJ σ (.obj n) (.int k) v Q:=⟨_,by simp only [setI,hn,hl,if_true],q⟩
theorem m_lst {T:Tab} {σ:St} {n a l} {Q:Callee→Prop} (hn:σ[n]?=some (.lst l)) (q:Q (.lst n)):SM T σ (.obj n) a Q:=⟨_,by simp only [dB,hn],q⟩
theorem slot_ne {ρ:List V} {i:Nat} {v:V} (h:ρ[i]?=some v) (hv:v≠.ai):bU ρ i=some v:=by
  unfold bU;refine ag h ?_;clear h i ρ;cases v <;> first | rfl | exact absurd rfl hv
theorem nU {v:V} (h:v.ctorIdx.beq 0=false):v≠.ai:=fun e=>by replace h:=e▸h;cases h
theorem aa {a b:Nat} (h:Nat.blt a b=true):a < b:=Nat.le_of_ble_eq_true h
theorem and_t {c:Bool} {A B:Prop} (h:c=true) (a:A):(c=true→A)∧(c=false→B):=⟨fun zz=>a,fun e=>by replace e:=h▸e;cases e⟩
theorem ct {c:Bool} {A B:Prop} (h:c=false) (b:B):(c=true→A)∧(c=false→B):=⟨(fun e=>by replace e:=h▸e;cases e),fun zz=>b⟩
theorem and_b {c:Bool} {A B:Prop} (a:c=true→A) (b:c=false→B):(c=true→A)∧(c=false→B):=⟨a,b⟩
section
variable {T:Tab} {C:aw} {σ σ1:St}
theorem s_true {ρ:List V} {Q:Fl→List V→St→Prop} {t a b l σ'} (e:ae T C t ρ σ=some (.bool true,σ')) (h:WS T C (a++l) ρ σ' Q):WS T C (.ite t a b :: l) ρ σ Q:=
  s_ite (.mk e (.mk rfl (and_t rfl h)))
theorem s_false {ρ:List V} {Q:Fl→List V→St→Prop} {t a b l σ'} (e:ae T C t ρ σ=some (.bool false,σ')) (h:WS T C (b++l) ρ σ' Q):WS T C (.ite t a b :: l) ρ σ Q:=
  s_ite (.mk e (.mk rfl (ct rfl h)))
theorem s_bool {ρ:List V} {Q:Fl→List V→St→Prop} {t a b l σ' c} (e:ae T C t ρ σ=some (.bool c,σ')) (h:c=true→WS T C (a++l) ρ σ' Q) (h':c=false→WS T C (b++l) ρ σ' Q):WS T C (.ite t a b :: l) ρ σ Q:=
  s_ite (.mk e ⟨c,rfl,h,h'⟩)
theorem au {ρ:List V} {Q:Fl→List V→St→Prop} {e l v σ'} (h:ae T C e ρ σ=some (v,σ')) (q:Q (.ret v) ρ σ'):WS T C (.ret e :: l) ρ σ Q:=bI (.mk h q)
theorem ao (k:Nat) {ρ ρ1:List V} {σ1:St} {Q:Fl→List V→St→Prop} {l:List XS} (e:aE T C (l.take k) ρ σ=some (.aL,ρ1,σ1)) (h:WS T C (l.drop k) ρ1 σ1 Q):WS T C l ρ σ Q:=by
  refine h.el fun f ρ2 σ2 e2 q=>?_
  refine .mk (f:=f) (ρ':=ρ2) (σ':=σ2) ?_ q
  conv=>lhs;rw [← List.take_append_drop k l]
  refine ag (execXs_append ..) ?_;exact cS e e2
theorem cv {ρ:List V} {k:Nat} {l:List XE} {vs:List V} {v:V} {σ1 σ2:St} (h:bp T C l ρ σ=some (vs,σ1)) (e:C k vs σ1=some (v,σ2)):ae T C (.call k l) ρ σ=some (v,σ2):=by
  exact ak h e
variable {ρ:List V}
theorem evs1 {e:XE} {v:V} (h:ae T C e ρ σ=some (v,σ1)):bp T C [e] ρ σ=some ([v],σ1):=ak h rfl
theorem bB {e e':XE} {v v':V} {σ2:St} (h:ae T C e ρ σ=some (v,σ1)) (h':ae T C e' ρ σ1=some (v',σ2)):bp T C [e,e'] ρ σ=some ([v,v'],σ2):=ak h (ak (ak h' rfl) rfl)
theorem evs3 {e e' e2:XE} {v v' v2:V} {σ2 σ3:St} (h:ae T C e ρ σ=some (v,σ1)) (h':ae T C e' ρ σ1=some (v',σ2)) (h2:ae T C e2 ρ σ2=some (v2,σ3)):bp T C [e,e',e2] ρ σ=some ([v,v',v2],σ3):=ak h (ak (ak h' (ak (ak h2 rfl) rfl)) rfl)
theorem evs4 {e e' e2 e3:XE} {v v' v2 v3:V} {σ2 σ3 σ4:St} (h:ae T C e ρ σ=some (v,σ1)) (h':ae T C e' ρ σ1=some (v',σ2)) (h2:ae T C e2 ρ σ2=some (v2,σ3)) (h3:ae T C e3 ρ σ3=some (v3,σ4)):bp T C [e,e',e2,e3] ρ σ=some ([v,v',v2,v3],σ4):=ak h (ak (ak h' (ak (ak h2 (ak (ak h3 rfl) rfl)) rfl)) rfl)
end
end
section
open PySem
noncomputable def onIb (v:V) (f:Int→Bool):Bool:=match v with
  | .int i=>f i
  | _=>false
theorem onIb_ok {v:V} {i:Int} (h:onIb v (fun j=>j ==i)=true):v=.int i:=by
  cases v with
  | int j=>exact congrArg V.int (beq_iff_eq.mp h)
  | _=>cases h
noncomputable def eqJs:List Int→List V→Bool
  | [],l=>l.isEmpty
  | b :: m,l=>match l with
    | []=>false
    | v :: l=>onIb v (fun j=>j ==b) && eqJs m l
noncomputable def eqIs (l:List V) (m:List Int):Bool:=eqJs m l
theorem eqIs_ok:∀ {m:List Int} {l:List V},eqJs m l=true→l=m.map .int
  | [],l,h=>List.isEmpty_iff.mp h
  | b :: m,v :: l,h=>by
    obtain ⟨h1,h2⟩:=(Bool.and_eq_true _ _).mp h
    refine ag (onIb_ok h1) (ag (eqIs_ok h2) ?_);rfl
theorem lst_of {l:List V} (m:List Int) (h:eqIs l m=true):V.lst l=.lst (m.map .int):=congrArg V.lst (eqIs_ok h)
set_option genInjectivity true in
structure Vc where
  a:Fin 8
  b:Fin 8
  deriving DecidableEq
noncomputable def Vc.v (x:Vc):V:=.tup [.int 3,.int (x.a.val:Nat),.int (x.b.val:Nat)]
noncomputable def mk8 (a b:Nat):Vc:=⟨Fin.ofNat 8 a,Fin.ofNat 8 b⟩
noncomputable def addP (u v:Vc):Vc:=if u.b=0 then (if v.b=0 then ⟨u.a+v.a,0⟩ else ⟨7,7⟩) else ⟨7,7⟩
theorem or_eq (x:Nat):∀ y:Nat,(x ||| y)=(x &&& y)+(x ^^^ y):=by
  induction x using Nat.strongRecOn with
  | _ x ih=>
    intro y
    by_cases hx:x=0
    · subst hx;simp
    · have h:=ih (x / 2) (by lia) (y / 2)
      have h1:(x ||| y) / 2=x / 2 ||| y / 2:=Nat.or_div_two
      have h2:(x &&& y) / 2=x / 2 &&& y / 2:=Nat.and_div_two
      have h3:(x ^^^ y) / 2=x / 2 ^^^ y / 2:=Nat.xor_div_two
      have m1:(x ||| y) % 2=x % 2 ||| y % 2:=Nat.or_mod_two_pow (n:=1)
      have m2:(x &&& y) % 2=x % 2 &&& y % 2:=Nat.and_mod_two_pow (n:=1)
      have m3:(x ^^^ y) % 2=x % 2 ^^^ y % 2:=Nat.xor_mod_two_pow (n:=1)
      rw [← h1,← h2,← h3] at h
      rcases Nat.mod_two_eq_zero_or_one x with a | a <;> rcases Nat.mod_two_eq_zero_or_one y with b | b <;> rw [a,b] at m1 m2 m3 <;> simp only [Nat.zero_or,Nat.or_zero,Nat.or_self,Nat.and_zero,Nat.zero_and,Nat.and_self,Nat.xor_zero,Nat.zero_xor,Nat.xor_self] at m1 m2 m3 <;> lia
theorem bAnd (x y:Nat):Builtin.bitAnd (x:Int) (y:Int)=((x &&& y:Nat):Int):=by simp [Builtin.bitAnd]
theorem bNot (x:Nat):(Builtin.bitNot (Builtin.bitNot (x:Int)))=(x:Int):=by simp [Builtin.bitNot];lia
theorem bOr (x y:Nat):Builtin.bitOr (x:Int) (y:Int)=((x ||| y:Nat):Int):=by
  have hx:¬ (0≤Builtin.bitNot (x:Int)):=by simp [Builtin.bitNot];lia
  have hy:¬ (0≤Builtin.bitNot (y:Int)):=by simp [Builtin.bitNot];lia
  simp only [Builtin.bitOr,Builtin.bitAnd,hx,hy,decide_false,bNot,Int.toNat_natCast]
theorem bXor (x y:Nat):Builtin.bitXor (x:Int) (y:Int)=((x ^^^ y:Nat):Int):=by
  rw [Builtin.bitXor,bOr,bAnd,or_eq];lia
theorem bXor7' (x:Nat):Builtin.bitXor 7 (x:Int)=((7 ^^^ x:Nat):Int):=bXor 7 x
theorem beq0 (x:Nat):((x:Int) ==0)=(x ==0):=by rw [Bool.eq_iff_iff];simp
theorem x8 {x y:Nat} (h:x < 8) (h':y < 8):x ^^^ y < 8:=Nat.xor_lt_two_pow (n:=3) h h'
theorem o8 {x y:Nat} (h:x < 8) (h':y < 8):x ||| y < 8:=Nat.or_lt_two_pow (n:=3) h h'
theorem a8 {x y:Nat} (h:x < 8):x &&& y < 8:=Nat.lt_of_le_of_lt Nat.and_le_left h
theorem of8 {x:Nat} (h:x < 8):(Fin.ofNat 8 x).val=x:=Nat.mod_eq_of_lt h
noncomputable def xorP (u v:Vc):Vc:=⟨Fin.ofNat 8 ((u.a.val ^^^ v.a.val) ||| (u.b.val ||| v.b.val)),Fin.ofNat 8 (u.b.val ||| v.b.val)⟩
noncomputable def trP (u:Vc):Nat:=if u.a.val &&& (u.b.val ^^^ 7)≠0 then 1 else if u.a=0∧u.b=0 then 0 else 3
theorem cV (u:Vc):trP u=0∨trP u=1∨trP u=3:=by unfold trP;split <;> (try split) <;> simp
noncomputable def bit1 (c:Nat):V:=.tup [.int 1,.int (c % 2:Nat),.int (c / 2:Nat)]
noncomputable def andT (s t:Nat):Nat:=if s=0∨t=0 then 0 else if s=1∧t=1 then 1 else 3
noncomputable def w2 (a b:Fin 4):V:=.tup [.int 2,.int (a.val:Nat),.int (b.val:Nat)]
noncomputable def dG:Option Int→V
  | .none=>.none
  | some i=>.int i
noncomputable def toI (u:Vc) (s:Bool):Option Int:=if u.b=0 then some (if s=true∧4≤u.a.val then (u.a.val:Int) - 8 else (u.a.val:Int)) else .none
noncomputable def toI2 (u:Vc) (s:Bool):Option Int:=if u.b.val % 4=0 then some (if s=true∧2≤u.a.val % 4 then (u.a.val % 4:Nat) - 4 else ((u.a.val % 4:Nat):Int)) else .none
noncomputable def bitI (a:Nat) (i:Int):Nat:=a / 2 ^ i.toNat % 2
noncomputable def put8 (lo:Int) (h p:Fin 8):Fin 8:=
  let f (i:Nat):Nat:=if 0≤(i:Int) - lo∧(i:Int) - lo < 3 then bitI p (i - lo) else bitI h i
  Fin.ofNat 8 (f 0+2*f 1+4*f 2)
noncomputable def cg (lo:Int) (h p:Vc):Vc:=⟨put8 lo h.a p.a,put8 lo h.b p.b⟩
noncomputable def mixP (t f:Vc):Vc:=
  let s:=7 ^^^ ((t.a.val ^^^ f.a.val) ||| t.b.val ||| f.b.val)
  ⟨Fin.ofNat 8 ((t.a.val &&& s) ||| (7 ^^^ s)),Fin.ofNat 8 (7 ^^^ s)⟩
noncomputable def cj (k:Fin 3):V:=if k=0 then .str 42 else if k=1 then .str 0 else .str 1
noncomputable def bq (k:Fin 3) (u v:Vc):Bool:=
  let free:Nat:=if k=0 then 0 else if k=1 then (u.b.val &&& (u.b.val ^^^ u.a.val)) ||| (v.b.val &&& (v.b.val ^^^ v.a.val)) else u.b.val ||| v.b.val
  let care:=7 ^^^ free
  ((u.a.val ^^^ v.a.val) &&& care ==0) && ((u.b.val ^^^ v.b.val) &&& care ==0)
noncomputable def f8:List (Fin 8):=[0,1,2,3,4,5,6,7]
theorem f8_mem:∀ x:Fin 8,x∈f8:=by decide
noncomputable def all8 (f:Fin 8→Bool):Bool:=f8.all f
theorem all8_ok {f:Fin 8→Bool} (h:all8 f=true) (x:Fin 8):f x=true:=List.all_eq_true.mp h x (f8_mem x)
noncomputable def allV (f:Vc→Bool):Bool:=all8 fun a=>all8 fun b=>f ⟨a,b⟩
theorem dC {f:Vc→Bool} (h:allV f=true) (u:Vc):f u=true:=all8_ok (f:=fun b=>f ⟨u.a,b⟩) (all8_ok (f:=fun a=>all8 fun b=>f ⟨a,b⟩) h u.a) u.b
noncomputable def vcs:List Vc:=f8.flatMap fun a=>f8.map fun b=>⟨a,b⟩
theorem cC (u:Vc):u∈vcs:=List.mem_flatMap.mpr ⟨u.a,f8_mem _,List.mem_map.mpr ⟨u.b,f8_mem _,rfl⟩⟩
noncomputable def q4:List (Fin 4):=[0,1,2,3]
theorem q4_mem (x:Fin 4):x∈q4:=f4 x (by decide) (by decide) (by decide) (by decide)
theorem cF {j n:Nat} (h:j≤n):∃ m,n=m+j:=⟨n - j,(Nat.sub_add_cancel h).symm⟩
noncomputable def kp (lo:Int):Int:=Builtin.bitXor 7 ((1*2 ^ (min (lo+3) 3 - max lo 0).toNat - 1)*2 ^ (max lo 0).toNat)
noncomputable def sh (lo:Int) (c:Nat):Int:=Builtin.bitAnd ((c:Int).fdiv (2 ^ (max lo 0 - lo).toNat)) (1*2 ^ (min (lo+3) 3 - max lo 0).toNat - 1)*2 ^ (max lo 0).toNat
section
variable {T:Tab} (hT:bz bE T) {n:Nat} {σ:St}
include hT
theorem allx3 (h:2≤n):ab T n 6 [.int 3] σ=some ((⟨7,7⟩:Vc).v,σ):=by
  refine aN hT.ex fun o aW=>?_
  subst aW
  refine aN (cF h) fun n aW=>?_
  subst aW
  kernel_rfl
theorem int_ok {u:Vc} {s:Bool} (h:1≤n):ab T n 10 [u.v,.bool s] σ=some (dG (toI u s),σ):=by
  refine aN hT.ex fun o aW=>?_
  subst aW
  refine aN (cF h) fun n aW=>?_
  subst aW
  cases s
  · exact bW (f:=fun u:Vc=>ab (dh o) (n+1) 10 [u.v,.bool false] σ) (g:=fun u=>some (dG (toI u false),σ)) (by kernel_rfl) u (cC u)
  · exact bW (f:=fun u:Vc=>ab (dh o) (n+1) 10 [u.v,.bool true] σ) (g:=fun u=>some (dG (toI u true),σ)) (by kernel_rfl) u (cC u)
theorem int2_ok {a b:Fin 4} {s:Bool} (h:1≤n):ab T n 10 [w2 a b,.bool s] σ=some (dG (if b=0 then some (if s=true∧2≤a.val then (a.val:Int) - 4 else a.val) else .none),σ):=by
  refine aN hT.ex fun o aW=>?_
  subst aW
  refine aN (cF h) fun n aW=>?_
  clear h;subst aW
  cases s
  · exact bW (f:=fun b:Fin 4=>ab (dh o) (n+1) 10 [w2 a b,.bool false] σ) (g:=fun b=>some (dG (if b=0 then some (if false=true∧2≤a.val then (a.val:Int) - 4 else a.val) else .none),σ)) (l:=q4) (f4 (P:=fun a=>mapA (fun b:Fin 4=>ab (dh o) (n+1) 10 [w2 a b,.bool false] σ) q4=mapB (fun b=>some (dG (if b=0 then some (if false=true∧2≤a.val then (a.val:Int) - 4 else a.val) else .none),σ)) q4) a (by kernel_rfl) (by kernel_rfl) (by kernel_rfl) (by kernel_rfl)) b (q4_mem b)
  · exact bW (f:=fun b:Fin 4=>ab (dh o) (n+1) 10 [w2 a b,.bool true] σ) (g:=fun b=>some (dG (if b=0 then some (if true=true∧2≤a.val then (a.val:Int) - 4 else a.val) else .none),σ)) (l:=q4) (f4 (P:=fun a=>mapA (fun b:Fin 4=>ab (dh o) (n+1) 10 [w2 a b,.bool true] σ) q4=mapB (fun b=>some (dG (if b=0 then some (if true=true∧2≤a.val then (a.val:Int) - 4 else a.val) else .none),σ)) q4) a (by kernel_rfl) (by kernel_rfl) (by kernel_rfl) (by kernel_rfl)) b (q4_mem b)
theorem slice3_ok {u:Vc} (h:2≤n):ab T n 12 [u.v,.int 0,.int 3] σ=some (u.v,σ):=by
  refine aN hT.ex fun o aW=>?_
  subst aW
  refine aN (cF h) fun n aW=>?_
  subst aW
  exact bW (f:=fun u:Vc=>ab (dh o) (n+2) 12 [u.v,.int 0,.int 3] σ) (g:=fun u=>some (u.v,σ)) (by kernel_rfl) u (cC u)
theorem slice2_ok {u:Vc} (h:2≤n):ab T n 12 [u.v,.int 0,.int 2] σ=some (w2 (Fin.ofNat 4 u.a) (Fin.ofNat 4 u.b),σ):=by
  refine aN hT.ex fun o aW=>?_
  subst aW
  refine aN (cF h) fun n aW=>?_
  subst aW
  exact bW (f:=fun u:Vc=>ab (dh o) (n+2) 12 [u.v,.int 0,.int 2] σ) (g:=fun u=>some (w2 (Fin.ofNat 4 u.a) (Fin.ofNat 4 u.b),σ)) (by kernel_rfl) u (cC u)
theorem ext3_ok {u:Vc} (h:3≤n):ab T n 15 [u.v,.int 3,.bool false] σ=some (u.v,σ):=by
  refine aN hT.ex fun o aW=>?_
  subst aW
  refine aN (cF h) fun n aW=>?_
  subst aW
  exact bW (f:=fun u:Vc=>ab (dh o) (n+3) 15 [u.v,.int 3,.bool false] σ) (g:=fun u=>some (u.v,σ)) (by kernel_rfl) u (cC u)
theorem ext1_ok {c:Nat} (hc:c < 4) (h:3≤n):ab T n 15 [bit1 c,.int 3,.bool false] σ=some ((mk8 (c % 2) (c / 2)).v,σ):=by
  refine aN hT.ex fun o aW=>?_
  subst aW
  refine aN (cF h) fun n aW=>?_
  subst aW
  exact bW (f:=fun c:Fin 4=>ab (dh o) (n+3) 15 [bit1 c,.int 3,.bool false] σ) (g:=fun c=>some ((mk8 (c.val % 2) (c.val / 2)).v,σ)) (by kernel_rfl) ⟨c,hc⟩ (q4_mem _)
theorem tr_ok {u:Vc} (h:2≤n):ab T n 17 [u.v] σ=some (.int (trP u:Nat),σ):=by
  refine aN hT.ex fun o aW=>?_
  subst aW
  refine aN (cF h) fun n aW=>?_
  clear h;subst aW
  exact bW (f:=fun u:Vc=>ab (dh o) (n+2) 17 [u.v] σ) (g:=fun u=>some (.int (trP u:Nat),σ)) (by kernel_rfl) u (cC u)
theorem tr1_ok {c:Fin 4} (h:2≤n):ab T n 17 [bit1 c] σ=some (.int ((if c.val=2 then 3 else c.val:Nat):Nat),σ):=by
  refine aN hT.ex fun o aW=>?_
  subst aW
  refine aN (cF h) fun n aW=>?_
  subst aW
  exact bW (f:=fun c:Fin 4=>ab (dh o) (n+2) 17 [bit1 c] σ) (g:=fun c=>some (.int ((if c.val=2 then 3 else c.val:Nat):Nat),σ)) (by kernel_rfl) c (q4_mem _)
theorem bit_ok {u:Vc} (h:1≤n):ab T n 35 [.int (trP u:Nat)] σ=some (bit1 (trP u),σ):=by
  refine aN hT.ex fun o aW=>?_
  subst aW
  refine aN (cF h) fun n aW=>?_
  subst aW
  rcases cV u with e | e | e <;> refine ag e ?_ <;> kernel_rfl
theorem bandT_ok {u v:Vc} (h:2≤n):ab T n 37 [bit1 (trP u),bit1 (trP v)] σ=some (bit1 (andT (trP u) (trP v)),σ):=by
  refine aN hT.ex fun o aW=>?_
  subst aW
  refine aN (cF h) fun n aW=>?_
  clear h;subst aW
  rcases cV u with e | e | e <;> rcases cV v with e' | e' | e' <;> refine ag e (ag e' ?_) <;> kernel_rfl
theorem land_ok {u v:Vc} (h:3≤n):ab T n 48 [u.v,v.v] σ=some (bit1 (andT (trP u) (trP v)),σ):=by
  refine aN (cF h) fun n aW=>?_
  clear h;subst aW
  exact WC.eq (aj (f:=x_logic_and) (ρ:=[u.v,v.v]) (hT.fn _ _ rfl) rfl rfl (au (cv (bB (cv (evs1 (cv (evs1 rfl) (tr_ok hT (l0Z)))) (bit_ok hT (l0Z))) (cv (evs1 (cv (evs1 rfl) (tr_ok hT (l0Z)))) (bit_ok hT (l0Z)))) (bandT_ok hT (l0Z))) (.ret ⟨rfl,rfl⟩)))
theorem mix_ok {c t f:Vc} (hc:trP c=3) (h:3≤n):ab T n 55 [c.v,t.v,f.v] σ=some ((mixP t f).v,σ):=by
  have htr:ab T (n - 1) 17 [c.v] σ=some (.int 3,σ):=by refine ag (tr_ok hT (by lia)) (ag hc ?_);rfl
  obtain ⟨o,rfl⟩:=hT.ex
  obtain ⟨n,rfl⟩:=cF h
  have key:aE (dh o) (ab (dh o) (n+2)) (x_choose.body.drop 1) [c.v,t.v,f.v,.int 3,.ai,.ai,.ai] σ=some (.ret (.tup [.int 3,.int (Builtin.bitOr (Builtin.bitAnd t.a.val (Builtin.bitXor 7 (Builtin.bitOr (Builtin.bitOr (Builtin.bitXor t.a.val f.a.val) t.b.val) f.b.val))) (Builtin.bitXor 7 (Builtin.bitXor 7 (Builtin.bitOr (Builtin.bitOr (Builtin.bitXor t.a.val f.a.val) t.b.val) f.b.val)))),.int (Builtin.bitXor 7 (Builtin.bitXor 7 (Builtin.bitOr (Builtin.bitOr (Builtin.bitXor t.a.val f.a.val) t.b.val) f.b.val)))]),[c.v,t.v,f.v,.int 3,.int 3,.int (Builtin.bitXor 7 (Builtin.bitOr (Builtin.bitOr (Builtin.bitXor t.a.val f.a.val) t.b.val) f.b.val)),.int (Builtin.bitXor 7 (Builtin.bitXor 7 (Builtin.bitOr (Builtin.bitOr (Builtin.bitXor t.a.val f.a.val) t.b.val) f.b.val)))],σ):=by kernel_rfl
  refine WC.eq (aj (f:=x_choose) (ρ:=[c.v,t.v,f.v,.ai,.ai,.ai,.ai]) (hT.fn _ _ rfl) rfl rfl (ar (.mk (cv (evs1 rfl) htr) ⟨aa rfl,.mk key (.ret ⟨?_,rfl⟩)⟩)))
  have h1:7 ^^^ ((t.a.val ^^^ f.a.val) ||| t.b.val ||| f.b.val) < 8:=x8 (by decide) (o8 (o8 (x8 t.a.isLt f.a.isLt) t.b.isLt) f.b.isLt)
  have h2:7 ^^^ (7 ^^^ ((t.a.val ^^^ f.a.val) ||| t.b.val ||| f.b.val)) < 8:=x8 (by decide) h1
  have h3:=o8 (a8 (y:=7 ^^^ ((t.a.val ^^^ f.a.val) ||| t.b.val ||| f.b.val)) t.a.isLt) h2
  simp only [mixP,Vc.v,of8 h2,of8 h3,bOr,bXor,bXor7',bAnd]
theorem meets_ok {k:Fin 3} {u v:Vc} (h:2≤n):ab T n 54 [cj k,u.v,v.v] σ=some (.bool (bq k u v),σ):=by
  refine aN hT.ex fun o aW=>?_
  subst aW
  refine aN (cF h) fun n aW=>?_
  clear h;subst aW
  have fin:∀ f:Int,∀ free:Nat,f=free→bq k u v=(((u.a.val ^^^ v.a.val) &&& (7 ^^^ free) ==0) && ((u.b.val ^^^ v.b.val) &&& (7 ^^^ free) ==0))→
      WS (dh o) (ab (dh o) (n+1)) (x_matches.body.drop 3) [cj k,u.v,v.v,.int f,.int (Builtin.bitXor 7 f)] σ (bj fun w τ=>w=.bool (bq k u v)∧τ=σ):=fun f free e1 e2=>by
    have t1:ae (dh o) (ab (dh o) (n+1)) (.cmp .eq (.bin .and (.bin .xor (.idx (.loc 1) (.int 1)) (.idx (.loc 2) (.int 1))) (.loc 4)) (.int 0)) [cj k,u.v,v.v,.int f,.int (Builtin.bitXor 7 f)] σ=some (.bool ((u.a.val ^^^ v.a.val) &&& (7 ^^^ free) ==0),σ):=by
      show some (V.bool (Builtin.bitAnd (Builtin.bitXor u.a.val v.a.val) (Builtin.bitXor 7 f) ==0),σ)=_
      rw [e1,bXor7',bXor,bAnd,beq0]
    have t2:ae (dh o) (ab (dh o) (n+1)) (.cmp .eq (.bin .and (.bin .xor (.idx (.loc 1) (.int 2)) (.idx (.loc 2) (.int 2))) (.loc 4)) (.int 0)) [cj k,u.v,v.v,.int f,.int (Builtin.bitXor 7 f)] σ=some (.bool ((u.b.val ^^^ v.b.val) &&& (7 ^^^ free) ==0),σ):=by
      show some (V.bool (Builtin.bitAnd (Builtin.bitXor u.b.val v.b.val) (Builtin.bitXor 7 f) ==0),σ)=_
      exact ag (e1 ..) (ag (bXor7' ..) (ag (bXor ..) (ag (bAnd ..) (ag (beq0 ..) rfl))))
    refine bI (w_and (w_and2 (.mk t1 ⟨_,rfl,and_b (fun q=>w_and1 (.mk t2 (.ret ⟨?_,rfl⟩))) (fun q=>.ret ⟨?_,rfl⟩)⟩)))
    · rw [e2,q];rfl
    · rw [e2,q];rfl
  refine WC.eq (aj (f:=x_matches) (ρ:=[cj k,u.v,v.v,.ai,.ai]) (hT.fn _ _ rfl) rfl rfl ?_)
  revert fin
  refine f3 k (fun fin=>?_) (fun fin=>?_) (fun fin=>?_)
  · exact ao 3 (ρ1:=[cj 0,u.v,v.v,.int 0,.int (Builtin.bitXor 7 0)]) (σ1:=σ) (by kernel_rfl) (fin 0 0 rfl rfl)
  · exact ao 3 (ρ1:=[cj 1,u.v,v.v,.int (Builtin.bitOr (Builtin.bitAnd u.b.val (Builtin.bitXor u.b.val u.a.val)) (Builtin.bitAnd v.b.val (Builtin.bitXor v.b.val v.a.val))),.int (Builtin.bitXor 7 (Builtin.bitOr (Builtin.bitAnd u.b.val (Builtin.bitXor u.b.val u.a.val)) (Builtin.bitAnd v.b.val (Builtin.bitXor v.b.val v.a.val))))]) (σ1:=σ) (by kernel_rfl) (fin (Builtin.bitOr (Builtin.bitAnd u.b.val (Builtin.bitXor u.b.val u.a.val)) (Builtin.bitAnd v.b.val (Builtin.bitXor v.b.val v.a.val))) ((u.b.val &&& (u.b.val ^^^ u.a.val)) ||| (v.b.val &&& (v.b.val ^^^ v.a.val))) (by rw [bXor,bXor,bAnd,bAnd,bOr]) rfl)
  · exact ao 3 (ρ1:=[cj 2,u.v,v.v,.int (Builtin.bitOr u.b.val v.b.val),.int (Builtin.bitXor 7 (Builtin.bitOr u.b.val v.b.val))]) (σ1:=σ) (by kernel_rfl) (fin (Builtin.bitOr u.b.val v.b.val) (u.b.val ||| v.b.val) (by rw [bOr]) rfl)
theorem put_ok {lo:Int} {u v:Vc} (h0:-2≤lo) (h1:lo≤2) (h:2≤n):ab T n 13 [u.v,.int lo,v.v] σ=some ((cg lo u v).v,σ):=by
  refine aN hT.ex fun o aW=>?_
  subst aW
  refine aN (cF h) fun n aW=>?_
  subst aW
  have run:∀ lo∈[(-2:Int),-1,0,1,2],ab (dh o) (n+2) 13 [u.v,.int lo,v.v] σ=some (.tup [.int 3,.int (Builtin.bitOr (Builtin.bitAnd u.a.val (kp lo)) (sh lo v.a)),.int (Builtin.bitOr (Builtin.bitAnd u.b.val (kp lo)) (sh lo v.b))],σ):=fun lo hl=>
    bW (f:=fun v:Vc=>ab (dh o) (n+2) 13 [u.v,.int lo,v.v] σ) (g:=fun v=>some (.tup [.int 3,.int (Builtin.bitOr (Builtin.bitAnd u.a.val (kp lo)) (sh lo v.a)),.int (Builtin.bitOr (Builtin.bitAnd u.b.val (kp lo)) (sh lo v.b))],σ))
      (bW (f:=fun lo=>mapA (fun v:Vc=>ab (dh o) (n+2) 13 [u.v,.int lo,v.v] σ) vcs) (g:=fun lo=>mapB (fun v:Vc=>some (.tup [.int 3,.int (Builtin.bitOr (Builtin.bitAnd u.a.val (kp lo)) (sh lo v.a)),.int (Builtin.bitOr (Builtin.bitAnd u.b.val (kp lo)) (sh lo v.b))],σ)) vcs) (l:=[(-2:Int),-1,0,1,2]) (by kernel_rfl) lo hl) v (cC v)
  have hl:lo∈[(-2:Int),-1,0,1,2]:=by
    obtain rfl | rfl | rfl | rfl | rfl:lo=-2∨lo=-1∨lo=0∨lo=1∨lo=2:=by lia
    all_goals decide
  have key:∀ lo∈[(-2:Int),-1,0,1,2],∀ a c:Fin 8,Builtin.bitOr (Builtin.bitAnd a.val (kp lo)) (sh lo c)=((put8 lo a c).val:Int):=by decide +kernel
  refine ag (run lo hl ..) (ag (key lo hl ..) (ag (key lo hl ..) ?_));rfl
theorem binAdd_ok {u v:Vc} (h:5≤n):ab T n 60 [.str 2,u.v,v.v,.bool false] σ=some ((addP u v).v,σ):=by
  refine aN hT.ex fun o aW=>?_
  subst aW
  refine aN (cF h) fun n aW=>?_
  subst aW
  have run:ab (dh o) (n+5) 60 [.str 2,u.v,v.v,.bool false] σ=some (if u.b=0 then (if v.b=0 then .tup [.int 3,.int (Builtin.bitAnd (u.a.val+v.a.val) 7),.int 0] else (⟨7,7⟩:Vc).v) else (⟨7,7⟩:Vc).v,σ):=
    bW (f:=fun q:Vc=>ab (dh o) (n+5) 60 [.str 2,(⟨u.a,q.a⟩:Vc).v,(⟨v.a,q.b⟩:Vc).v,.bool false] σ) (g:=fun q=>some (if q.a=0 then (if q.b=0 then .tup [.int 3,.int (Builtin.bitAnd (u.a.val+v.a.val) 7),.int 0] else (⟨7,7⟩:Vc).v) else (⟨7,7⟩:Vc).v,σ)) (by kernel_rfl) ⟨u.b,v.b⟩ (cC _)
  have key:∀ a c:Fin 8,Builtin.bitAnd (a.val+c.val) 7=(((a+c:Fin 8)).val:Int):=by decide +kernel
  refine ag (run ..) (ag (key ..) ?_);unfold addP
  split <;> (try split) <;> rfl
theorem binXor_ok {u v:Vc} (h:5≤n):ab T n 60 [.str 21,u.v,v.v,.bool false] σ=some ((xorP u v).v,σ):=by
  refine aN hT.ex fun o aW=>?_
  subst aW
  refine aN (cF h) fun n aW=>?_
  subst aW
  have run:ab (dh o) (n+5) 60 [.str 21,u.v,v.v,.bool false] σ=some (.tup [.int 3,.int (Builtin.bitOr (Builtin.bitXor u.a.val v.a.val) (Builtin.bitOr u.b.val v.b.val)),.int (Builtin.bitOr u.b.val v.b.val)],σ):=by kernel_rfl
  have h1:u.b.val ||| v.b.val < 8:=o8 u.b.isLt v.b.isLt
  have h2:(u.a.val ^^^ v.a.val) ||| (u.b.val ||| v.b.val) < 8:=o8 (x8 u.a.isLt v.a.isLt) h1
  refine ag (run ..) (ag (bXor ..) (ag (bOr ..) (ag (bOr ..) ?_)));simp only [xorP,Vc.v,of8 h1,of8 h2]
theorem binAnd_ok {u v:Vc} (h:5≤n):ab T n 60 [.str 23,u.v,v.v,.bool false] σ=some (bit1 (andT (trP u) (trP v)),σ):=by
  have hl:ab T (n - 2) 48 [u.v,v.v] σ=some (bit1 (andT (trP u) (trP v)),σ):=land_ok hT (by lia)
  refine aN hT.ex fun o aW=>?_
  subst aW
  refine aN (cF h) fun n aW=>?_
  subst aW
  have bi:ab (dh o) (n+4) 59 [.str 23,u.v,v.v] σ=some (bit1 (andT (trP u) (trP v)),σ):=
    WC.eq (aj (f:=x_bitwise) (ρ:=[.str 23,u.v,v.v]) (hT.fn _ _ rfl) rfl rfl (ao 4 (ρ1:=[.str 23,u.v,v.v]) (σ1:=σ) (by kernel_rfl) (s_true rfl (au (cv (bB rfl rfl) hl) (.ret ⟨rfl,rfl⟩)))))
  exact WC.eq (aj (f:=x_binary) (ρ:=[.str 23,u.v,v.v,.bool false,.ai]) (hT.fn _ _ rfl) rfl rfl (ao 2 (ρ1:=[.str 23,u.v,v.v,.bool false,.none]) (σ1:=σ) (by kernel_rfl) (s_true rfl (ar (.mk (cv (evs3 rfl rfl rfl) bi) ⟨aa rfl,s_false rfl (au rfl (.ret ⟨rfl,rfl⟩))⟩)))))
theorem binLt_ok {a c:Fin 8} (h:5≤n):ab T n 60 [.str 11,(⟨a,0⟩:Vc).v,(⟨c,0⟩:Vc).v,.bool false] σ=some (bit1 (if a < c then 1 else 0),σ):=by
  refine aN hT.ex fun o aW=>?_
  subst aW
  refine aN (cF h) fun n aW=>?_
  subst aW
  exact bW (f:=fun q:Vc=>ab (dh o) (n+5) 60 [.str 11,(⟨q.a,0⟩:Vc).v,(⟨q.b,0⟩:Vc).v,.bool false] σ) (g:=fun q=>some (bit1 (if q.a < q.b then 1 else 0),σ)) (by kernel_rfl) ⟨a,c⟩ (cC _)
end
end
section
open PySem
noncomputable def dg (u:Vc) (i:Nat):Nat:=u.a.val / 2 ^ i % 2+2*(u.b.val / 2 ^ i % 2)
noncomputable def Vc.ri (u:Vc):List Int:=[(dg u 0:Nat),(dg u 1:Nat),(dg u 2:Nat)]
noncomputable def Vc.r (u:Vc):V:=.lst [.int (dg u 0:Nat),.int (dg u 1:Nat),.int (dg u 2:Nat)]
section
variable {T:Tab} (hT:bz bE T) {n:Nat} {σ:St}
include hT
theorem lvec_ok {u:Vc} (h:1≤n):ab T n 119 [u.r] σ=some (u.v,σ):=
  pure_run (hT.fn _ _ rfl) h fun C=>bW (f:=fun u:Vc=>runF T C x__law_vector [u.r] σ) (g:=fun u=>some (u.v,σ)) (by kernel_rfl) u (cC u)
theorem ltr_ok {u:Vc} (h:1≤n):ab T n 110 [u.r] σ=some (.int (trP u:Nat),σ):=
  pure_run (hT.fn _ _ rfl) h fun C=>bW (f:=fun u:Vc=>runF T C x__law_true [u.r] σ) (g:=fun u=>some (.int (trP u:Nat),σ)) (by kernel_rfl) u (cC u)
theorem lint_ok {u:Vc} {s:Bool} (h:1≤n):ab T n 111 [u.r,.bool s] σ=some (dG (toI u s),σ):=by
  cases s
  · exact pure_run (hT.fn _ _ rfl) h fun C=>bW (f:=fun u:Vc=>runF T C dq [u.r,.bool false] σ) (g:=fun u=>some (dG (toI u false),σ)) (by kernel_rfl) u (cC u)
  · exact pure_run (hT.fn _ _ rfl) h fun C=>bW (f:=fun u:Vc=>runF T C dq [u.r,.bool true] σ) (g:=fun u=>some (dG (toI u true),σ)) (by kernel_rfl) u (cC u)
theorem lint2_ok {u:Vc} {s:Bool} (h:1≤n):ab T n 111 [.lst [.int (dg u 0:Nat),.int (dg u 1:Nat)],.bool s] σ=some (dG (toI2 u s),σ):=by
  cases s
  · exact pure_run (hT.fn _ _ rfl) h fun C=>bW (f:=fun u:Vc=>runF T C dq [.lst [.int (dg u 0:Nat),.int (dg u 1:Nat)],.bool false] σ) (g:=fun u=>some (dG (toI2 u false),σ)) (by kernel_rfl) u (cC u)
  · exact pure_run (hT.fn _ _ rfl) h fun C=>bW (f:=fun u:Vc=>runF T C dq [.lst [.int (dg u 0:Nat),.int (dg u 1:Nat)],.bool true] σ) (g:=fun u=>some (dG (toI2 u true),σ)) (by kernel_rfl) u (cC u)
end
noncomputable def dgF (u:Vc) (i:Nat):Fin 4:=⟨dg u i,by unfold dg;omega⟩
noncomputable def xd (a b:Fin 4):Nat:=if 1 < a.val∨1 < b.val then 3 else a.val ^^^ b.val
noncomputable def xmix (a b:Fin 4):Nat:=if a=b∧a.val < 2 then a.val else 3
noncomputable def e_xor:XE:=.ite (.cmp .gt (.blt .max2 [.idx (.loc 1) (.loc 6),.idx (.loc 2) (.loc 6)]) (.int 1)) (.int 3) (.bin .xor (.idx (.loc 1) (.loc 6)) (.idx (.loc 2) (.loc 6)))
noncomputable def e_mix:XE:=.ite (.and [.cmp .eq (.idx (.loc 6) (.loc 9)) (.idx (.loc 8) (.loc 9)),.cmp .lt (.idx (.loc 6) (.loc 9)) (.int 2)]) (.idx (.loc 6) (.loc 9)) (.int 3)
theorem fin4 {P:Fin 4→Prop} (h0:P 0) (h1:P 1) (h2:P 2) (h3:P 3) (a:Fin 4):P a:=f4 a h0 h1 h2 h3
theorem fin44 {P:Fin 4→Fin 4→Prop} (h:∀ b,P 0 b) (h1:∀ b,P 1 b) (h2:∀ b,P 2 b) (h3:∀ b,P 3 b):∀ a b,P a b:=fun a=>fin4 (P:=fun a=>∀ b,P a b) h h1 h2 h3 a
noncomputable abbrev iN (n:Nat):V:=.int (n:Nat)
section
variable {T:Tab} {C:aw} {σ:St} {x y z p q a1 a2 a3 a4 a5 a6:V}
theorem xd0:∀ a b:Fin 4,ae T C e_xor [p,.lst [iN a,x,y],.lst [iN b,z,q],.ai,.ai,.ai,.int 0] σ=some (iN (xd a b),σ):=
  fin44 (fin4 rfl rfl rfl rfl) (fin4 rfl rfl rfl rfl) (fin4 rfl rfl rfl rfl) (fin4 rfl rfl rfl rfl)
theorem xd1:∀ a b:Fin 4,ae T C e_xor [p,.lst [x,iN a,y],.lst [z,iN b,q],.ai,.ai,.ai,.int 1] σ=some (iN (xd a b),σ):=
  fin44 (fin4 rfl rfl rfl rfl) (fin4 rfl rfl rfl rfl) (fin4 rfl rfl rfl rfl) (fin4 rfl rfl rfl rfl)
theorem xd2:∀ a b:Fin 4,ae T C e_xor [p,.lst [x,y,iN a],.lst [z,q,iN b],.ai,.ai,.ai,.int 2] σ=some (iN (xd a b),σ):=
  fin44 (fin4 rfl rfl rfl rfl) (fin4 rfl rfl rfl rfl) (fin4 rfl rfl rfl rfl) (fin4 rfl rfl rfl rfl)
theorem xm0:∀ a b:Fin 4,ae T C e_mix [a1,a2,a3,a4,a5,a6,.lst [iN a,x,y],p,.lst [iN b,z,q],.int 0] σ=some (iN (xmix a b),σ):=
  fin44 (fin4 rfl rfl rfl rfl) (fin4 rfl rfl rfl rfl) (fin4 rfl rfl rfl rfl) (fin4 rfl rfl rfl rfl)
theorem xm1:∀ a b:Fin 4,ae T C e_mix [a1,a2,a3,a4,a5,a6,.lst [x,iN a,y],p,.lst [z,iN b,q],.int 1] σ=some (iN (xmix a b),σ):=
  fin44 (fin4 rfl rfl rfl rfl) (fin4 rfl rfl rfl rfl) (fin4 rfl rfl rfl rfl) (fin4 rfl rfl rfl rfl)
theorem xm2:∀ a b:Fin 4,ae T C e_mix [a1,a2,a3,a4,a5,a6,.lst [x,y,iN a],p,.lst [z,q,iN b],.int 2] σ=some (iN (xmix a b),σ):=
  fin44 (fin4 rfl rfl rfl rfl) (fin4 rfl rfl rfl rfl) (fin4 rfl rfl rfl rfl) (fin4 rfl rfl rfl rfl)
theorem comp3 {e it:XE} {ρ:List V} {w0 w1 w2:V} (hi:ae T C it ρ σ=some (.rng 3,σ)) (h0:ae T C e (ρ++[.int 0]) σ=some (w0,σ)) (h1:ae T C e (ρ++[.int 1]) σ=some (w1,σ)) (h2:ae T C e (ρ++[.int 2]) σ=some (w2,σ)):
    ae T C (.comp false e it .none) ρ σ=some (.lst [w0,w1,w2],σ):=by
  have h:WE T C (.comp false e it .none) ρ σ fun v σ'=>v=.lst [w0,w1,w2]∧σ'=σ:=
    w_compF (.mk hi ⟨rfl,aA rfl (aa rfl) (.mk h0 (aA rfl (aa rfl) (.mk h1 (aA rfl (aa rfl) (.mk h2 (cB rfl ⟨aa rfl,rfl,rfl⟩))))))⟩)
  exact h.ok.eq
end
theorem xor_dg (u v:Vc):xd (dgF u 0) (dgF v 0)=dg (xorP u v) 0∧xd (dgF u 1) (dgF v 1)=dg (xorP u v) 1∧xd (dgF u 2) (dgF v 2)=dg (xorP u v) 2:=by
  have:=dC (f:=fun v=>Nat.beq (xd (dgF u 0) (dgF v 0)) (dg (xorP u v) 0) && Nat.beq (xd (dgF u 1) (dgF v 1)) (dg (xorP u v) 1) && Nat.beq (xd (dgF u 2) (dgF v 2)) (dg (xorP u v) 2)) (dC (f:=fun u=>allV fun v=>Nat.beq (xd (dgF u 0) (dgF v 0)) (dg (xorP u v) 0) && Nat.beq (xd (dgF u 1) (dgF v 1)) (dg (xorP u v) 1) && Nat.beq (xd (dgF u 2) (dgF v 2)) (dg (xorP u v) 2)) (by decide +kernel) u) v
  simp only [Bool.and_eq_true,Nat.beq_eq] at this
  exact ⟨this.1.1,this.1.2,this.2⟩
theorem mix_dg (u v:Vc):xmix (dgF u 0) (dgF v 0)=dg (mixP u v) 0∧xmix (dgF u 1) (dgF v 1)=dg (mixP u v) 1∧xmix (dgF u 2) (dgF v 2)=dg (mixP u v) 2:=by
  have:=dC (f:=fun v=>Nat.beq (xmix (dgF u 0) (dgF v 0)) (dg (mixP u v) 0) && Nat.beq (xmix (dgF u 1) (dgF v 1)) (dg (mixP u v) 1) && Nat.beq (xmix (dgF u 2) (dgF v 2)) (dg (mixP u v) 2)) (dC (f:=fun u=>allV fun v=>Nat.beq (xmix (dgF u 0) (dgF v 0)) (dg (mixP u v) 0) && Nat.beq (xmix (dgF u 1) (dgF v 1)) (dg (mixP u v) 1) && Nat.beq (xmix (dgF u 2) (dgF v 2)) (dg (mixP u v) 2)) (by decide +kernel) u) v
  simp only [Bool.and_eq_true,Nat.beq_eq] at this
  exact ⟨this.1.1,this.1.2,this.2⟩
section
variable {T:Tab} (hT:bz bE T) {n:Nat} {σ:St}
include hT
theorem lxor_ok {u v:Vc} (h:1≤n):ab T n 112 [.str 21,u.r,v.r] σ=some ((xorP u v).r,σ):=by
  obtain ⟨n,rfl⟩:∃ m,n=m+1:=⟨n - 1,cI (lZ h)⟩
  refine WC.eq (aj (f:=x__law_pair) (ρ:=[.str 21,u.r,v.r,.ai,.ai,.ai]) (hT.fn _ _ rfl) rfl rfl ?_)
  refine s_true rfl (au (comp3 rfl (xd0 (dgF u 0) (dgF v 0)) (xd1 (dgF u 1) (dgF v 1)) (xd2 (dgF u 2) (dgF v 2))) (.ret ⟨?_,rfl⟩))
  refine dJ (xor_dg u v) fun h0 h1 h2=>?_
  refine ag h0 (ag h1 (ag h2 ?_));rfl
theorem land2_ok {u v:Vc} (h:2≤n):ab T n 112 [.str 23,u.r,v.r] σ=some (.lst [iN (andT (trP u) (trP v))],σ):=by
  obtain ⟨n,rfl⟩:∃ m,n=m+1:=⟨n - 1,cI (lZ h)⟩
  refine WC.eq (aj (f:=x__law_pair) (ρ:=[.str 23,u.r,v.r,.ai,.ai,.ai]) (hT.fn _ _ rfl) rfl rfl ?_)
  refine s_false rfl (s_true rfl (ar (aX (af (.mk (cv rfl (ltr_ok hT (u:=u) (lZ h))) (af (.mk (cv rfl (ltr_ok hT (u:=v) (lZ h))) (aP ⟨aa rfl,aa rfl,?_⟩))))))))
  refine au (v:=.lst [iN (andT (trP u) (trP v))]) (σ':=σ) ?_ (.ret ⟨rfl,rfl⟩)
  rcases cV u with e | e | e <;> rcases cV v with e' | e' | e' <;> refine ag e (ag e' ?_) <;> rfl
theorem ladd_ok {u v:Vc} (h:2≤n):ab T n 112 [.str 2,u.r,v.r] σ=some ((addP u v).r,σ):=by
  obtain ⟨n,rfl⟩:∃ m,n=m+1:=⟨n - 1,cI (lZ h)⟩
  refine WC.eq (aj (f:=x__law_pair) (ρ:=[.str 2,u.r,v.r,.ai,.ai,.ai]) (hT.fn _ _ rfl) rfl rfl ?_)
  refine s_false rfl (s_false rfl (ar (.mk (cv rfl (lint_ok hT (u:=u) (s:=false) (lZ h))) ⟨aa rfl,?_⟩)))
  refine ar (.mk (cv rfl (lint_ok hT (u:=v) (s:=false) (lZ h))) ⟨aa rfl,?_⟩)
  obtain ⟨a,b⟩:=u
  obtain ⟨c,d⟩:=v
  by_cases hb:b=0
  · by_cases hd:d=0
    · subst hb hd
      refine ao 2 (ρ1:=[.str 2,(⟨a,0⟩:Vc).r,(⟨c,0⟩:Vc).r,.ai,.int (a.val:Nat),.int (c.val:Nat)]) (σ1:=σ) ?_ (au (comp3 rfl rfl rfl rfl) (.ret ⟨lst_of (addP ⟨a,0⟩ ⟨c,0⟩).ri ?_,rfl⟩))
      · simp [toI,dG];rfl
      · clear h hT;revert a c;decide +kernel
    · refine ao 1 (ρ1:=[.str 2,(⟨a,b⟩:Vc).r,(⟨c,d⟩:Vc).r,.ai,dG (toI ⟨a,b⟩ false),dG (toI ⟨c,d⟩ false)]) (σ1:=σ) rfl ?_
      refine s_true (a:=_) (σ':=σ) ?_ (au rfl (.ret ⟨?_,rfl⟩))
      · simp [toI,dG,hb,hd];rfl
      · simp [addP,hb,hd];rfl
  · refine ao 1 (ρ1:=[.str 2,(⟨a,b⟩:Vc).r,(⟨c,d⟩:Vc).r,.ai,dG (toI ⟨a,b⟩ false),dG (toI ⟨c,d⟩ false)]) (σ1:=σ) rfl ?_
    refine s_true (a:=_) (σ':=σ) ?_ (au rfl (.ret ⟨?_,rfl⟩))
    · simp [toI,dG,hb];rfl
    · simp [addP,hb];rfl
theorem llt_ok {a c:Fin 8} (h:2≤n):ab T n 112 [.str 11,(⟨a,0⟩:Vc).r,(⟨c,0⟩:Vc).r] σ=some (.lst [.int (if a < c then 1 else 0)],σ):=by
  obtain ⟨n,rfl⟩:∃ m,n=m+1:=⟨n - 1,cI (lZ h)⟩
  refine WC.eq (aj (f:=x__law_pair) (ρ:=[.str 11,(⟨a,0⟩:Vc).r,(⟨c,0⟩:Vc).r,.ai,.ai,.ai]) (hT.fn _ _ rfl) rfl rfl ?_)
  refine s_false rfl (s_false rfl (ar (.mk (cv rfl (lint_ok hT (u:=⟨a,0⟩) (s:=false) (lZ h))) ⟨aa rfl,?_⟩)))
  refine ar (.mk (cv rfl (lint_ok hT (u:=⟨c,0⟩) (s:=false) (lZ h))) ⟨aa rfl,?_⟩)
  refine s_true rfl (au (v:=.lst [.int (if a < c then 1 else 0)]) (σ':=σ) ?_ (.ret ⟨rfl,rfl⟩))
  have e:ae T (ab T n) (.lst false [.ite (.or [.cmp .is (.loc 4) (.none),.cmp .is (.loc 5) (.none)]) (.int 3) (.blt .int [.cmp .lt (.loc 4) (.loc 5)])]) [.str 11,(⟨a,0⟩:Vc).r,(⟨c,0⟩:Vc).r,.ai,iN a.val,iN c.val] σ=some (.lst [.int (if decide ((a.val:Int) < (c.val:Int))=true then 1 else 0)],σ):=rfl
  have q:decide ((a.val:Int) < (c.val:Int))=decide (a < c):=by clear h hT e;revert a c;decide +kernel
  rw [q] at e
  simp only [decide_eq_true_eq] at e
  exact e
end
end
section
open PySem
noncomputable def mdI (k:Fin 3) (x y:Int):Bool:=(if k=0 then false else if k=1 then (x ==2 || (y ==2 || false)) else decide (1 < max x y)) || x ==y
noncomputable def meetB:List XS:=[.asg (.loc 4) (.and [.cmp .eq (.loc 0) (.str 1),.cmp .gt (.blt .max2 [.idx (.loc 1) (.loc 3),.idx (.loc 2) (.loc 3)]) (.int 1)]),.asg (.loc 4) (.or [.loc 4,.and [.cmp .eq (.loc 0) (.str 0),.cmp .isin (.int 2) (.tup [.idx (.loc 1) (.loc 3),.idx (.loc 2) (.loc 3)])]]),.ite (.and [.not (.loc 4),.cmp .ne (.idx (.loc 1) (.loc 3)) (.idx (.loc 2) (.loc 3))]) [.ret (.bool false)] []]
section
variable {T:Tab} {C:aw} {σ:St}
theorem idx_ev {ρ:List V} {a b:Nat} {l:List V} {i:Int} {v:V} (ha:bU ρ a=some (.lst l)) (hb:bU ρ b=some (.int i)) (h1:idxOk i=true) (h:idxL l i=some v):ae T C (.idx (.loc a) (.loc b)) ρ σ=some (v,σ):=by
  exact ak (map_eq ha) (ak (map_eq hb) (map_eq (v:=v) (by simp only [getI,bk,h1,h,if_true])))
theorem meet1 {k:Fin 3} {x y:Int} {l1 l2:List V} {i:Int} {w:V} {Q:Fl→List V→St→Prop} (h1:idxOk i=true) (hx:idxL l1 i=some (.int x)) (hy:idxL l2 i=some (.int y))
    (h:∀ w',(mdI k x y=true→Q .aL [cj k,.lst l1,.lst l2,.int i,w'] σ)∧(mdI k x y=false→Q (.ret (.bool false)) [cj k,.lst l1,.lst l2,.int i,w'] σ)):
    WS T C meetB [cj k,.lst l1,.lst l2,.int i,w] σ Q:=by
  have ex:∀ w,ae T C (.idx (.loc 1) (.loc 3)) [cj k,.lst l1,.lst l2,.int i,w] σ=some (.int x,σ):=fun w=>idx_ev rfl rfl h1 hx
  have ey:∀ w,ae T C (.idx (.loc 2) (.loc 3)) [cj k,.lst l1,.lst l2,.int i,w] σ=some (.int y,σ):=fun w=>idx_ev rfl rfl h1 hy
  have fin:∀ f:Bool,(f=(if k=0 then false else if k=1 then (x ==2 || (y ==2 || false)) else decide (1 < max x y)))→
      WS T C [.ite (.and [.not (.loc 4),.cmp .ne (.idx (.loc 1) (.loc 3)) (.idx (.loc 2) (.loc 3))]) [.ret (.bool false)] []] [cj k,.lst l1,.lst l2,.int i,.bool f] σ Q:=fun f hf=>by
    refine aY (h (.bool f)) fun ha hb=>?_
    cases f
    · refine s_ite (w_and (w_and2 (.mk rfl (.mk rfl (and_t rfl (w_and1 (bT (.mk (ex _) (.mk (ey _) (.mk rfl (.mk rfl (and_b (fun q=>?_) (fun q=>?_)))))))))))))
      · refine au rfl (hb ?_)
        simp only [mdI,← hf];simpa using q
      · refine aU (ha ?_)
        simp only [mdI,← hf];simpa using q
    · refine s_ite (w_and (w_and2 (.mk rfl (.mk rfl (ct rfl (.mk rfl (ct rfl (aU (ha ?_)))))))))
      simp only [mdI,← hf];rfl
  clear h;revert fin ey ex
  refine f3 k (fun ex ey fin=>?_) (fun ex ey fin=>?_) (fun ex ey fin=>?_)
  · exact ar (.mk rfl ⟨aa rfl,ar (.mk rfl ⟨aa rfl,fin false rfl⟩)⟩)
  · refine ar<|.mk rfl ⟨aa rfl,ar<|w_or<|w_or2<|.mk rfl<|.mk rfl<|ct rfl<|w_or1<|w_and<|w_and2<|.mk rfl<|.mk rfl<|and_t rfl<|w_and1<|bT<|.mk rfl ?_⟩
    refine aX<|af<|.mk (ex _)<|af<|.mk (ey _)<|aP ⟨aa rfl,.mk rfl ⟨aa rfl,fin _ ?_⟩⟩
    simp
  · refine ar<|w_and<|w_and2<|.mk rfl<|.mk rfl<|and_t rfl<|w_and1<|bT<|w_blt<|af<|.mk (ex _)<|af<|.mk (ey _)<|aP<|.mk rfl<|.mk rfl<|.mk rfl ⟨aa rfl,?_⟩
    cases q:decide (1 < max x y)
    · exact ar (.mk rfl ⟨aa rfl,fin false q.symm⟩)
    · exact ar (.mk rfl ⟨aa rfl,fin true q.symm⟩)
end
theorem meets_dg (k:Fin 3) (u v:Vc):(mdI k (dg u 0) (dg v 0) && mdI k (dg u 1) (dg v 1) && mdI k (dg u 2) (dg v 2))=bq k u v:=by
  have key:∀ k:Fin 3,(allV fun u=>allV fun v=>(mdI k (dg u 0) (dg v 0) && mdI k (dg u 1) (dg v 1) && mdI k (dg u 2) (dg v 2)) ==bq k u v)=true:=by decide +kernel
  exact beq_iff_eq.mp (dC (f:=fun v=>(mdI k (dg u 0) (dg v 0) && mdI k (dg u 1) (dg v 1) && mdI k (dg u 2) (dg v 2)) ==bq k u v) (dC (f:=fun u=>allV fun v=>(mdI k (dg u 0) (dg v 0) && mdI k (dg u 1) (dg v 1) && mdI k (dg u 2) (dg v 2)) ==bq k u v) (key k) u) v)
section
variable {T:Tab} (hT:bz bE T) {n:Nat} {σ:St}
include hT
theorem lmeet_ok {k:Fin 3} {u v:Vc} (h:1≤n):ab T n 115 [cj k,u.r,v.r] σ=some (.bool (bq k u v),σ):=by
  obtain ⟨n,rfl⟩:∃ m,n=m+1:=⟨n - 1,cI (lZ h)⟩
  refine WC.eq (aj (f:=x__law_meets) (ρ:=[cj k,u.r,v.r,.ai,.ai]) (hT.fn _ _ rfl) rfl rfl ?_)
  refine cw (meets_dg ..) ?_
  refine b6 (.mk rfl ⟨rfl,?_⟩)
  refine bO rfl (aa rfl) (meet1 rfl rfl rfl fun w0=>⟨fun q0=>.aL ?_,fun q0=>.ret (.ret (.ret ⟨by refine ag q0 ?_;rfl,rfl⟩))⟩)
  refine bO rfl (aa rfl) (meet1 rfl rfl rfl fun w1=>⟨fun q1=>.aL ?_,fun q1=>.ret (.ret (.ret ⟨by refine ag q0 (ag q1 ?_);rfl,rfl⟩))⟩)
  refine bO rfl (aa rfl) (meet1 rfl rfl rfl fun w2=>⟨fun q2=>.aL ?_,fun q2=>.ret (.ret (.ret ⟨by refine ag q0 (ag q1 (ag q2 ?_));rfl,rfl⟩))⟩)
  exact cM rfl (.aL (au rfl (.ret ⟨by refine ag q0 (ag q1 (ag q2 ?_));rfl,rfl⟩)))
end
theorem con_ev {T:Tab} {C:aw} {σ:St} {a b:Fin 8} {x0 x1 x2 x3 x4 x5 x6 x7:V}:
    ae T C (.comp false (.bin .add (.bin .mod (.blt .int [.bin .shr (.idx (.loc 0) (.int 2)) (.loc 9)]) (.int 2)) (.bin .mul (.int 2) (.bin .mod (.blt .int [.bin .shr (.idx (.loc 0) (.int 3)) (.loc 9)]) (.int 2)))) (.blt .range [.idx (.loc 0) (.int 1)]) .none)
      [.tup [x0,.int 3,iN a.val,iN b.val],x1,x2,x3,x4,x5,x6,x7,.ai] σ=some ((⟨a,b⟩:Vc).r,σ):=by
  refine (comp3 rfl rfl rfl rfl).trans ?_
  have:∀ a b:Fin 8,eqIs [.int (((a.val:Int).fdiv (2 ^ (0:Int).toNat)).fmod 2+2*((b.val:Int).fdiv (2 ^ (0:Int).toNat)).fmod 2),.int (((a.val:Int).fdiv (2 ^ (1:Int).toNat)).fmod 2+2*((b.val:Int).fdiv (2 ^ (1:Int).toNat)).fmod 2),.int (((a.val:Int).fdiv (2 ^ (2:Int).toNat)).fmod 2+2*((b.val:Int).fdiv (2 ^ (2:Int).toNat)).fmod 2)] (⟨a,b⟩:Vc).ri=true:=by decide +kernel
  exact congrArg (fun v=>some (v,σ)) (lst_of _ (this a b))
noncomputable def putD3 (lo:Int) (h p:Vc) (i:Nat):Nat:=if 0≤(i:Int) - lo∧(i:Int) - lo < 3 then dg p ((i:Int) - lo).toNat else dg h i
theorem bitI_lt (a:Nat) (i:Int):bitI a i < 2:=Nat.mod_lt _ (by decide)
theorem bits3a:∀ x y z:Fin 2,(x.val+2*y.val+4*z.val < 8)∧(x.val+2*y.val+4*z.val) / 1 % 2=x.val∧(x.val+2*y.val+4*z.val) / 2 % 2=y.val∧(x.val+2*y.val+4*z.val) / 4 % 2=z.val:=by decide
theorem bits3 {x y z:Nat} (hx:x < 2) (hy:y < 2) (hz:z < 2):(x+2*y+4*z < 8)∧(x+2*y+4*z) / 1 % 2=x∧(x+2*y+4*z) / 2 % 2=y∧(x+2*y+4*z) / 4 % 2=z:=bits3a ⟨x,hx⟩ ⟨y,hy⟩ ⟨z,hz⟩
theorem put8_bit {lo:Int} {h p:Fin 8}:∀ i:Nat,i < 3→(put8 lo h p).val / 2 ^ i % 2=if 0≤(i:Int) - lo∧(i:Int) - lo < 3 then p.val / 2 ^ ((i:Int) - lo).toNat % 2 else h.val / 2 ^ i % 2:=by
  intro i hi
  have e:∀ j:Nat,(if 0≤(j:Int) - lo∧(j:Int) - lo < 3 then bitI p.val ((j:Int) - lo) else bitI h.val j) < 2:=fun j=>by split <;> exact bitI_lt _ _
  have e0:=e 0;have e1:=e 1;have e2:=e 2
  have e3:(if 0≤(i:Int) - lo∧(i:Int) - lo < 3 then bitI p.val ((i:Int) - lo) else bitI h.val i)=(if 0≤(i:Int) - lo∧(i:Int) - lo < 3 then p.val / 2 ^ ((i:Int) - lo).toNat % 2 else h.val / 2 ^ i % 2):=by
    simp only [bitI,Int.toNat_natCast]
  refine cw e3 ?_
  unfold put8
  dsimp only
  have b:=bits3 e0 e1 e2
  clear e0 e1 e2 e3 e
  refine ag (of8 b.1) ?_
  exact n3 hi b.2.1 b.2.2.1 b.2.2.2
theorem put_dg {lo:Int} {h p:Vc} {i:Nat} (hi:i < 3):dg (cg lo h p) i=putD3 lo h p i:=by
  unfold dg putD3 cg
  dsimp only
  refine ag (put8_bit i hi) (ag (put8_bit i hi) ?_)
  split <;> rfl
noncomputable def e_now:XE:=.ite (.cmp2 (.int 0) .le (.bin .sub (.loc 15) (.loc 11)) .lt (.int 3)) (.idx (.loc 5) (.bin .sub (.loc 15) (.loc 11))) (.idx (.loc 13) (.loc 15))
theorem now_el {T:Tab} {C:aw} {σ:St} {lo:Int} {h p:Vc} {x0 x1 x2 x3 x4 x6 x7 x8 x9 x10 x12 x14:V} {i:Nat} (hi:i < 3):
    ae T C e_now [x0,x1,x2,x3,x4,p.r,x6,x7,x8,x9,x10,.int lo,x12,h.r,x14,.int (i:Nat)] σ=some (iN (putD3 lo h p i),σ):=by
  have hh:ae T C (.idx (.loc 13) (.loc 15)) [x0,x1,x2,x3,x4,p.r,x6,x7,x8,x9,x10,.int lo,x12,h.r,x14,.int (i:Nat)] σ=some (iN (dg h i),σ):=by
    exact n3 hi rfl rfl rfl
  have sub:ae T C (.bin .sub (.loc 15) (.loc 11)) [x0,x1,x2,x3,x4,p.r,x6,x7,x8,x9,x10,.int lo,x12,h.r,x14,.int (i:Nat)] σ=some (.int ((i:Nat) - lo),σ):=rfl
  generalize hρ:[x0,x1,x2,x3,x4,p.r,x6,x7,x8,x9,x10,.int lo,x12,h.r,x14,.int (i:Nat)]=ρ at*
  have hp:∀ d:Nat,(i:Int) - lo=d→d < 3→ae T C (.idx (.loc 5) (.bin .sub (.loc 15) (.loc 11))) ρ σ=some (iN (dg p d),σ):=fun d hd hd3=>by
    have e5:ae T C (.loc 5) ρ σ=some (p.r,σ):=by refine cw hρ ?_;rfl
    rw [hd] at sub
    refine (w_idx (Q:=fun v σ'=>v=iN (dg p d)∧σ'=σ) (.mk e5 (.mk sub (.mk ?_ ⟨rfl,rfl⟩)))).ok.eq
    exact n3 hd3 rfl rfl rfl
  refine (w_ite (Q:=fun v σ'=>v=iN (putD3 lo h p i)∧σ'=σ) (w_cmp2 (.mk rfl (.mk sub (.mk rfl (and_b (fun q=>.mk rfl (.mk rfl (.mk rfl (and_b (fun q'=>?_) (fun q'=>?_))))) (fun q=>.mk rfl (ct rfl ?_)))))))).ok.eq
  · have q1:0≤(i:Int) - lo:=by simpa using q
    have q2:(i:Int) - lo < 3:=by simpa using q'
    refine .mk (hp ((i:Int) - lo).toNat (by omega) (by omega)) ⟨?_,rfl⟩
    simp only [putD3,q1,q2,true_and,if_true]
  · have q2:¬ (i:Int) - lo < 3:=by simpa using q'
    refine .mk hh ⟨?_,rfl⟩
    simp only [putD3,q2,and_false,if_false]
  · have q1:¬ 0≤(i:Int) - lo:=by simpa using q
    refine .mk hh ⟨?_,rfl⟩
    simp only [putD3,q1,false_and,if_false]
theorem now_ev {T:Tab} {C:aw} {σ:St} {lo:Int} {h p:Vc} {x0 x1 x2 x3 x4 x6 x7 x8 x9 x10 x12 x14:V}:
    ae T C (.comp false e_now (.blt .range [.int 3]) .none) [x0,x1,x2,x3,x4,p.r,x6,x7,x8,x9,x10,.int lo,x12,h.r,x14] σ=some ((cg lo h p).r,σ):=by
  refine (comp3 rfl (now_el (i:=0) (by decide)) (now_el (i:=1) (by decide)) (now_el (i:=2) (by decide))).trans ?_
  refine cw (put_dg (by decide)) (cw (put_dg (by decide)) (cw (put_dg (by decide)) ?_));rfl
end
section
open PySem
inductive DE where
  | con (a b:Fin 8) | sig (i:Fin 4) | loc (i:Fin 2) | call (k:Fin 2) (e:DE)
  | bin (x:Bool) (a b:DE) | cnd (c t f:DE) | ext (a b:DE)
noncomputable def DE.v:DE→V
  | .con a b=>.tup [.str 24,.int 3,iN a,iN b]
  | .sig i=>.tup [.str 25,.int 3,iN i]
  | .loc i=>.tup [.str 26,.int 3,iN i]
  | .call k e=>.tup [.str 36,.int 3,iN k,.tup [e.v]]
  | .bin x a b=>.tup [.str 27,.int 3,.str (if x then 21 else 2),a.v,b.v,.bool false]
  | .cnd c t f=>.tup [.str 33,.int 3,c.v,t.v,f.v]
  | .ext a b=>.tup [.str 29,.int 3,.tup [.str 27,.int 1,.str 23,a.v,b.v,.bool false],.bool false]
structure PS where
  sg:Fin 4→Vc
  log:List Nat
  n:Nat
noncomputable def PS.put (s:PS) (i:Fin 4) (v:Vc):PS:=if v=s.sg i then s else ⟨fun j=>if j=i then v else s.sg j,s.log++[i.val],s.n⟩
noncomputable def PS.tick (s:PS):PS:=⟨s.sg,s.log,s.n+1⟩
noncomputable abbrev LL:=Vc×Vc
noncomputable def LL.get (l:LL) (i:Fin 2):Vc:=if i=0 then l.1 else l.2
noncomputable def LL.set (l:LL) (i:Fin 2) (v:Vc):LL:=if i=0 then (v,l.2) else (l.1,v)
noncomputable def xX:Vc:=⟨7,7⟩
noncomputable abbrev Cal:=Fin 2→Vc→PS→Vc×PS
noncomputable def extP (u v:Vc):Vc:=mk8 (andT (trP u) (trP v) % 2) (andT (trP u) (trP v) / 2)
noncomputable def ev (ah:Cal) (l:LL):DE→PS→Vc×PS
  | .con a b,s=>(⟨a,b⟩,s)
  | .sig i,s=>(s.sg i,s)
  | .loc i,s=>(l.get i,s)
  | .call k e,s=>ah k (ev ah l e s).1 (ev ah l e s).2
  | .bin x a b,s=>(if x then xorP (ev ah l a s).1 (ev ah l b (ev ah l a s).2).1 else addP (ev ah l a s).1 (ev ah l b (ev ah l a s).2).1,(ev ah l b (ev ah l a s).2).2)
  | .cnd c t f,s=>
    if trP (ev ah l c s).1=1 then ev ah l t (ev ah l c s).2
    else if trP (ev ah l c s).1=0 then ev ah l f (ev ah l c s).2
    else (mixP (ev ah l t (ev ah l c s).2).1 (ev ah l f (ev ah l t (ev ah l c s).2).2).1,(ev ah l f (ev ah l t (ev ah l c s).2).2).2)
  | .ext a b,s=>(extP (ev ah l a s).1 (ev ah l b (ev ah l a s).2).1,(ev ah l b (ev ah l a s).2).2)
theorem yv3 {ah:Cal} {l:LL} {k e s}:ev ah l (.call k e) s=(ah k (ev ah l e s).1 (ev ah l e s).2):=rfl
theorem yv4 {ah:Cal} {l:LL} {x a b s}:ev ah l (.bin x a b) s=((if x then xorP (ev ah l a s).1 (ev ah l b (ev ah l a s).2).1 else addP (ev ah l a s).1 (ev ah l b (ev ah l a s).2).1,(ev ah l b (ev ah l a s).2).2)):=rfl
theorem yv5 {ah:Cal} {l:LL} {c t f s}:ev ah l (.cnd c t f) s=(
    if trP (ev ah l c s).1=1 then ev ah l t (ev ah l c s).2
    else if trP (ev ah l c s).1=0 then ev ah l f (ev ah l c s).2
    else (mixP (ev ah l t (ev ah l c s).2).1 (ev ah l f (ev ah l t (ev ah l c s).2).2).1,(ev ah l f (ev ah l t (ev ah l c s).2).2).2)):=rfl
theorem yv6 {ah:Cal} {l:LL} {a b s}:ev ah l (.ext a b) s=((extP (ev ah l a s).1 (ev ah l b (ev ah l a s).2).1,(ev ah l b (ev ah l a s).2).2)):=rfl
structure Fn where
  port:Option (Fin 4)
  first:Fin 4
  second:DE
  result:DE
noncomputable def runFn (ah:Cal) (f:Fn) (v:Vc) (s:PS):Vc×PS:=
  let l:LL:=match f.port with | none=>(xX,v) | some _=>(xX,xX)
  let s1:=match f.port with | none=>s | some i=>s.put i v
  let r:=ev ah l f.second s1.tick.tick
  ev ah l f.result (r.2.put f.first r.1).tick
inductive DT where
  | loc (i:Fin 2) | sig (i:Fin 4) | pick (i:Fin 4) (e:DE) (s:Bool) (o:Fin 3) (d:Fin 2)
noncomputable def wAt:V:=.tup [.str 37,.int 0]
noncomputable def sgn (d:Fin 2):Int:=1 - 2*(d.val:Nat)
noncomputable def wPick (e:DE) (s:Bool) (o:Fin 3) (d:Fin 2):V:=.tup [.str 31,e.v,.bool s,iN o,.int (sgn d)]
noncomputable def part (kind ref whr:V):V:=.tup [kind,.int 3,ref,.none,whr]
noncomputable def DT.part:DT→V
  | .loc i=>Mine.part (.str 26) (iN i) wAt
  | .sig i=>Mine.part (.str 25) (iN i) wAt
  | .pick i e s o d=>Mine.part (.str 25) (iN i) (wPick e s o d)
noncomputable def DT.v (t:DT):V:=.tup [.str 55,.int 3,.tup [t.part]]
inductive DC where
  | ex (e:DE) | an (a b:DE) | lt (k:Fin 2)
noncomputable def DC.v:DC→V
  | .ex e=>e.v
  | .an a b=>.tup [.str 27,.int 1,.str 23,a.v,b.v,.bool false]
  | .lt k=>.tup [.str 27,.int 1,.str 11,(DE.loc 1).v,.tup [.str 24,.int 3,.int (1+(k.val:Nat)),.int 0],.bool false]
inductive DS where
  | none | set (t:DT) (e:DE) | blk2 (a b:DS) | blk3 (a b c:DS) | iff (c:DC) (a b:DS)
  | case (k:Fin 3) (e l1 l2 l3:DE) (a b c:DS) | rep (e:DE) (s:Bool) (b:DS) | for (k:Fin 2) (b:DS)
noncomputable def setV (t:V) (e:V):V:=.tup [.str 40,t,e,.none]
noncomputable def beginV:V:=setV (DT.loc 1).v (DE.con 0 0).v
noncomputable def stepV:V:=setV (DT.loc 1).v (DE.bin false (.loc 1) (.con 1 0)).v
noncomputable def DS.v:DS→V
  | .none=>.none
  | .set t e=>setV t.v e.v
  | .blk2 a b=>.tup [.str 41,.tup [a.v,b.v],.int (-1)]
  | .blk3 a b c=>.tup [.str 41,.tup [a.v,b.v,c.v],.int (-1)]
  | .iff c a b=>.tup [.str 39,c.v,a.v,b.v]
  | .case k e l1 l2 l3 a b c=>.tup [.str 42,cj k,e.v,.tup [.tup [.tup [l1.v,l2.v],a.v],.tup [.none,b.v],.tup [.tup [l3.v],c.v]]]
  | .rep e s b=>.tup [.str 45,.tup [.str 30,.int 2,e.v,.int 0],.bool s,b.v]
  | .for k b=>.tup [.str 43,beginV,(DC.lt k).v,stepV,b.v]
noncomputable def loP (i:Option Int) (o:Fin 3) (d:Fin 2):Int:=match i with
  | none=>9
  | some i=>(i - (o.val:Nat))*sgn d
noncomputable def exSet (ah:Cal) (l:LL) (t:DT) (e:DE) (s:PS):LL×PS:=
  let r:=ev ah l e s.tick
  match t with
  | .loc i=>(l.set i r.1,r.2)
  | .sig i=>(l,r.2.put i r.1)
  | .pick i x g o d=>
    let q:=ev ah l x r.2
    (l,q.2.put i (cg (loP (toI q.1 g) o d) (q.2.sg i) r.1))
noncomputable def evC (ah:Cal) (l:LL):DC→PS→Nat×PS
  | .ex e,s=>(trP (ev ah l e s).1,(ev ah l e s).2)
  | .an a b,s=>(andT (trP (ev ah l a s).1) (trP (ev ah l b (ev ah l a s).2).1),(ev ah l b (ev ah l a s).2).2)
  | .lt k,s=>(if l.2.a.val < 1+k.val then 1 else 0,s)
noncomputable def times (f:LL→PS→LL×PS):Nat→LL→PS→LL×PS
  | 0,l,s=>(l,s)
  | n+1,l,s=>times f n (f l s.tick).1 (f l s.tick).2
noncomputable def ex (ah:Cal):DS→LL→PS→LL×PS
  | .none,l,s=>(l,s)
  | .set t e,l,s=>exSet ah l t e s
  | .blk2 a b,l,s=>ex ah b (ex ah a l s.tick).1 (ex ah a l s.tick).2
  | .blk3 a b c,l,s=>ex ah c (ex ah b (ex ah a l s.tick).1 (ex ah a l s.tick).2).1 (ex ah b (ex ah a l s.tick).1 (ex ah a l s.tick).2).2
  | .iff c a b,l,s=>if (evC ah l c s.tick).1=1 then ex ah a l (evC ah l c s.tick).2 else ex ah b l (evC ah l c s.tick).2
  | .case k e l1 l2 l3 a b c,l,s=>
    let u:=ev ah l e s.tick
    let v1:=ev ah l l1 u.2
    let v2:=ev ah l l2 v1.2
    if bq k u.1 v1.1 then ex ah a l v1.2 else if bq k u.1 v2.1 then ex ah a l v2.2
    else
      let v3:=ev ah l l3 v2.2
      if bq k u.1 v3.1 then ex ah c l v3.2 else ex ah b l v3.2
  | .rep e g b,l,s=>
    let u:=ev ah l e s.tick
    times (fun l s=>ex ah b l s) ((toI2 u.1 g).getD 0).toNat l u.2
  | .for k b,l,s=>
    let t:=ex ah b (l.1,⟨0,0⟩) s.tick.tick.tick
    let l1:LL:=(t.1.1,⟨1,0⟩)
    if k=0 then (l1,t.2.tick)
    else
      let t2:=ex ah b l1 t.2.tick.tick
      ((t2.1.1,⟨2,0⟩),t2.2.tick)
theorem yx0 {ah:Cal} {l s}:ex ah (.none) l s=((l,s)):=rfl
theorem yx1 {ah:Cal} {t e l s}:ex ah (.set t e) l s=(exSet ah l t e s):=rfl
theorem yx2 {ah:Cal} {a b l s}:ex ah (.blk2 a b) l s=(ex ah b (ex ah a l s.tick).1 (ex ah a l s.tick).2):=rfl
theorem yx3 {ah:Cal} {a b c l s}:ex ah (.blk3 a b c) l s=(ex ah c (ex ah b (ex ah a l s.tick).1 (ex ah a l s.tick).2).1 (ex ah b (ex ah a l s.tick).1 (ex ah a l s.tick).2).2):=rfl
theorem yx4 {ah:Cal} {c a b l s}:ex ah (.iff c a b) l s=(if (evC ah l c s.tick).1=1 then ex ah a l (evC ah l c s.tick).2 else ex ah b l (evC ah l c s.tick).2):=rfl
theorem yx5 {ah:Cal} {k e l1 l2 l3 a b c l s}:ex ah (.case k e l1 l2 l3 a b c) l s=(
    let u:=ev ah l e s.tick
    let v1:=ev ah l l1 u.2
    let v2:=ev ah l l2 v1.2
    if bq k u.1 v1.1 then ex ah a l v1.2 else if bq k u.1 v2.1 then ex ah a l v2.2
    else
      let v3:=ev ah l l3 v2.2
      if bq k u.1 v3.1 then ex ah c l v3.2 else ex ah b l v3.2):=rfl
theorem yx6 {ah:Cal} {e g b l s}:ex ah (.rep e g b) l s=(
    let u:=ev ah l e s.tick
    times (fun l s=>ex ah b l s) ((toI2 u.1 g).getD 0).toNat l u.2):=rfl
theorem yx7 {ah:Cal} {k b l s}:ex ah (.for k b) l s=(
    let t:=ex ah b (l.1,⟨0,0⟩) s.tick.tick.tick
    let l1:LL:=(t.1.1,⟨1,0⟩)
    if k=0 then (l1,t.2.tick)
    else
      let t2:=ex ah b l1 t.2.tick.tick
      ((t2.1.1,⟨2,0⟩),t2.2.tick)):=rfl
noncomputable def DE.cost (cc:Fin 2→Nat):DE→Nat
  | .con _ _=>0 | .sig _=>0 | .loc _=>0
  | .call k e=>e.cost cc+cc k
  | .bin _ a b=>a.cost cc+b.cost cc
  | .cnd c t f=>c.cost cc+t.cost cc+f.cost cc
  | .ext a b=>a.cost cc+b.cost cc
theorem yc0 {cc:Fin 2→Nat} {z1 z2}:DE.cost cc (.con z1 z2)=(0):=rfl
theorem yc1 {cc:Fin 2→Nat} {z1}:DE.cost cc (.sig z1)=(0):=rfl
theorem yc2 {cc:Fin 2→Nat} {z1}:DE.cost cc (.loc z1)=(0):=rfl
theorem yc3 {cc:Fin 2→Nat} {k e}:DE.cost cc (.call k e)=(e.cost cc+cc k):=rfl
theorem yc4 {cc:Fin 2→Nat} {z1 a b}:DE.cost cc (.bin z1 a b)=(a.cost cc+b.cost cc):=rfl
theorem yc5 {cc:Fin 2→Nat} {c t f}:DE.cost cc (.cnd c t f)=(c.cost cc+t.cost cc+f.cost cc):=rfl
theorem yc6 {cc:Fin 2→Nat} {a b}:DE.cost cc (.ext a b)=(a.cost cc+b.cost cc):=rfl
noncomputable def DE.h (hc:Fin 2→Nat):DE→Nat
  | .con _ _=>0 | .sig _=>0 | .loc _=>0
  | .call k e=>1+max (e.h hc) (hc k)
  | .bin _ a b=>1+max (a.h hc) (b.h hc)
  | .cnd c t f=>2+max (c.h hc) (max (t.h hc) (f.h hc))
  | .ext a b=>2+max (a.h hc) (b.h hc)
theorem yh0 {hc:Fin 2→Nat} {z1 z2}:DE.h hc (.con z1 z2)=(0):=rfl
theorem yh2 {hc:Fin 2→Nat} {z1}:DE.h hc (.loc z1)=(0):=rfl
theorem yh3 {hc:Fin 2→Nat} {k e}:DE.h hc (.call k e)=(1+max (e.h hc) (hc k)):=rfl
theorem yh4 {hc:Fin 2→Nat} {z1 a b}:DE.h hc (.bin z1 a b)=(1+max (a.h hc) (b.h hc)):=rfl
theorem yh5 {hc:Fin 2→Nat} {c t f}:DE.h hc (.cnd c t f)=(2+max (c.h hc) (max (t.h hc) (f.h hc))):=rfl
theorem yh6 {hc:Fin 2→Nat} {a b}:DE.h hc (.ext a b)=(2+max (a.h hc) (b.h hc)):=rfl
noncomputable def DE.ok (c:Nat):DE→Prop
  | .con _ _=>True | .sig _=>True | .loc _=>True
  | .call k e=>k.val < c∧e.ok c
  | .bin _ a b=>a.ok c∧b.ok c
  | .cnd x t f=>x.ok c∧t.ok c∧f.ok c
  | .ext a b=>a.ok c∧b.ok c
noncomputable def DT.cost (cc:Fin 2→Nat):DT→Nat
  | .pick _ e _ _ _=>e.cost cc | _=>0
noncomputable def DC.cost (cc:Fin 2→Nat):DC→Nat
  | .ex e=>e.cost cc | .an a b=>a.cost cc+b.cost cc | .lt _=>0
noncomputable def DS.cost (cc:Fin 2→Nat):DS→Nat
  | .none=>0
  | .set t e=>1+e.cost cc+t.cost cc
  | .blk2 a b=>1+a.cost cc+b.cost cc
  | .blk3 a b c=>1+a.cost cc+b.cost cc+c.cost cc
  | .iff c a b=>1+c.cost cc+max (a.cost cc) (b.cost cc)
  | .case _ e l1 l2 l3 a b c=>1+e.cost cc+l1.cost cc+l2.cost cc+l3.cost cc+max (a.cost cc) (max (b.cost cc) (c.cost cc))
  | .rep e _ b=>1+e.cost cc+3*(1+b.cost cc)
  | .for _ b=>6+2*b.cost cc
theorem yk0 {cc:Fin 2→Nat}:DS.cost cc (.none)=(0):=rfl
theorem yk1 {cc:Fin 2→Nat} {t e}:DS.cost cc (.set t e)=(1+e.cost cc+t.cost cc):=rfl
theorem yk2 {cc:Fin 2→Nat} {a b}:DS.cost cc (.blk2 a b)=(1+a.cost cc+b.cost cc):=rfl
theorem yk3 {cc:Fin 2→Nat} {a b c}:DS.cost cc (.blk3 a b c)=(1+a.cost cc+b.cost cc+c.cost cc):=rfl
theorem yk4 {cc:Fin 2→Nat} {c a b}:DS.cost cc (.iff c a b)=(1+c.cost cc+max (a.cost cc) (b.cost cc)):=rfl
theorem yk5 {cc:Fin 2→Nat} {z1 e l1 l2 l3 a b c}:DS.cost cc (.case z1 e l1 l2 l3 a b c)=(1+e.cost cc+l1.cost cc+l2.cost cc+l3.cost cc+max (a.cost cc) (max (b.cost cc) (c.cost cc))):=rfl
theorem yk6 {cc:Fin 2→Nat} {e z1 b}:DS.cost cc (.rep e z1 b)=(1+e.cost cc+3*(1+b.cost cc)):=rfl
theorem yk7 {cc:Fin 2→Nat} {z1 b}:DS.cost cc (.for z1 b)=(6+2*b.cost cc):=rfl
structure Gd (c:Nat) (s s':PS):Prop where
  le:s.n≤s'.n
  n:s'.n≤s.n+c
  log:s'.log.length+s.n≤s.log.length+s'.n
theorem Gd.refl (c:Nat) (s:PS):Gd c s s:=⟨Nat.le_refl _,l0Z,Nat.le_refl _⟩
theorem Gd.trans {c d:Nat} {s s1 s2:PS} (a:Gd c s s1) (b:Gd d s1 s2):Gd (c+d) s s2:=⟨Nat.le_trans a.le b.le,by have:=a.n;have:=b.n;lia,by have:=a.log;have:=b.log;lia⟩
theorem Gd.mono {c d:Nat} {s s1:PS} (a:Gd c s s1) (h:c≤d):Gd d s s1:=⟨a.le,by have:=a.n;exact lZ (aZ h this),a.log⟩
theorem Gd.tick (s:PS):Gd 1 s s.tick:=⟨by simp [PS.tick],by simp [PS.tick],by simp [PS.tick]⟩
theorem PS.put_n (s:PS) (i:Fin 4) (v:Vc):(s.put i v).n=s.n:=by unfold PS.put;split <;> rfl
theorem PS.put_log (s:PS) (i:Fin 4) (v:Vc):(s.put i v).log.length≤s.log.length+1:=by unfold PS.put;split <;> simp
theorem Gd.put {c:Nat} {s s1:PS} {i:Fin 4} {v:Vc} (a:Gd c s.tick s1):Gd (c+1) s (s1.put i v):=
  ⟨by refine ag (PS.put_n ..) ?_;have:=a.le;simp only [PS.tick] at this;exact lZ this,by refine ag (PS.put_n ..) ?_;have:=a.n;simp only [PS.tick] at this;exact lZ this,by
    refine ag (PS.put_n ..) ?_;have:=a.log;have:=PS.put_log s1 i v;simp only [PS.tick] at *;lia⟩
noncomputable def bL (cc:Fin 2→Nat) (c:Nat) (ah:Cal):Prop:=∀ k:Fin 2,k.val < c→∀ v s,Gd (cc k) s (ah k v s).2
theorem aO {cc:Fin 2→Nat} {c:Nat} {ah:Cal} (hc:bL cc c ah) {l:LL}:∀ (e:DE),e.ok c→∀ s,Gd (e.cost cc) s (ev ah l e s).2
  | .con _ _,_,s=>.refl _ _
  | .sig _,_,s=>.refl _ _
  | .loc _,_,s=>.refl _ _
  | .call k e,ok,s=>(aO hc e ok.2 s).trans (hc k ok.1 _ _)
  | .bin x a b,ok,s=>(aO hc a ok.1 s).trans (aO hc b ok.2 _)
  | .ext a b,ok,s=>(aO hc a ok.1 s).trans (aO hc b ok.2 _)
  | .cnd x t f,ok,s=>by
    have h0:=aO (l:=l) hc x ok.1 s
    have h1:=aO (l:=l) hc t ok.2.1 (ev ah l x s).2
    have h2:=aO (l:=l) hc f ok.2.2 (ev ah l x s).2
    have h3:=aO (l:=l) hc f ok.2.2 (ev ah l t (ev ah l x s).2).2
    simp only [yc5];simp only [yv5]
    split
    · exact (h0.trans h1).mono (l0Z)
    · split
      · exact (h0.trans h2).mono (l0Z)
      · exact (h0.trans h1).trans h3
theorem runFn_gd {cc:Fin 2→Nat} {c:Nat} {ah:Cal} (hc:bL cc c ah) {f:Fn} (h1:f.second.ok c) (h2:f.result.ok c) (v:Vc) (s:PS):Gd (3+f.second.cost cc+f.result.cost cc) s (runFn ah f v s).2:=by
  unfold runFn
  dsimp only
  generalize (match f.port with | none=>(xX,v) | some _=>(xX,xX):LL)=l
  have hp:∀ s1:PS,s1.n=s.n→s1.log.length≤s.log.length+1→Gd (3+f.second.cost cc+f.result.cost cc) s (ev ah l f.result ((ev ah l f.second s1.tick.tick).2.put f.first (ev ah l f.second s1.tick.tick).1).tick).2:=fun s1 e1 e2=>by
    have a:=aO (l:=l) hc f.second h1 s1.tick.tick
    have b:=(Gd.put (i:=f.first) (v:=(ev ah l f.second s1.tick.tick).1) a).trans (.tick _)
    have d:=b.trans (aO (l:=l) hc f.result h2 _)
    refine ⟨?_,?_,?_⟩
    · have:=d.le;simp only [PS.tick] at this ⊢;exact lZ (aZ (Nat.le_of_eq e1.symm) this)
    · have:=d.n;simp only [PS.tick] at this ⊢;exact lZ (aZ (Nat.le_of_eq e1) this)
    · have:=d.log;simp only [PS.tick] at this ⊢;exact lZ (aZ (Nat.le_of_eq e1.symm) (aZ e2 this))
  cases f.port with
  | none=>exact hp s rfl (l0Z)
  | some i=>exact hp _ (PS.put_n ..) (PS.put_log ..)
end
section
open PySem
section
variable {T:Tab} {C:aw} {ρ:List V} {σ σ1:St}
theorem bK {o:XE} {n c a:Nat} {fs:List (Nat×V)} {v:V} (ho:ae T C o ρ σ=some (.obj n,σ1)) (hn:σ1[n]?=some (.inst c fs)) (hf:T.fld c a=true) (h:cn a fs=some v):ae T C (.attr o a) ρ σ=some (v,σ1):=by
  exact ak ho (map_eq (v:=v) (by simp only [getA,hn,hf,if_true,h]))
theorem dj {o:XE} {n c a k:Nat} {fs:List (Nat×V)} {l:List XE} {vs:List V} {σ2:St} {r:V×St} (ho:ae T C o ρ σ=some (.obj n,σ1)) (hn:σ1[n]?=some (.inst c fs)) (hg:cn a fs=.none) (hm:T.aV c a=some k)
    (hl:bp T C l ρ σ1=some (vs,σ2)) (hc:C k (.obj n :: vs) σ2=some r):ae T C (.aV o a l) ρ σ=some r:=by
  exact ak ho (ba (v:=.own k [.obj n]) (by simp only [dB,hn,hg,hm,Option.map]) (ak hl (show callF C (.own k [.obj n]) a vs σ2=some r from hc)))
theorem mv_get {o:XE} {n:Nat} {d:List (Int×V)} {l:List XE} {k:Int} {σ2:St} (ho:ae T C o ρ σ=some (.obj n,σ1)) (hn:σ1[n]?=some (.cN d))
    (hl:bp T C l ρ σ1=some ([.int k],σ2)) (hn2:σ2[n]?=some (.cN d)):ae T C (.aV o 2 l) ρ σ=some ((getD k d).getD .none,σ2):=by
  exact ak ho (ba (v:=.cN n) (by simp only [dB,hn]) (ak hl (show callF C (.cN n) 2 [.int k] σ2=_ by simp only [callF,dctMeth,hn2])))
theorem mv_dyn {o:XE} {n c a k:Nat} {fs:List (Nat×V)} {l:List XE} {vs:List V} {σ2:St} {r:V×St} (ho:ae T C o ρ σ=some (.obj n,σ1)) (hn:σ1[n]?=some (.inst c fs)) (hg:cn a fs=some (.fn k)) (hm:T.dyn c a=true)
    (hl:bp T C l ρ σ1=some (vs,σ2)) (hc:C k vs σ2=some r):ae T C (.aV o a l) ρ σ=some r:=by
  exact ak ho (ba (v:=.own k []) (by simp only [dB,hn,hg,hm,if_true]) (ak hl (show callF C (.own k []) a vs σ2=some r from hc)))
theorem mv_app {o:XE} {n:Nat} {d:List V} {l:List XE} {v:V} {σ2:St} (ho:ae T C o ρ σ=some (.obj n,σ1)) (hn:σ1[n]?=some (.lst d))
    (hl:bp T C l ρ σ1=some ([v],σ2)) (hn2:σ2[n]?=some (.lst d)) (hd:d.length < 1000):ae T C (.aV o 0 l) ρ σ=some (.none,σ2.set n (.lst (d++[v]))):=by
  exact ak ho (ba (v:=.lst n) (by simp only [dB,hn]) (ak hl (show callF C (.lst n) 0 [v] σ2=_ by simp only [callF,lstMeth,hn2,hd,if_true])))
theorem dw {o i:XE} {x:V} {l:List V} {k:Int} {v:V} {σ2:St} (ho:ae T C o ρ σ=some (x,σ1)) (hi:ae T C i ρ σ1=some (.int k,σ2)) (hs:bk σ2 x=some l) (hk:idxOk k=true) (h:idxL l k=some v):ae T C (.idx o i) ρ σ=some (v,σ2):=by
  exact ak ho (ak hi (map_eq (v:=v) (by simp only [getI,hs,hk,if_true,h])))
end
structure Keys (d:List (Int×V)):Prop where
  nd:(d.map (·.1)).Nodup
  lt:∀ k∈d.map (·.1),0≤k∧k < 4
theorem Keys.nil:Keys []:=⟨.nil,fun zz h=>nomatch h⟩
theorem pig5:∀ a b c d e:Fin 4,a=b∨a=c∨a=d∨a=e∨b=c∨b=d∨b=e∨c=d∨c=e∨d=e:=by decide +kernel
theorem toF4 {k:Int} (h:0≤k∧k < 4):∃ f:Fin 4,(f.val:Int)=k:=⟨⟨k.toNat,by lia⟩,Int.toNat_of_nonneg h.1⟩
theorem len5 {a b c d e:Int} {t:List Int} (nd:(a :: b :: c :: d :: e :: t).Nodup) (h:∀ k∈a :: b :: c :: d :: e :: t,0≤k∧k < 4):False:=by
  obtain ⟨a,rfl⟩:=toF4 (h _ (.head _))
  obtain ⟨b,rfl⟩:=toF4 (h _ (.tail _ (.head _)))
  obtain ⟨c,rfl⟩:=toF4 (h _ (.tail _ (.tail _ (.head _))))
  obtain ⟨d,rfl⟩:=toF4 (h _ (.tail _ (.tail _ (.tail _ (.head _)))))
  obtain ⟨e,rfl⟩:=toF4 (h _ (.tail _ (.tail _ (.tail _ (.tail _ (.head _))))))
  clear h
  simp only [List.nodup_cons,List.mem_cons,not_or] at nd
  have n1:=nd.1;have n2:=nd.2.1;have n3:=nd.2.2.1;have n4:=nd.2.2.2.1
  clear nd
  rcases pig5 a b c d e with rfl | rfl | rfl | rfl | rfl | rfl | rfl | rfl | rfl | rfl
  · exact n1.1 rfl
  · exact n1.2.1 rfl
  · exact n1.2.2.1 rfl
  · exact n1.2.2.2.1 rfl
  · exact n2.1 rfl
  · exact n2.2.1 rfl
  · exact n2.2.2.1 rfl
  · exact n3.1 rfl
  · exact n3.2.1 rfl
  · exact n4.1 rfl
theorem len4 (l:List Int) (nd:l.Nodup) (h:∀ k∈l,0≤k∧k < 4):l.length≤4:=by
  match l,nd,h with
  | [],_,_=>exact Nat.le_of_ble_eq_true rfl
  | [_],_,_=>exact Nat.le_of_ble_eq_true rfl
  | [_,_],_,_=>exact Nat.le_of_ble_eq_true rfl
  | [_,_,_],_,_=>exact Nat.le_of_ble_eq_true rfl
  | [_,_,_,_],_,_=>exact Nat.le_of_ble_eq_true rfl
  | a :: b :: c :: d :: e :: t,nd,h=>exact (len5 nd h).elim
theorem Keys.len {d:List (Int×V)} (h:Keys d):d.length≤4:=by have:=len4 _ h.nd h.lt;simpa using this
theorem getD_putD (a b:Int) (v:V):∀ l,getD b (putD a v l)=if b=a then some v else getD b l
  | []=>by simp only [putD,getD];by_cases h:a=b <;> simp [h,eq_comm]
  | (c,w) :: l=>by
    unfold putD
    by_cases hc:c=a
    · subst hc
      simp only [if_true,getD]
      by_cases h:c=b
      · subst h;simp
      · simp [h,Ne.symm h]
    · simp only [hc,if_false,getD]
      by_cases h:c=b
      · subst h;simp [hc]
      · simp only [h,if_false];exact getD_putD a b v l
theorem keys_putD (a:Int) (v:V):∀ l,(putD a v l).map (·.1)=if a∈l.map (·.1) then l.map (·.1) else l.map (·.1)++[a]
  | []=>by simp [putD]
  | (c,w) :: l=>by
    unfold putD
    by_cases hc:c=a
    · subst hc;simp
    · simp only [hc,if_false,List.map_cons,keys_putD a v l]
      by_cases h:a∈l.map (·.1)
      · exact ag (if_pos h) (ag (if_pos (List.mem_cons_of_mem _ h)) rfl)
      · refine ag (if_neg h) (ag (if_neg (by simp only [List.mem_cons,not_or];exact ⟨fun e=>hc e.symm,h⟩)) ?_);rfl
theorem Keys.put {d:List (Int×V)} (h:Keys d) {a:Int} (h0:0≤a) (h4:a < 4) (v:V):Keys (putD a v d):=by
  refine ⟨?_,?_⟩ <;> rw [keys_putD] <;> split
  · exact h.nd
  · rename_i q
    rw [List.nodup_append]
    exact ⟨h.nd,by simp,fun x hx y hy e=>by rw [List.mem_singleton.mp hy] at e;exact q (e▸hx)⟩
  · exact h.lt
  · intro k hk
    rcases List.mem_append.mp hk with q | q
    · exact h.lt k q
    · rw [List.mem_singleton.mp q];exact ⟨h0,h4⟩
theorem mem_putD {a b:Int} {v:V} {l:List (Int×V)}:b∈(putD a v l).map (·.1) ↔ b∈l.map (·.1)∨b=a:=by
  rw [keys_putD];split
  · rename_i q;exact ⟨.inl,fun h=>h.elim id fun e=>e▸q⟩
  · rw [List.mem_append,List.mem_singleton]
noncomputable def Kp (X:List Nat) (σ σ':St):Prop:=σ.length≤σ'.length∧∀ n o,n∉X→σ[n]?=some o→σ'[n]?=some o
theorem Kp.refl (X:List Nat) (σ:St):Kp X σ σ:=⟨Nat.le_refl _,fun zz zz zz h=>h⟩
theorem Kp.trans {X:List Nat} {a b c:St} (x:Kp X a b) (y:Kp X b c):Kp X a c:=⟨Nat.le_trans x.1 y.1,fun n o h e=>y.2 n o h (x.2 n o h e)⟩
theorem Kp.mono {X Y:List Nat} {a b:St} (x:Kp X a b) (h:∀ n∈X,n∈Y):Kp Y a b:=⟨x.1,fun n o q=>x.2 n o fun m=>q (h n m)⟩
theorem Kp.set {X:List Nat} {σ:St} {n:Nat} (h:n∈X) (o:AO):Kp X σ (σ.set n o):=⟨by simp,fun m p q e=>by refine ag (List.getElem?_set_ne (by rintro rfl;exact q h)) ?_;exact e⟩
theorem Kp.app (X:List Nat) (σ τ:St):Kp X σ (σ++τ):=⟨by simp,fun m p q e=>by refine ag (List.getElem?_append_left (List.getElem?_eq_some_iff.mp e).1) ?_;exact e⟩
theorem get_set {σ:St} {n:Nat} {o p:AO} (h:σ[n]?=some p):(σ.set n o)[n]?=some o:=by
  exact ag (List.getElem?_set_self (List.getElem?_eq_some_iff.mp h).1) rfl
theorem aK {σ:St} {n m:Nat} {o:AO} {p:Option AO} (hn:n≠m) (h:σ[m]?=p):(σ.set n o)[m]?=p:=by
  refine ag (List.getElem?_set_ne hn) ?_;exact h
theorem aB {σ τ:St} {n:Nat} {p:AO} (h:σ[n]?=some p):(σ++τ)[n]?=some p:=by
  refine ag (List.getElem?_append_left (List.getElem?_eq_some_iff.mp h).1) ?_;exact h
theorem bR {σ:St} {o:AO}:(σ++[o])[σ.length]?=some o:=by simp
structure Hd where
  ctx:Nat
  st:Nat
  vals:Nat
  wr:Nat
  mem:Nat
  ds:Nat
  g:Fin 4→Nat
  t:Fin 2→Nat
noncomputable def Fn.du (f:Fn):V:=match f.port with
  | none=>.tup [.str 38,.int 3,.bool false,.str 26,.int 1]
  | some i=>.tup [.str 38,.int 3,.bool false,.str 25,iN i]
noncomputable def Fn.body (f:Fn):DS:=.blk2 (.set (.sig f.first) f.second) (.set (.loc 0) f.result)
structure SR (H:Hd) (σ:St) (sg:Fin 4→Vc):Prop where
  st:σ[H.st]?=some (.inst 3 [(6,.lst [.obj (H.g 0),.obj (H.g 1),.obj (H.g 2),.obj (H.g 3)]),(9,.obj H.vals),(10,.obj H.mem),(11,.int 1)])
  sig:∀ i,∃ fs,σ[H.g i]?=some (.inst 6 fs)∧cn 7 fs=some (.int 3)∧cn 27 fs=some (.str 58)∧cn 12 fs=none
  vals:∃ d,σ[H.vals]?=some (.cN d)∧Keys d∧∀ i:Fin 4,((getD (i.val:Nat) d).getD .none=(sg i).v∨(getD (i.val:Nat) d=none∧sg i=xX))
section
variable {T:Tab} (hT:bz bE T) {n:Nat} {σ:St} {H:Hd} {sg:Fin 4→Vc}
include hT
theorem av {c a:Nat} (h:fldTab c a=true):T.fld c a=true:=by refine ag hT.fld ?_;exact h
theorem b8 {c a k:Nat} (h:methTab c a=some k):T.aV c a=some k:=by refine ag hT.aV ?_;exact h
theorem get_ok (S:SR H σ sg) (i:Fin 4) (h:3≤n):ab T n 73 [.obj H.st,iN i] σ=some ((sg i).v,σ):=by
  obtain ⟨n,rfl⟩:∃ m,n=m+1:=⟨n - 1,cI (lZ h)⟩
  refine WC.eq (aj (f:=x_Store_get) (ρ:=[.obj H.st,iN i,.ai,.ai]) (hT.fn _ _ rfl) rfl rfl ?_)
  refine ay S.vals fun d hd kd hv=>?_
  refine ar (.mk (mv_get (bK rfl S.st (av hT rfl) rfl) hd rfl hd) ⟨aa rfl,?_⟩)
  rcases hv i with e | ⟨e,ex⟩
  · refine ag e ?_
    refine s_true rfl (au rfl (.ret ⟨rfl,rfl⟩))
  · refine ag e (ag ex ?_)
    refine E1A4 (S.sig i) fun fs h1 h2 h3 h4=>?_
    refine s_false rfl (ar (.mk (v:=.obj (H.g i)) (σ':=σ) (dw (bK rfl S.st (av hT rfl) rfl) rfl rfl ?_ ?_) ⟨aa rfl,?_⟩))
    · refine f4 i ?_ ?_ ?_ ?_ <;> rfl
    · refine f4 i ?_ ?_ ?_ ?_ <;> rfl
    have net:ab T n 94 [.obj (H.g i)] σ=some (.bool false,σ):=by
      obtain ⟨n,rfl⟩:∃ m,n=m+1:=⟨n - 1,cI (lZ h)⟩
      refine WC.eq (aj (f:=x_Signal_is_net) (ρ:=[.obj (H.g i)]) (hT.fn _ _ rfl) rfl rfl ?_)
      have nk:ab T n 92 [] σ=some (.tup [.str 46,.str 47,.str 48,.str 49,.str 50,.str 51,.str 52,.str 53,.str 54],σ):=by
        obtain ⟨n,rfl⟩:∃ m,n=m+1:=⟨n - 1,cI (lZ h)⟩
        exact WC.eq (aj (f:=x_net_kinds) (ρ:=[]) (hT.fn _ _ rfl) rfl rfl (au rfl (.ret ⟨rfl,rfl⟩)))
      exact bI (bT (.mk (bK rfl h1 (av hT rfl) h3) (.mk (cv rfl nk) (.mk rfl (.ret ⟨rfl,rfl⟩)))))
    exact s_false (dj rfl h1 h4 (b8 hT rfl) rfl net) (au (cv (evs1 (bK rfl h1 (av hT rfl) h2)) (allx3 hT (lZ h))) (.ret ⟨rfl,rfl⟩))
end
end
section
open PySem
noncomputable def AO.tag:AO→Nat
  | .lst _=>0
  | .cN _=>1
  | .inst c _=>c+2
theorem cy {σ:St} {a b:Nat} {x y:AO} (h:σ[a]?=some x) (h':σ[b]?=some y) (n:x.tag.beq y.tag=false):a≠b:=fun e=>by subst e;replace h':=(h ..)▸h';cases Option.some.inj h';replace n:=(Nat.beq_refl ..)▸n;cases n
theorem vec_eq (σ:St) (u v:Vc):cmpV σ .eq u.v v.v=some (decide (u=v)):=by
  have e:cmpV σ .eq u.v v.v=some ((3:Int) ==3 && ((u.a.val:Int) ==v.a.val && ((u.b.val:Int) ==v.b.val && true))):=rfl
  refine ag e ?_
  congr 1
  clear e;obtain ⟨a,b⟩:=u
  clear σ;obtain ⟨c,d⟩:=v
  rw [Bool.eq_iff_iff]
  simp only [Bool.and_eq_true,beq_iff_eq,decide_eq_true_eq,Bool.and_true,Vc.mk.injEq]
  constructor
  · rintro ⟨_,h1,h2⟩;exact ⟨Fin.ext (by lia),Fin.ext (by lia)⟩
  · rintro ⟨rfl,rfl⟩;simp
theorem row_eq (σ:St) (u v:Vc):cmpV σ .eq u.r v.r=some (decide (u=v)):=by
  have e:cmpV σ .eq u.r v.r=some ((dg u 0:Int) ==dg v 0 && ((dg u 1:Int) ==dg v 1 && ((dg u 2:Int) ==dg v 2 && true))):=rfl
  refine ag e ?_
  congr 1
  have key:allV (fun u=>allV fun v=>((dg u 0:Int) ==dg v 0 && ((dg u 1:Int) ==dg v 1 && ((dg u 2:Int) ==dg v 2 && true))) ==decide (u=v))=true:=by decide +kernel
  exact beq_iff_eq.mp (dC (f:=fun v=>((dg u 0:Int) ==dg v 0 && ((dg u 1:Int) ==dg v 1 && ((dg u 2:Int) ==dg v 2 && true))) ==decide (u=v)) (dC (f:=fun u=>allV fun v=>((dg u 0:Int) ==dg v 0 && ((dg u 1:Int) ==dg v 1 && ((dg u 2:Int) ==dg v 2 && true))) ==decide (u=v)) key u) v)
theorem SR.kp {H:Hd} {σ σ':St} {sg:Fin 4→Vc} {X:List Nat} (S:SR H σ sg) (k:Kp X σ σ') (h1:H.st∉X) (h2:∀ i,H.g i∉X) (h3:H.vals∉X):SR H σ' sg:=
  ⟨k.2 _ _ h1 S.st,fun i=>aq (S.sig i) fun fs e r=>⟨fs,k.2 _ _ (h2 i) e,r⟩,aq S.vals fun d e r=>⟨d,k.2 _ _ h3 e,r⟩⟩
section
variable {T:Tab} (hT:bz bE T) {n:Nat} {σ:St} {H:Hd}
include hT
theorem setb_ok {s:PS} (S:SR H σ s.sg) (i:Fin 4) {lo:Int} (v:Vc) (h0:-2≤lo) (h1:lo≤2) (h:4≤n):
    ∃ σ',ab T n 75 [.obj H.st,iN i,.none,.int lo,v.v] σ=some (.bool (!decide (cg lo (s.sg i) v=s.sg i)),σ')∧SR H σ' (s.put i (cg lo (s.sg i) v)).sg∧Kp [H.vals] σ σ':=by
  obtain ⟨n,rfl⟩:∃ m,n=m+1:=⟨n - 1,cI (lZ h)⟩
  refine ay S.vals fun d hd kd hv=>?_
  have n1:H.st≠H.vals:=cy S.st hd rfl
  have run:∀ σ' (b:Bool),(b=decide (cg lo (s.sg i) v=s.sg i))→(b=true→σ'=σ)→(b=false→σ'=σ.set H.vals (.cN (putD (i.val:Nat) (cg lo (s.sg i) v).v d)))→ab T (n+1) 75 [.obj H.st,iN i,.none,.int lo,v.v] σ=some (.bool (!decide (cg lo (s.sg i) v=s.sg i)),σ'):=fun σ' b hb e1 e2=>by
    refine WC.eq (aj (f:=x_Store_set_bits) (ρ:=[.obj H.st,iN i,.none,.int lo,v.v,.ai,.ai]) (hT.fn _ _ rfl) rfl rfl ?_)
    refine s_true rfl (ar (.mk (dj rfl S.st rfl (b8 hT rfl) rfl (get_ok hT S i (lZ h))) ⟨aa rfl,ar (.mk (cv rfl (put_ok hT h0 h1 (lZ h))) ⟨aa rfl,?_⟩)⟩))
    refine s_bool (c:=b) (σ':=σ) ?_ (fun q=>?_) (fun q=>?_)
    · refine ag hb ?_
      exact (bT (Q:=fun w σ'=>w=.bool (decide (cg lo (s.sg i) v=s.sg i))∧σ'=σ) (.mk (v:=(cg lo (s.sg i) v).v) rfl (.mk (v:=(s.sg i).v) rfl (.mk (vec_eq _ _ _) ⟨rfl,rfl⟩)))).ok.eq
    · refine ag (e1 q) (cw hb (ag q ?_))
      exact au rfl (.ret ⟨rfl,rfl⟩)
    · refine ag (e2 q) (cw hb (ag q ?_))
      refine dE (.mk (v:=(cg lo (s.sg i) v).v) rfl (.mk (bK rfl S.st (av hT rfl) rfl) (.mk rfl (p_dct hd (by have:=kd.len;exact lZ this) (au rfl (.ret ⟨rfl,rfl⟩))))))
  by_cases q:cg lo (s.sg i) v=s.sg i
  · refine aT σ (run σ true (by simp [q]) (fun zz=>rfl) (fun e=>nomatch e)) ?_ (.refl _ _)
    unfold PS.put;refine ag (if_pos q ..) ?_;exact S
  · refine aT _ (run _ false (by simp [q]) (fun e=>nomatch e) (fun zz=>rfl)) ?_ (.set (.head _) _)
    unfold PS.put;rw [if_neg q]
    refine ⟨aK n1.symm S.st,fun j=>?_,_,get_set hd,kd.put (by omega) (by omega) _,fun j=>?_⟩
    · refine aq (S.sig j) fun fs e r=>?_
      exact aI fs (aK (cy hd e rfl) e) r
    · rw [getD_putD]
      by_cases e:j=i
      · clear h h1 h0 S run n1 n q hv kd hd;subst e;simp
      · have:¬ ((j.val:Nat):Int)=((i.val:Nat):Int):=fun h=>e (Fin.ext (by omega))
        simp only [this,if_false,e];exact hv j
end
noncomputable def ctxF (H:Hd) (fr n:Nat) (dp:Int):List (Nat×V):=[(3,.obj H.st),(4,.obj fr),(13,.int 0),(14,.obj H.ds),(15,.int (5000 - (n:Nat))),(16,.int dp),(17,.obj H.wr)]
structure MR (fns:Fin 2→Fn) (H:Hd) (σ:St) (fr:Nat) (l:LL) (s:PS) (dp:Int):Prop where
  S:SR H σ s.sg
  ctx:σ[H.ctx]?=some (.inst 5 (ctxF H fr s.n dp))
  ds:∃ fs,σ[H.ds]?=some (.inst 7 fs)∧cn 18 fs=some (.fn 900)
  th:∀ k,∃ fs,σ[H.t k]?=some (.inst 7 fs)∧cn 20 fs=some (fns k).body.v∧cn 21 fs=some (.lst [.int 3,.int 3])∧cn 22 fs=some (.lst [(fns k).du])
  fr:σ[fr]?=some (.lst [l.1.v,l.2.v])
  wr:∃ d,σ[H.wr]?=some (.cN d)∧Keys d∧∀ k:Nat,(k:Int)∈d.map (·.1) ↔ k∈s.log
  ne:H.vals≠H.wr
section
variable {fns:Fin 2→Fn} {H:Hd} {σ σ':St} {fr:Nat} {l:LL} {s:PS} {dp:Int}
theorem MR.kp {X:List Nat} (m:MR fns H σ fr l s dp) (k:Kp X σ σ') (h1:H.st∉X) (h2:∀ i,H.g i∉X) (h3:H.vals∉X) (h4:H.ctx∉X) (h5:H.ds∉X) (h6:∀ i,H.t i∉X) (h7:H.wr∉X) {l':LL} (hfr:σ'[fr]?=some (.lst [l'.1.v,l'.2.v])):MR fns H σ' fr l' s dp:=
  ⟨m.S.kp k h1 h2 h3,k.2 _ _ h4 m.ctx,aq m.ds fun fs e r=>⟨fs,k.2 _ _ h5 e,r⟩,fun i=>aq (m.th i) fun fs e r=>⟨fs,k.2 _ _ (h6 i) e,r⟩,hfr,aq m.wr fun d e r=>⟨d,k.2 _ _ h7 e,r⟩,m.ne⟩
theorem MR.app (m:MR fns H σ fr l s dp) (τ:St):MR fns H (σ++τ) fr l s dp:=m.kp (Kp.app [] σ τ) List.not_mem_nil (fun _=>List.not_mem_nil) List.not_mem_nil List.not_mem_nil List.not_mem_nil (fun _=>List.not_mem_nil) List.not_mem_nil (aB m.fr)
theorem MR.setCtx (m:MR fns H σ fr l s dp) {fr':Nat} {l':LL} {n':Nat} {dp':Int} (hfr:σ[fr']?=some (.lst [l'.1.v,l'.2.v])):MR fns H (σ.set H.ctx (.inst 5 (ctxF H fr' n' dp'))) fr' l' ⟨s.sg,s.log,n'⟩ dp':=by
  have k:Kp [H.ctx] σ (σ.set H.ctx (.inst 5 (ctxF H fr' n' dp'))):=.set (.head _) _
  refine aq m.S.vals fun d hd zz=>?_
  refine aq m.wr fun d' hd' hw=>?_
  refine ⟨m.S.kp k (by simpa using (cy m.S.st m.ctx rfl)) (fun i=>?_) (by simpa using cy hd m.ctx rfl),get_set m.ctx,?_,fun i=>?_,?_,⟨d',k.2 _ _ (by simpa using cy hd' m.ctx rfl) hd',hw⟩,m.ne⟩
  · refine aq (m.S.sig i) fun fs e zz=>?_
    simpa using cy e m.ctx rfl
  · refine aq m.ds fun fs e r=>?_
    exact aI fs (k.2 _ _ (by simpa using cy e m.ctx rfl) e) r
  · refine aq (m.th i) fun fs e r=>?_
    exact aI fs (k.2 _ _ (by simpa using cy e m.ctx rfl) e) r
  · exact k.2 _ _ (by simpa using cy hfr m.ctx rfl) hfr
variable {T:Tab} (hT:bz bE T) {n:Nat}
include hT
theorem burn_ok (m:MR fns H σ fr l s dp) (hs:s.n < 5000) (h:1≤n):∃ σ',ab T n 83 [.obj H.ctx] σ=some (.none,σ')∧MR fns H σ' fr l s.tick dp∧Kp [H.ctx] σ σ':=by
  obtain ⟨n,rfl⟩:∃ m,n=m+1:=⟨n - 1,cI (lZ h)⟩
  refine ⟨σ.set H.ctx (.inst 5 (ctxF H fr (s.n+1) dp)),?_,m.setCtx m.fr,.set (.head _) _⟩
  refine WC.eq (aj (f:=dS) (ρ:=[.obj H.ctx]) (hT.fn _ _ rfl) rfl rfl ?_)
  have q:decide ((5000:Int) - (s.n:Nat)≤0)=false:=by simp;omega
  refine s_false (σ':=σ) ?_ ?_
  · exact (bT (Q:=fun w σ'=>w=.bool false∧σ'=σ) (.mk (bK rfl m.ctx (av hT rfl) rfl) (.mk rfl (.mk (w:=false) (by show some _=_;exact ag q rfl) ⟨rfl,rfl⟩)))).ok.eq
  · refine s_augA (.mk rfl (g_attr m.ctx (av hT rfl) rfl (.mk rfl (.mk rfl (p_attr m.ctx (av hT rfl) (aa rfl) (aU (.aL ⟨rfl,?_⟩)))))))
    have e:(5000:Int) - (s.n:Nat) - 1=5000 - ((s.n+1:Nat):Nat):=by omega
    show σ.set H.ctx (.inst 5 [(3,.obj H.st),(4,.obj fr),(13,.int 0),(14,.obj H.ds),(15,.int (5000 - (s.n:Nat) - 1)),(16,.int dp),(17,.obj H.wr)])=_
    refine ag e ?_;rfl
end
end
section
open PySem
noncomputable abbrev XE3 (H:Hd):List Nat:=[H.ctx,H.vals,H.wr]
structure Sx where
  fns:Fin 2→Fn
  H:Hd
  ah:Cal
  cc:Fin 2→Nat
  hc:Fin 2→Nat
section
variable (T:Tab) (x:Sx)
noncomputable def CalOk (c:Nat):Prop:=∀ k:Fin 2,k.val < c→∀ v σ fr l s dp,MR x.fns x.H σ fr l s dp→s.n+x.cc k≤4900→dp+(k.val:Nat)≤20→∀ n,x.hc k+8≤n→
  ∃ σ',ab T n 81 [.obj x.H.ctx,iN k,.lst [v.v]] σ=some ((x.ah k v s).1.v,σ')∧MR x.fns x.H σ' fr l (x.ah k v s).2 dp∧Kp (XE3 x.H) σ σ'
noncomputable def EvOk (c:Nat) (e:DE):Prop:=∀ σ fr l s dp,MR x.fns x.H σ fr l s dp→s.n+e.cost x.cc≤4900→dp+(c:Nat)≤21→∀ n,e.h x.hc+8≤n→
  ∃ σ',ab T n 67 [e.v,.obj x.H.ctx] σ=some ((ev x.ah l e s).1.v,σ')∧MR x.fns x.H σ' fr l (ev x.ah l e s).2 dp∧Kp (XE3 x.H) σ σ'
end
theorem comp1 {T:Tab} {C:aw} {ρ:List V} {σ σ1 σ2:St} {e it:XE} {v w:V} (hi:ae T C it ρ σ=some (.tup [v],σ1)) (h0:ae T C e (ρ++[v]) σ1=some (w,σ2)):ae T C (.comp false e it .none) ρ σ=some (.lst [w],σ2):=by
  have h:WE T C (.comp false e it .none) ρ σ fun v σ'=>v=.lst [w]∧σ'=σ2:=
    w_compF (.mk hi ⟨rfl,aA rfl (aa rfl) (.mk h0 (cB rfl ⟨aa rfl,rfl,rfl⟩))⟩)
  exact h.ok.eq
theorem aC {T:Tab} {C:aw} {ρ:List V} {σ:St} {i:Nat} {v:V} (h:ρ[i]?=some v) (hv:v≠.ai):ae T C (.loc i) ρ σ=some (v,σ):=by
  exact map_eq (slot_ne h hv)
theorem DE.cb (e:DE):e.v≠.ai:=by cases e <;> nofun
section
variable {T:Tab} (hT:bz bE T) {x:Sx} {c:Nat}
include hT
theorem and_ev {a b:DE} (ha:EvOk T x c a) (hb:EvOk T x c b) (gd:∀ l s,Gd (a.cost x.cc) s (ev x.ah l a s).2) {σ fr l s dp} (m:MR x.fns x.H σ fr l s dp) (hs:s.n+(a.cost x.cc+b.cost x.cc)≤4900) (hd:dp+(c:Nat)≤21) {n:Nat} (hn:max (a.h x.hc) (b.h x.hc)+9≤n):
    ∃ σ',ab T n 67 [.tup [.str 27,.int 1,.str 23,a.v,b.v,.bool false],.obj x.H.ctx] σ=some (bit1 (andT (trP (ev x.ah l a s).1) (trP (ev x.ah l b (ev x.ah l a s).2).1)),σ')∧MR x.fns x.H σ' fr l (ev x.ah l b (ev x.ah l a s).2).2 dp∧Kp (XE3 x.H) σ σ':=by
  obtain ⟨n,rfl⟩:∃ m,n=m+1:=⟨n - 1,cI (lZ hn)⟩
  have g:=(gd l s).n
  refine ay (ha σ fr l s dp m (lZ hs) hd n (lZ (xLlZ hn))) fun σ1 e1 m1 k1=>?_
  refine ay (hb σ1 fr l _ dp m1 (lZ (aZ hs g)) hd n (lZ (xLrZ hn))) fun σ2 e2 m2 k2=>?_
  refine aT σ2 ?_ m2 (k1.trans k2)
  refine WC.eq (aj (f:=br) (ρ:=[.tup [.str 27,.int 1,.str 23,a.v,b.v,.bool false],.obj x.H.ctx,.ai]) (hT.fn _ _ rfl) rfl rfl ?_)
  refine ao 4 rfl (s_true rfl (au (cv (evs4 rfl (cv (bB rfl rfl) e1) (cv (bB rfl rfl) e2) rfl) (binAnd_ok hT (lZ hn))) (.ret ⟨rfl,rfl⟩)))
theorem dZ (hc:CalOk T x c) (hg:bL x.cc c x.ah):∀ e:DE,e.ok c→EvOk T x c e
  | .con a b,ok=>fun σ fr l s dp m hs hd n hn=>by
    obtain ⟨n,rfl⟩:∃ m,n=m+1:=⟨n - 1,cI (lZ hn)⟩
    refine aT σ ?_ m (.refl _ _)
    refine WC.eq (aj (f:=br) (ρ:=[(DE.con a b).v,.obj x.H.ctx,.ai]) (hT.fn _ _ rfl) rfl rfl ?_)
    exact ao 1 rfl (s_true rfl (au rfl (.ret ⟨rfl,rfl⟩)))
  | .sig i,ok=>fun σ fr l s dp m hs hd n hn=>by
    obtain ⟨n,rfl⟩:∃ m,n=m+1:=⟨n - 1,cI (lZ hn)⟩
    refine aT σ ?_ m (.refl _ _)
    refine WC.eq (aj (f:=br) (ρ:=[(DE.sig i).v,.obj x.H.ctx,.ai]) (hT.fn _ _ rfl) rfl rfl ?_)
    exact ao 2 rfl (s_true rfl (au (dj (bK rfl m.ctx (av hT rfl) rfl) m.S.st rfl (b8 hT rfl) rfl (get_ok hT m.S i (lZ hn))) (.ret ⟨rfl,rfl⟩)))
  | .loc i,ok=>fun σ fr l s dp m hs hd n hn=>by
    obtain ⟨n,rfl⟩:∃ m,n=m+1:=⟨n - 1,cI (lZ hn)⟩
    refine aT σ ?_ m (.refl _ _)
    refine WC.eq (aj (f:=br) (ρ:=[(DE.loc i).v,.obj x.H.ctx,.ai]) (hT.fn _ _ rfl) rfl rfl ?_)
    refine ao 3 rfl (s_true rfl (au (v:=(l.get i).v) (σ':=σ) (dw (bK rfl m.ctx (av hT rfl) rfl) rfl (l:=[l.1.v,l.2.v]) ?_ ?_ ?_) (.ret ⟨rfl,rfl⟩)))
    · simp only [bk,m.fr]
    · refine f2 i ?_ ?_ <;> rfl
    · refine f2 i ?_ ?_ <;> rfl
  | .bin b p q,ok=>fun σ fr l s dp m hs hd n hn=>by
    obtain ⟨n,rfl⟩:∃ m,n=m+1:=⟨n - 1,cI (lZ hn)⟩
    have g:=(aO (l:=l) hg p ok.1 s).n
    simp only [yc4,yh4] at hs hn
    refine ay (dZ hc hg p ok.1 σ fr l s dp m (lZ hs) hd n (lZ (bM hn))) fun σ1 e1 m1 k1=>?_
    refine ay (dZ hc hg q ok.2 σ1 fr l _ dp m1 (lZ (aZ hs g)) hd n (lZ (bZ hn))) fun σ2 e2 m2 k2=>?_
    refine aT σ2 ?_ m2 (k1.trans k2)
    refine WC.eq (aj (f:=br) (ρ:=[(DE.bin b p q).v,.obj x.H.ctx,.ai]) (hT.fn _ _ rfl) rfl rfl ?_)
    cases b
    · exact ao 4 rfl (s_true rfl (au (cv (evs4 rfl (cv (bB rfl rfl) e1) (cv (bB rfl rfl) e2) rfl) (binAdd_ok hT (lZ hn))) (.ret ⟨rfl,rfl⟩)))
    · exact ao 4 rfl (s_true rfl (au (cv (evs4 rfl (cv (bB rfl rfl) e1) (cv (bB rfl rfl) e2) rfl) (binXor_ok hT (lZ hn))) (.ret ⟨rfl,rfl⟩)))
  | .ext p q,ok=>fun σ fr l s dp m hs hd n hn=>by
    obtain ⟨n,rfl⟩:∃ m,n=m+1:=⟨n - 1,cI (lZ hn)⟩
    simp only [yc6,yh6] at hs hn
    refine ay (and_ev hT (dZ hc hg p ok.1) (dZ hc hg q ok.2) (fun l s=>aO hg p ok.1 s) m hs hd (n:=n) (lZ hn)) fun σ1 e1 m1 k1=>?_
    refine aT σ1 ?_ m1 k1
    refine WC.eq (aj (f:=br) (ρ:=[(DE.ext p q).v,.obj x.H.ctx,.ai]) (hT.fn _ _ rfl) rfl rfl ?_)
    refine ao 6 rfl (s_true rfl (au (cv (evs3 (cv (bB rfl rfl) e1) rfl rfl) (ext1_ok hT ?_ (lZ hn))) (.ret ⟨rfl,rfl⟩)))
    unfold andT;split <;> (try split) <;> decide
  | .cnd p q r,ok=>fun σ fr l s dp m hs hd n hn=>by
    obtain ⟨n,rfl⟩:∃ m,n=m+2:=⟨n - 2,by simp only [yh5] at hn;exact n2Z (lZ hn)⟩
    have g:=(aO (l:=l) hg p ok.1 s).n
    simp only [yc5,yh5] at hs hn
    refine ay (dZ hc hg p ok.1 σ fr l s dp m (lZ hs) hd n (lZ (bM hn))) fun σ1 e1 m1 k1=>?_
    have hq:=dZ hc hg q ok.2.1 σ1 fr l _ dp m1 (lZ (aZ hs g)) hd n (lZ (bM (bZ hn)))
    have hr:=dZ hc hg r ok.2.2 σ1 fr l _ dp m1 (lZ (aZ hs g)) hd n (lZ (bZ (bZ hn)))
    have g2:=(aO (l:=l) hg q ok.2.1 (ev x.ah l p s).2).n
    have key:∃ σ',ab T (n+1) 64 [(DE.cnd p q r).v,.obj x.H.ctx] σ=some ((ev x.ah l (.cnd p q r) s).1.v,σ')∧MR x.fns x.H σ' fr l (ev x.ah l (.cnd p q r) s).2 dp∧Kp (XE3 x.H) σ σ':=by
      have run:∀ {σ' v},WS T (ab T n) (x_conditional.body.drop 2) [(DE.cnd p q r).v,.obj x.H.ctx,(ev x.ah l p s).1.v,iN (trP (ev x.ah l p s).1)] σ1 (bj fun v' σ2=>v'=v∧σ2=σ')→ab T (n+1) 64 [(DE.cnd p q r).v,.obj x.H.ctx] σ=some (v,σ'):=fun h=>by
        refine WC.eq (aj (f:=x_conditional) (ρ:=[(DE.cnd p q r).v,.obj x.H.ctx,.ai,.ai]) (hT.fn _ _ rfl) rfl rfl ?_)
        exact ar (.mk (cv (bB rfl rfl) e1) ⟨aa rfl,ar (.mk (cv (evs1 rfl) (tr_ok hT (lZ hn))) ⟨aa rfl,h⟩)⟩)
      rcases cV (ev x.ah l p s).1 with e | e | e
      · refine ay hr fun σ2 e2 m2 k2=>?_
        clear hr
        have q1:ev x.ah l (.cnd p q r) s=ev x.ah l r (ev x.ah l p s).2:=by simp only [yv5,e];simp
        refine ag q1 ?_
        refine aT σ2 (run ?_) m2 (k1.trans k2)
        refine ag e ?_
        exact s_false rfl (s_true rfl (au (cv (bB rfl rfl) e2) (.ret ⟨rfl,rfl⟩)))
      · refine ay hq fun σ2 e2 m2 k2=>?_
        clear hq
        have q1:ev x.ah l (.cnd p q r) s=ev x.ah l q (ev x.ah l p s).2:=by simp only [yv5,e];simp
        refine ag q1 ?_
        refine aT σ2 (run ?_) m2 (k1.trans k2)
        refine ag e ?_
        exact s_true rfl (au (cv (bB rfl rfl) e2) (.ret ⟨rfl,rfl⟩))
      · refine ay hq fun σ2 e2 m2 k2=>?_
        clear hq
        refine ay (dZ hc hg r ok.2.2 σ2 fr l _ dp m2 (lZ (aZ hs (aZ g g2))) hd n (lZ (bZ (bZ hn)))) fun σ3 e3 m3 k3=>?_
        have q1:ev x.ah l (.cnd p q r) s=(mixP (ev x.ah l q (ev x.ah l p s).2).1 (ev x.ah l r (ev x.ah l q (ev x.ah l p s).2).2).1,(ev x.ah l r (ev x.ah l q (ev x.ah l p s).2).2).2):=by simp only [yv5,e];simp
        refine ag q1 ?_
        refine aT σ3 (run ?_) m3 ((k1.trans k2).trans k3)
        have em:=e
        refine ag e ?_
        exact s_false rfl (s_false rfl (au (cv (evs3 rfl (cv (bB rfl rfl) e2) (cv (bB rfl rfl) e3)) (mix_ok hT em (lZ hn))) (.ret ⟨rfl,rfl⟩)))
    refine ay key fun σ' e' m' k'=>?_
    clear key
    refine aT σ' ?_ m' k'
    refine WC.eq (aj (f:=br) (ρ:=[(DE.cnd p q r).v,.obj x.H.ctx,.ai]) (hT.fn _ _ rfl) rfl rfl ?_)
    exact ao 10 rfl (s_true rfl (au (cv (bB rfl rfl) e') (.ret ⟨rfl,rfl⟩)))
  | .call k e,ok=>fun σ fr l s dp m hs hd n hn=>by
    obtain ⟨n,rfl⟩:∃ m,n=m+1:=⟨n - 1,cI (lZ hn)⟩
    have g:=(aO (l:=l) hg e ok.2 s).n
    simp only [yc3,yh3] at hs hn
    refine ay (dZ hc hg e ok.2 σ fr l s dp m (lZ hs) hd n (lZ (bM hn))) fun σ1 e1 m1 k1=>?_
    obtain ⟨σ2,e2,m2,k2⟩:=hc k ok.1 _ σ1 fr l _ dp m1 (lZ (aZ hs g)) (by have:=ok.1;lia) n (lZ (bZ hn))
    refine aT σ2 ?_ m2 (k1.trans k2)
    refine WC.eq (aj (f:=br) (ρ:=[(DE.call k e).v,.obj x.H.ctx,.ai]) (hT.fn _ _ rfl) rfl rfl ?_)
    exact ao 13 rfl (s_true rfl (au (dj rfl m.ctx rfl (b8 hT rfl) (bB rfl (comp1 rfl (cv (bB (aC rfl (DE.cb e)) rfl) e1))) e2) (.ret ⟨rfl,rfl⟩)))
end
end
section
open PySem
theorem fin8_all:∀ x y:Fin 8,x.val / 1 % 2=y.val / 1 % 2→x.val / 2 % 2=y.val / 2 % 2→x.val / 4 % 2=y.val / 4 % 2→x=y:=by decide +kernel
theorem fin8_bits {x y:Fin 8} (h0:x.val / 1 % 2=y.val / 1 % 2) (h1:x.val / 2 % 2=y.val / 2 % 2) (h2:x.val / 4 % 2=y.val / 4 % 2):x=y:=fin8_all x y h0 h1 h2
theorem put8_out {lo:Int} {h p:Fin 8} (q:lo≤-3∨3≤lo):put8 lo h p=h:=by
  have a:=put8_bit (lo:=lo) (h:=h) (p:=p) 0 (by decide)
  have b:=put8_bit (lo:=lo) (h:=h) (p:=p) 1 (by decide)
  have c:=put8_bit (lo:=lo) (h:=h) (p:=p) 2 (by decide)
  rw [if_neg (by omega)] at a b c
  exact fin8_bits a b c
theorem put8_in {h p:Fin 8}:put8 0 h p=p:=by
  have a:=put8_bit (lo:=0) (h:=h) (p:=p) 0 (by decide)
  have b:=put8_bit (lo:=0) (h:=h) (p:=p) 1 (by decide)
  have c:=put8_bit (lo:=0) (h:=h) (p:=p) 2 (by decide)
  rw [if_pos (by omega)] at a b c
  exact fin8_bits a b c
theorem putP_out {lo:Int} {h p:Vc} (q:lo≤-3∨3≤lo):cg lo h p=h:=by unfold cg;exact ag (put8_out q) (ag (put8_out q) rfl)
theorem putP_in {h p:Vc}:cg 0 h p=p:=by unfold cg;exact ag put8_in (ag put8_in rfl)
noncomputable def DT.kind:DT→V | .loc _=>.str 26 | _=>.str 25
noncomputable def DT.ref:DT→Nat | .loc i=>i | .sig i=>i | .pick i _ _ _ _=>i
noncomputable def DT.whr:DT→V | .pick _ e s o d=>wPick e s o d | _=>wAt
theorem DT.part_eq (t:DT):t.part=Mine.part t.kind (iN t.ref) t.whr:=by cases t <;> rfl
noncomputable def DT.lo? (ah:Cal) (l:LL) (t:DT) (s:PS):Option Int×PS:=match t with
  | .pick _ e g o d=>((toI (ev ah l e s).1 g).map fun i=>(i - (o.val:Nat))*sgn d,(ev ah l e s).2)
  | _=>(some 0,s)
noncomputable def rowsOf (kind:V) (ref:Nat):Option Int→List V
  | none=>[]
  | some lo=>if -3 < lo∧lo < 3 then [.tup [kind,iN ref,.none,.int lo,.int 3,.int 0]] else []
noncomputable def DT.ok (c:Nat):DT→Prop | .pick _ e _ _ _=>e.ok c | _=>True
noncomputable def DT.h (hc:Fin 2→Nat):DT→Nat | .pick _ e _ _ _=>e.h hc | _=>0
section
variable {T:Tab} (hT:bz bE T) {x:Sx} {c:Nat}
include hT
theorem whole_ok {e:DE} (he:EvOk T x c e) {g:Bool} {σ fr l s dp} (m:MR x.fns x.H σ fr l s dp) (hs:s.n+e.cost x.cc≤4900) (hd:dp+(c:Nat)≤21) {n:Nat} (hn:e.h x.hc+9≤n):
    ∃ σ',ab T n 61 [e.v,.bool g,.obj x.H.ctx] σ=some (dG (toI (ev x.ah l e s).1 g),σ')∧MR x.fns x.H σ' fr l (ev x.ah l e s).2 dp∧Kp (XE3 x.H) σ σ':=by
  obtain ⟨n,rfl⟩:∃ m,n=m+1:=⟨n - 1,cI (lZ hn)⟩
  refine ay (he σ fr l s dp m hs hd n (lZ hn)) fun σ1 e1 m1 k1=>?_
  refine aT σ1 ?_ m1 k1
  refine WC.eq (aj (f:=x_whole_of) (ρ:=[e.v,.bool g,.obj x.H.ctx]) (hT.fn _ _ rfl) rfl rfl ?_)
  exact au (cv (bB (cv (bB (aC rfl e.cb) rfl) e1) rfl) (int_ok hT (lZ hn))) (.ret ⟨rfl,rfl⟩)
theorem locate_ok {t:DT} (he:∀ e,(∃ i g o d,t=.pick i e g o d)→EvOk T x c e) {σ fr l s dp} (m:MR x.fns x.H σ fr l s dp) (hs:s.n+t.cost x.cc≤4900) (hd:dp+(c:Nat)≤21) {n:Nat} (hn:t.h x.hc+10≤n):
    ∃ σ',ab T n 68 [t.whr,.obj x.H.ctx] σ=some (dG (t.lo? x.ah l s).1,σ')∧MR x.fns x.H σ' fr l (t.lo? x.ah l s).2 dp∧Kp (XE3 x.H) σ σ':=by
  obtain ⟨n,rfl⟩:∃ m,n=m+1:=⟨n - 1,cI (lZ hn)⟩
  have at_:ab T (n+1) 68 [wAt,.obj x.H.ctx] σ=some (.int 0,σ):=
    WC.eq (aj (f:=x_locate) (ρ:=[wAt,.obj x.H.ctx,.ai]) (hT.fn _ _ rfl) rfl rfl (s_true rfl (au rfl (.ret ⟨rfl,rfl⟩))))
  cases t with
  | loc i=>exact ⟨σ,at_,m,.refl _ _⟩
  | sig i=>exact ⟨σ,at_,m,.refl _ _⟩
  | pick i e g o d=>
    refine ay (whole_ok hT (he e ⟨i,g,o,d,rfl⟩) (g:=g) m hs hd (n:=n) (by simp only [DT.h] at hn;exact lZ hn)) fun σ1 e1 m1 k1=>?_
    refine aT σ1 ?_ m1 k1
    refine WC.eq (aj (f:=x_locate) (ρ:=[wPick e g o d,.obj x.H.ctx,.ai]) (hT.fn _ _ rfl) rfl rfl ?_)
    refine s_false rfl (ar (.mk (cv (evs3 rfl rfl rfl) e1) ⟨aa rfl,?_⟩))
    show WS _ _ _ _ _ (bj fun v1 σ2=>v1=dG ((toI (ev x.ah l e s).1 g).map fun i=>(i - (o.val:Nat))*sgn d)∧σ2=σ1)
    cases toI (ev x.ah l e s).1 g with
    | none=>exact s_true rfl (au rfl (.ret ⟨rfl,rfl⟩))
    | some i=>
      refine s_false rfl (bI (dt (.mk rfl (.mk rfl (b_mulR ?_ (.ret ⟨rfl,rfl⟩))))))
      refine f2 d ?_ ?_ <;> rfl
theorem width_ok {t:DT} {σ fr l s dp} (m:MR x.fns x.H σ fr l s dp) {n:Nat} (hn:1≤n):ab T n 69 [t.part,.obj x.H.ctx] σ=some (.int 3,σ):=by
  obtain ⟨n,rfl⟩:∃ m,n=m+1:=⟨n - 1,cI (lZ hn)⟩
  have sg:∀ (i:Fin 4) (w:V),ab T (n+1) 69 [part (.str 25) (iN i) w,.obj x.H.ctx] σ=some (.int 3,σ):=fun i w=>by
    refine ay (m.S.sig i) fun fs h1 h2 _=>?_
    refine WC.eq (aj (f:=x_holder_width) (ρ:=[part (.str 25) (iN i) w,.obj x.H.ctx]) (hT.fn _ _ rfl) rfl rfl ?_)
    refine s_true rfl (au (bK (dw (bK (bK rfl m.ctx (av hT rfl) rfl) m.S.st (av hT rfl) rfl) rfl rfl ?_ ?_) h1 (av hT rfl) h2) (.ret ⟨rfl,rfl⟩))
    · refine f4 i ?_ ?_ ?_ ?_ <;> rfl
    · refine f4 i ?_ ?_ ?_ ?_ <;> rfl
  cases t with
  | sig i=>exact sg i _
  | pick i e g o d=>exact sg i _
  | loc i=>
    refine WC.eq (aj (f:=x_holder_width) (ρ:=[(DT.loc i).part,.obj x.H.ctx]) (hT.fn _ _ rfl) rfl rfl ?_)
    refine s_false rfl (au (dw (x:=(l.get i).v) (l:=[.int 3,iN (l.get i).a.val,iN (l.get i).b.val]) (dw (bK rfl m.ctx (av hT rfl) rfl) rfl (l:=[l.1.v,l.2.v]) ?_ ?_ ?_) rfl rfl rfl rfl) (.ret ⟨rfl,rfl⟩))
    · simp only [bk,m.fr]
    · refine f2 i ?_ ?_ <;> rfl
    · refine f2 i ?_ ?_ <;> rfl
theorem resolve_ok {t:DT} (he:∀ e,(∃ i g o d,t=.pick i e g o d)→EvOk T x c e) {σ fr l s dp} (m:MR x.fns x.H σ fr l s dp) (hs:s.n+t.cost x.cc≤4900) (hd:dp+(c:Nat)≤21) {n:Nat} (hn:t.h x.hc+11≤n):
    ∃ σ' r,ab T n 70 [t.v,.obj x.H.ctx] σ=some (.obj r,σ')∧σ'[r]?=some (.lst (rowsOf t.kind t.ref (t.lo? x.ah l s).1))∧σ.length≤r∧MR x.fns x.H σ' fr l (t.lo? x.ah l s).2 dp∧Kp (XE3 x.H) σ σ':=by
  obtain ⟨n,rfl⟩:∃ m,n=m+1:=⟨n - 1,cI (lZ hn)⟩
  have m0:=m.app [.lst []]
  refine ay (locate_ok hT he m0 hs hd (n:=n) (lZ hn)) fun σ1 e1 m1 k1=>?_
  have kk:Kp (XE3 x.H) σ σ1:=(Kp.app _ _ _).trans k1
  have hr0:σ1[σ.length]?=some (.lst []):=k1.2 _ _ (by
    intro h
    refine aq m.S.vals fun d hd' _=>?_
    refine aq m.wr fun d' hw _=>?_
    have a1:=(List.getElem?_eq_some_iff.mp m.ctx).1
    have a2:=(List.getElem?_eq_some_iff.mp hd').1
    have a3:=(List.getElem?_eq_some_iff.mp hw).1
    simp only [List.mem_cons,List.not_mem_nil,or_false] at h
    lia) bR
  have hlen:σ1.length > σ.length:=(List.getElem?_eq_some_iff.mp hr0).1
  have run:∀ {σ' rows},(WS T (ab T n) [.ite (.or [.cmp .is (.loc 12) (.none),.cmp .le (.bin .add (.loc 12) (.loc 6)) (.int 0),.cmp .ge (.loc 12) (.call 69 [.loc 4,.loc 1])]) [.cont] [],.expr (.aV (.loc 2) 0 [.tup [.loc 5,.loc 7,.loc 10,.loc 12,.loc 6,.loc 3]])]
      [t.v,.obj x.H.ctx,.obj σ.length,.int 0,t.part,t.kind,.int 3,iN t.ref,.none,t.whr,.none,.ai,dG (t.lo? x.ah l s).1] σ1 (fun f ρ σ2=>(f=.aL∨f=.cnt)∧σ2=σ'∧∃ v,ρ=[t.v,.obj x.H.ctx,.obj σ.length,.int 0,t.part,t.kind,.int 3,iN t.ref,.none,t.whr,.none,.ai,v]))→
      σ'[σ.length]?=some (.lst rows)→ab T (n+1) 70 [t.v,.obj x.H.ctx] σ=some (.obj σ.length,σ'):=fun {σ' rows} h hr=>by
    refine WC.eq (aj (f:=x_resolve_target) (ρ:=[t.v,.obj x.H.ctx,.ai,.ai,.ai,.ai,.ai,.ai,.ai,.ai,.ai,.ai,.ai]) (hT.fn _ _ rfl) rfl rfl ?_)
    refine ao 2 (ρ1:=[t.v,.obj x.H.ctx,.obj σ.length,.int 3,.ai,.ai,.ai,.ai,.ai,.ai,.ai,.ai,.ai]) (σ1:=σ++[.lst []]) rfl ?_
    refine b6 (.mk (v:=.tup [t.part]) (σ':=σ++[.lst []]) rfl ⟨rfl,?_⟩)
    refine bO rfl (aa rfl) ?_
    have pe:=t.part_eq
    refine ao 4 (ρ1:=[t.v,.obj x.H.ctx,.obj σ.length,.int 0,t.part,t.kind,.int 3,iN t.ref,.none,t.whr,.none,.ai,.ai]) (σ1:=σ++[.lst []]) ?_ ?_
    · refine ag pe ?_;rfl
    refine ar (.mk (cv (bB (aC rfl ?_) rfl) e1) ⟨aa rfl,?_⟩)
    · clear hn hd hs m he pe hlen hr0 kk m0 hr h rows σ' k1 m1 e1 σ1;cases t <;> nofun
    clear hn hd hs m he pe hlen hr0 kk m0 hr rows k1 m1 e1;obtain ⟨f,ρ2,σ2,e2,hf,rfl,v,rfl⟩:=h
    refine .mk e2 ?_
    have fin:Loop T (ab T n) (.loc 4) [.asg (.tup [5,6,7,8,9]) (.loc 4),.aug (.loc 3) .sub (.loc 6),.asg (.loc 10) (.none),.ite (.cmp .isn (.loc 8) (.none)) [.raise] [],.asg (.loc 12) (.call 68 [.loc 9,.loc 1]),.ite (.or [.cmp .is (.loc 12) (.none),.cmp .le (.bin .add (.loc 12) (.loc 6)) (.int 0),.cmp .ge (.loc 12) (.call 69 [.loc 4,.loc 1])]) [.cont] [],.expr (.aV (.loc 2) 0 [.tup [.loc 5,.loc 7,.loc 10,.loc 12,.loc 6,.loc 3]])] (.tup [t.part]) 63 1
        [t.v,.obj x.H.ctx,.obj σ.length,.int 0,t.part,t.kind,.int 3,iN t.ref,.none,t.whr,.none,.ai,v] σ2 (After (bj fun v σ'=>v=.obj σ.length∧σ'=σ2) fun ρ σ'=>WS T (ab T n) [.ret (.loc 2)] ρ σ' (bj fun v σ'=>v=.obj σ.length∧σ'=σ2)):=
      cM rfl (.aL (au rfl (.ret ⟨rfl,rfl⟩)))
    clear e2 σ1;rcases hf with rfl | rfl
    · exact .aL fin
    · exact .cnt fin
  have ne3:∀ a∈XE3 x.H,a≠σ.length:=by
    intro a ha
    refine aq m.S.vals fun d hd' _=>?_
    refine aq m.wr fun d' hw _=>?_
    have a1:=(List.getElem?_eq_some_iff.mp m.ctx).1
    have a2:=(List.getElem?_eq_some_iff.mp hd').1
    have a3:=(List.getElem?_eq_some_iff.mp hw).1
    simp only [List.mem_cons,List.not_mem_nil,or_false] at ha
    lia
  clear hd hs he ne3 hlen m0 k1 e1;obtain ⟨kd,hkd⟩:∃ kd,t.kind=.str kd:=by cases t <;> exact ⟨_,rfl⟩
  have hpe:t.part≠.ai:=by cases t <;> nofun
  by_cases q:∃ lo,(t.lo? x.ah l s).1=some lo∧-3 < lo∧lo < 3
  · refine ay q fun lo e q1 q2=>?_
    clear q
    have hm:MR x.fns x.H (σ1.set σ.length (.lst [.tup [t.kind,iN t.ref,.none,.int lo,.int 3,.int 0]])) fr l (t.lo? x.ah l s).2 dp:=by
      have ne:∀ {a:Nat} {o:AO},σ[a]?=some o→a∉[σ.length]:=fun {a o} h=>by
        have:=(List.getElem?_eq_some_iff.mp h).1
        simp only [List.mem_singleton];exact Nat.ne_of_lt (lZ this)
      refine aq m.S.vals fun d hd' _=>?_
      refine aq m.wr fun d' hw _=>?_
      refine aq m.ds fun fs hds _=>?_
      exact m1.kp (X:=[σ.length]) (.set (.head _) _) (ne m.S.st) (fun i=>by clear hn hpe run hr0 kk hkd kd n q2 q1;obtain ⟨fs,h,_⟩:=m.S.sig i;exact ne h) (ne hd') (ne m.ctx) (ne hds) (fun i=>by clear hn hpe run hr0 kk hkd kd n hds q2 q1 hd';obtain ⟨fs,h,_⟩:=m.th i;exact ne h) (ne hw) (aK (fun e=>ne m.fr (by simp [e])) m1.fr)
    refine I2A5 _ σ.length (run (rows:=[.tup [t.kind,iN t.ref,.none,.int lo,.int 3,.int 0]]) ?_ (get_set hr0)) ?_ (Nat.le_refl _) hm ⟨by simpa using kk.1,fun n o hn ho=>aK (fun e=>by have:=(List.getElem?_eq_some_iff.mp ho).1;lia) (kk.2 n o hn ho)⟩
    · refine ag e (ag hkd ?_)
      have w1:decide (lo+3≤0)=false:=by simp;lia
      have w2:decide ((3:Int)≤lo)=false:=by simp;lia
      refine s_ite (w_or<|w_or2<|.mk rfl<|.mk rfl<|ct rfl<|w_or2<|.mk rfl<|.mk (w:=false) (by show some (decide (lo+3≤0))=_;exact ag w1 rfl)<|ct rfl<|w_or1<|bT<|.mk rfl<|.mk (cv (bB (aC rfl hpe) rfl) (width_ok hT m1 (lZ hn)))<|.mk rfl<|.mk (w:=false) (by show some (decide ((3:Int)≤lo))=_;exact ag w2 rfl)<|ct rfl ?_)
      exact bH (.mk (mv_app rfl hr0 rfl hr0 (aa rfl)) ⟨.inl rfl,aU ⟨.inl rfl,rfl,_,rfl⟩⟩)
    · refine ag (get_set hr0) (ag e ?_)
      simp only [rowsOf,q1,q2,and_self,if_true]
  · refine I2A5 σ1 σ.length (run (rows:=[]) ?_ hr0) ?_ (Nat.le_refl _) m1 kk
    · clear m run hr0 kk hkd kd;cases e:(t.lo? x.ah l s).1 with
      | none=>exact s_true rfl (s_cont ⟨.inr rfl,rfl,_,rfl⟩)
      | some lo=>
        have q':lo≤-3∨3≤lo:=by
          rw [e] at q
          by_cases h1:lo≤-3
          · exact .inl h1
          · by_cases h2:3≤lo
            · exact .inr h2
            · exact absurd ⟨lo,rfl,by lia,by lia⟩ q
        by_cases q3:lo≤-3
        · have w1:decide (lo+3≤0)=true:=by simp;lia
          exact s_ite (w_or<|w_or2<|.mk rfl<|.mk rfl<|ct rfl<|w_or2<|.mk rfl<|.mk (w:=true) (by show some (decide (lo+3≤0))=_;exact ag w1 rfl)<|and_t rfl<|.mk (w:=true) (by show some (decide (lo+3≤0))=_;exact ag w1 rfl)<|and_t rfl<|s_cont ⟨.inr rfl,rfl,_,rfl⟩)
        · have w1:decide (lo+3≤0)=false:=by simp;lia
          have w2:decide ((3:Int)≤lo)=true:=by simp;lia
          exact s_ite (w_or<|w_or2<|.mk rfl<|.mk rfl<|ct rfl<|w_or2<|.mk rfl<|.mk (w:=false) (by show some (decide (lo+3≤0))=_;exact ag w1 rfl)<|ct rfl<|w_or1<|bT<|.mk rfl<|.mk (cv (bB (aC rfl hpe) rfl) (width_ok hT m1 (lZ hn)))<|.mk rfl<|.mk (w:=true) (by show some (decide ((3:Int)≤lo))=_;exact ag w2 rfl)<|and_t rfl<|s_cont ⟨.inr rfl,rfl,_,rfl⟩)
    · refine ag hr0 ?_
      clear m hpe run hr0 kk hkd kd hn n m1 σ1;cases e:(t.lo? x.ah l s).1 with
      | none=>rfl
      | some lo=>simp only [rowsOf];exact ag (if_neg (fun h=>q (aI lo e h))) rfl
end
end
section
open PySem
noncomputable abbrev XS4 (H:Hd) (fr:Nat):List Nat:=[H.ctx,H.vals,H.wr,fr]
theorem tag_ne {c:Nat} (hc:c≠5):Nat.beq (c+2) 7=false:=by
  cases q:Nat.beq (c+2) 7 with
  | false=>rfl
  | true=>exact absurd (Nat.succ.inj (Nat.succ.inj (Nat.eq_of_beq_eq_true q))) hc
theorem MR.off {fns H σ fr l s dp} (m:MR fns H σ fr l s dp):H.st∉XS4 H fr∧(∀ i,H.g i∉XS4 H fr)∧H.ds∉XS4 H fr∧(∀ i,H.t i∉XS4 H fr)∧fr∉XE3 H∧H.ctx≠H.vals∧H.ctx≠H.wr:=by
  refine aq m.S.vals fun d hd _=>?_
  refine aq m.wr fun d' hw _=>?_
  refine aq m.ds fun fs hds _=>?_
  have key:∀ {a:Nat} {c:Nat} {fs:List (Nat×V)},σ[a]?=some (.inst c fs)→c≠5→a∉XS4 H fr:=fun {a c fs} h hc=>by
    simp only [List.mem_cons,List.not_mem_nil,or_false,not_or]
    exact ⟨cy h m.ctx (tag_ne hc),cy h hd rfl,cy h hw rfl,cy h m.fr rfl⟩
  refine ⟨key m.S.st (by decide),fun i=>?_,key hds (by decide),fun i=>?_,?_,cy m.ctx hd rfl,cy m.ctx hw rfl⟩
  · refine aq (m.S.sig i) fun fs h _=>?_
    exact key h (by decide)
  · refine aq (m.th i) fun fs h _=>?_
    exact key h (by decide)
  · simp only [List.mem_cons,List.not_mem_nil,or_false,not_or]
    exact ⟨cy m.fr m.ctx rfl,cy m.fr hd rfl,cy m.fr hw rfl⟩
section
variable {T:Tab} (hT:bz bE T) {x:Sx} {σ:St} {fr:Nat} {l:LL} {s:PS} {dp:Int}
include hT
theorem rows_nil {r:Nat} (hr:σ[r]?=some (.lst [])) (v:V) (c:V) {n:Nat} (hn:1≤n):ab T n 71 [.obj r,v,c] σ=some (.lst [],σ++[AO.cN []]):=by
  obtain ⟨n,rfl⟩:∃ m,n=m+1:=⟨n - 1,cI (lZ hn)⟩
  refine WC.eq (aj (f:=x_store_rows) (ρ:=[.obj r,v,c,.ai,.ai,.ai,.ai,.ai,.ai,.ai,.ai]) (hT.fn _ _ rfl) rfl rfl ?_)
  have hr':(σ++[AO.cN []])[r]?=some (.lst []):=aB hr
  have hn0:∀ i,a9 (.obj r) i (σ++[AO.cN []])=some .none:=fun i=>by simp only [a9,hr',List.getElem?_nil]
  refine ao 1 rfl (b6 (.mk (v:=.obj r) (σ':=σ++[AO.cN []]) rfl ⟨by simp only [cP,hn0];rfl,cM (hn0 0) (.aL (bI (w_blt (af (.mk rfl (aP (.mk (v:=.lst []) (σ':=σ++[AO.cN []]) ?_ (.ret ⟨rfl,rfl⟩))))))))⟩))
  simp only [bltV,v1,onO,sortB,List.isEmpty,if_true,bR];rfl
theorem rows_sig {r:Nat} (m:MR x.fns x.H σ fr l s dp) (i:Fin 4) {lo:Int} (h0:-2≤lo) (h1:lo≤2) (hr:σ[r]?=some (.lst [.tup [.str 25,iN i,.none,.int lo,.int 3,.int 0]])) (v:Vc) {n:Nat} (hn:5≤n):
    ∃ σ',ab T n 71 [.obj r,v.v,.obj x.H.ctx] σ=some (.lst (if cg lo (s.sg i) v=s.sg i then [] else [iN i]),σ')∧SR x.H σ' (s.put i (cg lo (s.sg i) v)).sg∧Kp [x.H.vals] σ σ':=by
  obtain ⟨n,rfl⟩:∃ m,n=m+1:=⟨n - 1,cI (lZ hn)⟩
  have m1:=m.app [AO.cN []]
  refine ay (setb_ok hT m1.S i v h0 h1 (n:=n) (lZ hn)) fun σ1 e1 S1 k1=>?_
  refine aq m.S.vals fun d hd zz=>?_
  have nr:r≠x.H.vals:=cy hr hd rfl
  have nD:σ.length≠x.H.vals:=fun e=>by have:=(List.getElem?_eq_some_iff.mp hd).1;lia
  have hr1:σ1[r]?=some (.lst [.tup [.str 25,iN i,.none,.int lo,.int 3,.int 0]]):=k1.2 _ _ (by simpa using nr) (aB hr)
  have hD1:σ1[σ.length]?=some (.cN []):=k1.2 _ _ (by simpa using nD) bR
  have n0:∀ {τ:St},τ[r]?=some (.lst [.tup [.str 25,iN i,.none,.int lo,.int 3,.int 0]])→a9 (.obj r) 0 τ=some (some (.tup [.str 25,iN i,.none,.int lo,.int 3,.int 0])):=fun h=>by simp only [a9,h];rfl
  have nE:∀ {τ:St},τ[r]?=some (.lst [.tup [.str 25,iN i,.none,.int lo,.int 3,.int 0]])→a9 (.obj r) 1 τ=some .none:=fun h=>by simp only [a9,h];rfl
  have run:∀ {σ':St} {L:List V} {b:Bool} {d:List (Int×V)},b=(!decide (cg lo (s.sg i) v=s.sg i))→σ'[r]?=some (.lst [.tup [.str 25,iN i,.none,.int lo,.int 3,.int 0]])→σ'[σ.length]?=some (.cN d)→d.length < 60→(sortI (d.map (·.1))).map V.int=L→(b=false→σ'=σ1)→(b=true→σ'=σ1.set σ.length (.cN (putD (i.val:Nat) (.bool true) [])))→
      ab T (n+1) 71 [.obj r,v.v,.obj x.H.ctx] σ=some (.lst L,σ'):=fun {σ' L b d} hb q1 q2 q3 q4 q5 q6=>by
    refine WC.eq (aj (f:=x_store_rows) (ρ:=[.obj r,v.v,.obj x.H.ctx,.ai,.ai,.ai,.ai,.ai,.ai,.ai,.ai]) (hT.fn _ _ rfl) rfl rfl ?_)
    refine ao 1 rfl (b6 (.mk (v:=.obj r) (σ':=σ++[AO.cN []]) rfl ⟨by simp only [cP,n0 (aB hr)];rfl,?_⟩))
    refine bQ (n0 (aB hr)) ⟨rfl,rfl⟩ ?_
    refine ar (.mk (cv (evs3 rfl rfl rfl) (slice3_ok hT (lZ hn))) ⟨aa rfl,?_⟩)
    have fin:∀ ρ,ρ[3]?=some (V.obj σ.length)→(After (bj fun v1 σ2=>v1=.lst L∧σ2=σ') fun ρ σ2=>WS T (ab T n) [.ret (.blt .sorted [.loc 3])] ρ σ2 (bj fun v1 σ2=>v1=.lst L∧σ2=σ')) .aL ρ σ':=fun ρ hρ=>by
      refine .aL (bI (w_blt (af (.mk (aC hρ (nU rfl)) (aP (.mk (v:=.lst L) (σ':=σ') ?_ (.ret ⟨rfl,rfl⟩)))))))
      simp only [bltV,v1,onO,sortB,List.isEmpty,if_true,q2,q3,if_true,q4]
    refine s_true rfl (s_bool (c:=b) (σ':=σ1) ?_ (fun q=>?_) (fun q=>?_))
    · refine ag hb ?_;exact dj (bK rfl m1.ctx (av hT rfl) rfl) m1.S.st rfl (b8 hT rfl) rfl e1
    · refine ag (q6 q) ?_
      refine dE (.mk rfl (.mk rfl (.mk rfl (p_dct hD1 (aa rfl) (aU (.aL ?_))))))
      refine cw (q6 q) ?_
      exact cM (nE q1) (fin _ rfl)
    · refine aU (.aL ?_)
      refine cw (q5 q) ?_
      exact cM (nE q1) (fin _ rfl)
  have kk:Kp [x.H.vals] σ σ1:=(Kp.app _ _ _).trans k1
  by_cases q:cg lo (s.sg i) v=s.sg i
  · refine aT σ1 (run (b:=false) (d:=[]) (by simp [q]) hr1 hD1 (aa rfl) (by refine ag (if_pos q) ?_;rfl) (fun zz=>rfl) nofun) S1 kk
  · have nrD:r≠σ.length:=fun e=>by have:=(List.getElem?_eq_some_iff.mp hr).1;lia
    refine aT (σ1.set σ.length (.cN (putD (i.val:Nat) (.bool true) []))) (run (b:=true) (d:=putD (i.val:Nat) (.bool true) []) (by simp [q]) (aK nrD.symm hr1) (get_set hD1) (aa rfl) (by refine ag (if_neg q) ?_;rfl) nofun (fun zz=>rfl)) ?_ ⟨by simpa using kk.1,fun a o ha ho=>aK (fun e=>by have:=(List.getElem?_eq_some_iff.mp ho).1;lia) (kk.2 a o ha ho)⟩
    have off:∀ {a:Nat} {o:AO},σ[a]?=some o→a∉[σ.length]:=fun {a o} h=>by
      have:=(List.getElem?_eq_some_iff.mp h).1
      simp only [List.mem_singleton];exact Nat.ne_of_lt (lZ this)
    exact S1.kp (X:=[σ.length]) (.set (.head _) _) (off m.S.st) (fun j=>by obtain ⟨fs,h,_⟩:=m.S.sig j;exact off h) (off hd)
theorem rows_loc {r:Nat} (m:MR x.fns x.H σ fr l s dp) (i:Fin 2) (hr:σ[r]?=some (.lst [.tup [.str 26,iN i,.none,.int 0,.int 3,.int 0]])) (hrf:r≠fr) (v:Vc) {n:Nat} (hn:4≤n):
    ∃ σ',ab T n 71 [.obj r,v.v,.obj x.H.ctx] σ=some (.lst [],σ')∧MR x.fns x.H σ' fr (l.set i v) s dp∧Kp [fr] σ σ':=by
  obtain ⟨n,rfl⟩:∃ m,n=m+1:=⟨n - 1,cI (lZ hn)⟩
  have m1:=m.app [AO.cN []]
  have n0:a9 (.obj r) 0 (σ++[AO.cN []])=some (some (.tup [.str 26,iN i,.none,.int 0,.int 3,.int 0])):=by simp only [a9,aB (τ:=[AO.cN []]) hr];rfl
  have off:=m1.off
  have hset:([l.1.v,l.2.v]:List V).set (i.val:Int).toNat v.v=[(l.set i v).1.v,(l.set i v).2.v]:=by refine f2 i ?_ ?_ <;> rfl
  have kk:Kp [fr] (σ++[AO.cN []]) ((σ++[AO.cN []]).set fr (.lst [(l.set i v).1.v,(l.set i v).2.v])):=.set List.mem_cons_self _
  have o1:∀ {a:Nat},a∉XS4 x.H fr→a∉[fr]:=fun h=>by simp only [List.mem_cons,List.not_mem_nil,or_false,not_or] at *;exact h.2.2.2
  have fr3:=off.2.2.2.2.1
  simp only [List.mem_cons,List.not_mem_nil,or_false,not_or] at fr3
  refine aT ((σ++[AO.cN []]).set fr (.lst [(l.set i v).1.v,(l.set i v).2.v])) ?_ (m1.kp kk (o1 off.1) (fun i=>o1 (off.2.1 i)) (by simpa using Ne.symm fr3.2.1) (by simpa using Ne.symm fr3.1) (o1 off.2.2.1) (fun i=>o1 (off.2.2.2.1 i)) (by simpa using Ne.symm fr3.2.2) (get_set m1.fr)) ((Kp.app _ _ _).trans kk)
  refine WC.eq (aj (f:=x_store_rows) (ρ:=[.obj r,v.v,.obj x.H.ctx,.ai,.ai,.ai,.ai,.ai,.ai,.ai,.ai]) (hT.fn _ _ rfl) rfl rfl ?_)
  refine ao 1 rfl (b6 (.mk (v:=.obj r) (σ':=σ++[AO.cN []]) rfl ⟨by simp only [cP,n0];rfl,?_⟩))
  refine bQ n0 ⟨rfl,rfl⟩ ?_
  refine ar (.mk (cv (evs3 rfl rfl rfl) (slice3_ok hT (lZ hn))) ⟨aa rfl,s_false rfl ?_⟩)
  have old:ae T (ab T n) (.idx (.attr (.loc 2) 4) (.loc 5)) [.obj r,v.v,.obj x.H.ctx,.obj σ.length,.str 26,iN i,.none,.int 0,.int 3,.int 0,v.v] (σ++[AO.cN []])=some ((l.get i).v,σ++[AO.cN []]):=by
    refine dw (bK rfl m1.ctx (av hT rfl) rfl) rfl (l:=[l.1.v,l.2.v]) ?_ ?_ ?_
    · simp only [bk,m1.fr]
    · refine f2 i ?_ ?_ <;> rfl
    · refine f2 i ?_ ?_ <;> rfl
  refine dE (.mk (cv (evs3 old rfl rfl) (put_ok hT (by decide) (by decide) (lZ hn))) (.mk (bK rfl m1.ctx (av hT rfl) rfl) (.mk rfl (p_lst m1.fr (by omega) (by simp;omega) (aa rfl) (aU (.aL ?_))))))
  refine ag putP_in (ag hset ?_)
  have nE:a9 (.obj r) 1 ((σ++[AO.cN []]).set fr (.lst [(l.set i v).1.v,(l.set i v).2.v]))=some .none:=by
    simp only [a9,aK (Ne.symm hrf) (aB (τ:=[AO.cN []]) hr)];rfl
  refine cM nE (.aL (bI (w_blt (af (.mk rfl (aP (.mk (v:=.lst []) ?_ (.ret ⟨rfl,rfl⟩))))))))
  have hD:((σ++[AO.cN []]).set fr (.lst [(l.set i v).1.v,(l.set i v).2.v]))[σ.length]?=some (.cN []):=aK (fun e=>by have:=(List.getElem?_eq_some_iff.mp m.fr).1;omega) bR
  simp only [bltV,v1,onO,sortB,List.isEmpty,if_true,hD];rfl
end
end
section
open PySem
theorem mr_same {fns H σ σ' fr l s dp} (m:MR fns H σ fr l s dp) (k:Kp [H.vals] σ σ') {sg:Fin 4→Vc} (S:SR H σ' sg):MR fns H σ' fr l ⟨sg,s.log,s.n⟩ dp:=by
  refine E0A7 m.off fun o1 o2 o3 o4 o5 o6 o7=>?_
  refine aq m.ds fun fs h r=>?_
  refine ay m.wr fun d hd hk hl=>?_
  simp only [List.mem_cons,List.not_mem_nil,or_false,not_or] at o3 o5
  refine ⟨S,k.2 _ _ (by simpa using o6) m.ctx,⟨fs,k.2 _ _ (by simpa using o3.2.1) h,r⟩,fun i=>?_,k.2 _ _ (by simpa using o5.2.1) m.fr,⟨d,k.2 _ _ (by simpa using Ne.symm m.ne) hd,hk,hl⟩,m.ne⟩
  refine aq (m.th i) fun fs h r=>?_
  have:=o4 i
  simp only [List.mem_cons,List.not_mem_nil,or_false,not_or] at this
  exact aI fs (k.2 _ _ (by simpa using this.2.1) h) r
theorem mr_wr {fns H σ fr l sg log n dp} (m:MR fns H σ fr l ⟨sg,log,n⟩ dp) (i:Fin 4):∃ d,σ[H.wr]?=some (.cN d)∧d.length < 60∧MR fns H (σ.set H.wr (.cN (putD (i.val:Nat) (.bool true) d))) fr l ⟨sg,log++[i.val],n⟩ dp:=by
  refine ay m.wr fun d hd hk hl=>?_
  refine E0A7 m.off fun o1 o2 o3 o4 o5 o6 o7=>?_
  refine aT d hd (by have:=hk.len;exact lZ this) ?_
  have k:Kp [H.wr] σ (σ.set H.wr (.cN (putD (i.val:Nat) (.bool true) d))):=.set List.mem_cons_self _
  have w1:∀ {a:Nat},a∉XS4 H fr→a∉[H.wr]:=fun h=>by simp only [List.mem_cons,List.not_mem_nil,or_false,not_or] at *;exact h.2.2.1
  simp only [List.mem_cons,List.not_mem_nil,or_false,not_or] at o5
  refine aq m.ds fun fs h r=>?_
  refine ⟨m.S.kp k (w1 o1) (fun i=>w1 (o2 i)) (by simpa using m.ne),k.2 _ _ (by simpa using o7) m.ctx,⟨fs,k.2 _ _ (w1 o3) h,r⟩,fun i=>?_,k.2 _ _ (by simpa using o5.2.2) m.fr,⟨_,get_set hd,hk.put (by omega) (by omega) _,fun k=>?_⟩,m.ne⟩
  · refine aq (m.th i) fun fs h r=>?_
    exact aI fs (k.2 _ _ (w1 (o4 i)) h) r
  · rw [mem_putD,hl k]
    simp only [List.mem_append,List.mem_singleton]
    constructor
    · rintro (h | h)
      · exact .inl h
      · exact .inr (by omega)
    · rintro (h | h)
      · exact .inl h
      · exact .inr (by omega)
noncomputable def exSet' (ah:Cal) (l:LL) (t:DT) (e:DE) (s:PS):LL×PS:=
  let r:=ev ah l e s
  match t with
  | .loc i=>(l.set i r.1,r.2)
  | .sig i=>(l,r.2.put i r.1)
  | .pick i x g o d=>
    let q:=ev ah l x r.2
    (l,q.2.put i (cg (loP (toI q.1 g) o d) (q.2.sg i) r.1))
theorem PS.put_same {s:PS} {i:Fin 4} {v:Vc} (h:v=s.sg i):s.put i v=s:=by unfold PS.put;exact ag (if_pos h) rfl
section
variable {T:Tab} (hT:bz bE T) {x:Sx} {c:Nat}
include hT
theorem set_ok (bw:CalOk T x c) (hg:bL x.cc c x.ah) {t:DT} {e:DE} (ht:t.ok c) (he:e.ok c) {σ fr l s dp} (m:MR x.fns x.H σ fr l s dp) (hs:s.n+(e.cost x.cc+t.cost x.cc)≤4900) (hd:dp+(c:Nat)≤21) {n:Nat} (hn:max (e.h x.hc) (t.h x.hc)+12≤n):
    ∃ σ',ab T n 86 [setV t.v e.v,.obj x.H.ctx] σ=some (.none,σ')∧MR x.fns x.H σ' fr (exSet' x.ah l t e s).1 (exSet' x.ah l t e s).2 dp∧Kp (XS4 x.H fr) σ σ':=by
  obtain ⟨n,rfl⟩:∃ m,n=m+1:=⟨n - 1,cI (lZ hn)⟩
  have g:=(aO (l:=l) hg e he s).n
  refine ay (dZ hT bw hg e he σ fr l s dp m (lZ hs) hd n (lZ (xLlZ hn))) fun σ1 e1 m1 k1=>?_
  refine E2A5 (resolve_ok hT (t:=t) (c:=c) (fun e' ⟨i,g,o,d,q⟩=>by clear m he;subst q;exact dZ hT bw hg e' ht) m1 (lZ (aZ hs g)) hd (n:=n) (lZ (xLrZ hn))) fun σ2 r e2 hr hlr m2 k2=>?_
  have k12:Kp (XS4 x.H fr) σ σ2:=(k1.trans k2).mono fun n h=>by simp only [List.mem_cons,List.not_mem_nil,or_false] at *;clear hd hs m he ht hg bw k2 hlr k1;rcases h with h | h | h <;> simp [h]
  have hrfr:r≠fr:=fun e=>by have:=(List.getElem?_eq_some_iff.mp m1.fr).1;lia
  have run0:∀ {σ3:St},ab T n 71 [.obj r,(ev x.ah l e s).1.v,.obj x.H.ctx] σ2=some (.lst [],σ3)→ab T (n+1) 86 [setV t.v e.v,.obj x.H.ctx] σ=some (.none,σ3):=fun {σ3} e3=>by
    refine WC.eq (aj (f:=x_run_set) (ρ:=[setV t.v e.v,.obj x.H.ctx,.ai,.ai]) (hT.fn _ _ rfl) rfl rfl ?_)
    refine ao 1 rfl (ar (.mk (cv (bB rfl rfl) e1) ⟨aa rfl,?_⟩))
    exact b6 (.mk (cv (evs3 (cv (bB rfl rfl) e2) rfl rfl) e3) ⟨rfl,cM rfl (.aL (au rfl (.ret ⟨rfl,rfl⟩)))⟩)
  have run1:∀ {σ3:St} {i:Fin 4} {d:List (Int×V)} {cf:List (Nat×V)},ab T n 71 [.obj r,(ev x.ah l e s).1.v,.obj x.H.ctx] σ2=some (.lst [iN i],σ3)→σ3[x.H.ctx]?=some (.inst 5 cf)→cn 17 cf=some (.obj x.H.wr)→σ3[x.H.wr]?=some (.cN d)→d.length < 60→
      ab T (n+1) 86 [setV t.v e.v,.obj x.H.ctx] σ=some (.none,σ3.set x.H.wr (.cN (putD (i.val:Nat) (.bool true) d))):=fun {σ3 i d cf} e3 hc hcf hw hl=>by
    refine WC.eq (aj (f:=x_run_set) (ρ:=[setV t.v e.v,.obj x.H.ctx,.ai,.ai]) (hT.fn _ _ rfl) rfl rfl ?_)
    refine ao 1 rfl (ar (.mk (cv (bB rfl rfl) e1) ⟨aa rfl,?_⟩))
    refine b6 (.mk (cv (evs3 (cv (bB rfl rfl) e2) rfl rfl) e3) ⟨rfl,bO rfl (aa rfl) ?_⟩)
    exact dE (.mk rfl (.mk (bK rfl hc (av hT rfl) hcf) (.mk rfl (p_dct hw hl (aU (.aL (cM rfl (.aL (au rfl (.ret ⟨rfl,rfl⟩))))))))))
  have sig:∀ (i:Fin 4) (lo:Int),t.kind=.str 25→t.ref=i.val→(t.lo? x.ah l (ev x.ah l e s).2).1=some lo→-3 < lo→lo < 3→
      ∃ σ',ab T (n+1) 86 [setV t.v e.v,.obj x.H.ctx] σ=some (.none,σ')∧MR x.fns x.H σ' fr l ((t.lo? x.ah l (ev x.ah l e s).2).2.put i (cg lo ((t.lo? x.ah l (ev x.ah l e s).2).2.sg i) (ev x.ah l e s).1)) dp∧Kp (XS4 x.H fr) σ σ':=fun i lo hk href hlo q1 q2=>by
    rw [hk,href,hlo] at hr
    simp only [rowsOf,q1,q2,and_self,if_true] at hr
    refine ay (rows_sig hT m2 i (by lia) (by lia) hr (ev x.ah l e s).1 (n:=n) (lZ hn)) fun σ3 e3 S3 k3=>?_
    have m3:=mr_same m2 k3 S3
    have k3':Kp (XS4 x.H fr) σ2 σ3:=k3.mono fun n h=>by simp only [List.mem_singleton] at h;simp [h]
    by_cases q:cg lo ((t.lo? x.ah l (ev x.ah l e s).2).2.sg i) (ev x.ah l e s).1=(t.lo? x.ah l (ev x.ah l e s).2).2.sg i
    · rw [if_pos q] at e3
      refine ⟨σ3,run0 e3,?_,k12.trans k3'⟩
      rw [PS.put_same q] at m3 ⊢
      exact m3
    · rw [if_neg q] at e3
      refine ay (mr_wr m3 i) fun d hw hl m4=>?_
      refine ⟨_,run1 e3 m3.ctx rfl hw hl,?_,(k12.trans k3').trans (.set (by simp) _)⟩
      unfold PS.put at m4 ⊢
      rw [if_neg q] at m4 ⊢
      exact m4
  clear hd hs m he ht hg bw run1 k2 hlr e2 k1 m1 e1 σ1;cases t with
  | loc i=>
    refine ay (rows_loc hT m2 i hr hrfr (ev x.ah l e s).1 (n:=n) (lZ hn)) fun σ3 e3 m3 k3=>?_
    exact ⟨σ3,run0 e3,m3,k12.trans (k3.mono fun n h=>by simp only [List.mem_singleton] at h;simp [h])⟩
  | sig i=>
    refine ay (sig i 0 rfl rfl rfl (by decide) (by decide)) fun σ' a b d=>?_
    rw [putP_in] at b
    exact ⟨σ',a,b,d⟩
  | pick i y g o d=>
    show ∃ σ',ab T (n+1) 86 [setV (DT.pick i y g o d).v e.v,.obj x.H.ctx] σ=some (.none,σ')∧MR x.fns x.H σ' fr l ((ev x.ah l y (ev x.ah l e s).2).2.put i (cg (loP (toI (ev x.ah l y (ev x.ah l e s).2).1 g) o d) ((ev x.ah l y (ev x.ah l e s).2).2.sg i) (ev x.ah l e s).1)) dp∧Kp (XS4 x.H fr) σ σ'
    have out:∀ lo,(lo≤-3∨3≤lo)→σ2[r]?=some (.lst [])→∃ σ',ab T (n+1) 86 [setV (DT.pick i y g o d).v e.v,.obj x.H.ctx] σ=some (.none,σ')∧MR x.fns x.H σ' fr l ((ev x.ah l y (ev x.ah l e s).2).2.put i (cg lo ((ev x.ah l y (ev x.ah l e s).2).2.sg i) (ev x.ah l e s).1)) dp∧Kp (XS4 x.H fr) σ σ':=fun lo q hr=>by
      refine ⟨_,run0 (rows_nil hT hr _ _ (lZ hn)),?_,k12.trans (.app _ _ _)⟩
      refine ag (PS.put_same (putP_out q)) ?_
      exact m2.app _
    clear hn run0 hrfr k12 m2;cases hq:toI (ev x.ah l y (ev x.ah l e s).2).1 g with
    | none=>
      refine out 9 (.inr (by decide)) ?_
      refine ag hr ?_
      simp only [DT.lo?,hq,Option.map,rowsOf]
    | some j=>
      have hlo:((DT.pick i y g o d).lo? x.ah l (ev x.ah l e s).2).1=some (loP (some j) o d):=by simp only [DT.lo?,hq,Option.map,loP]
      by_cases q:-3 < loP (some j) o d∧loP (some j) o d < 3
      · exact sig i _ rfl rfl hlo q.1 q.2
      · refine out _ (by lia) ?_
        refine ag hr (ag hlo ?_)
        simp only [rowsOf,q,if_false]
end
end
section
open PySem
noncomputable def DC.ok (c:Nat):DC→Prop | .ex e=>e.ok c | .an a b=>a.ok c∧b.ok c | .lt _=>True
noncomputable def DC.h (hc:Fin 2→Nat):DC→Nat | .ex e=>e.h hc | .an a b=>max (a.h hc) (b.h hc) | .lt _=>0
noncomputable def DC.fits (l:LL):DC→Prop | .lt _=>l.2.b=0 | _=>True
theorem evC_gd {cc:Fin 2→Nat} {c:Nat} {ah:Cal} (hc:bL cc c ah) {l:LL}:∀ (e:DC),e.ok c→∀ s,Gd (e.cost cc) s (evC ah l e s).2
  | .ex e,ok,s=>aO hc e ok s
  | .an a b,ok,s=>(aO hc a ok.1 s).trans (aO hc b ok.2 _)
  | .lt _,_,s=>.refl _ _
theorem andT_lt (s t:Nat):andT s t < 4:=by unfold andT;split <;> (try split) <;> decide
theorem andT_ne2 (s t:Nat):andT s t≠2:=by unfold andT;split <;> (try split) <;> decide
section
variable {T:Tab} (hT:bz bE T) {x:Sx} {c:Nat}
include hT
theorem is_true_of {e:V} {σ σ':St} {v:V} {k:Nat} {n:Nat} (he:e≠.ai) (h:ab T n 67 [e,.obj x.H.ctx] σ=some (v,σ')) (ht:ab T n 17 [v] σ'=some (iN k,σ')):ab T (n+1) 84 [.obj x.H.ctx,e] σ=some (.bool (decide (k=1)),σ'):=by
  refine WC.eq (aj (f:=cY) (ρ:=[.obj x.H.ctx,e]) (hT.fn _ _ rfl) rfl rfl ?_)
  refine bI (bT (.mk (cv (evs1 (cv (bB (aC rfl he) rfl) h)) ht) (.mk rfl (.mk rfl (.ret ⟨?_,rfl⟩)))))
  have:((k:Int) ==1)=decide (k=1):=by
    rw [Bool.eq_iff_iff];simp;lia
  exact ag this rfl
theorem cond_ok (bw:CalOk T x c) (hg:bL x.cc c x.ah) {e:DC} (ok:e.ok c) {σ fr l s dp} (fit:e.fits l) (m:MR x.fns x.H σ fr l s dp) (hs:s.n+e.cost x.cc≤4900) (hd:dp+(c:Nat)≤21) {n:Nat} (hn:e.h x.hc+10≤n):
    ∃ σ',ab T n 84 [.obj x.H.ctx,e.v] σ=some (.bool (decide ((evC x.ah l e s).1=1)),σ')∧MR x.fns x.H σ' fr l (evC x.ah l e s).2 dp∧Kp (XE3 x.H) σ σ':=by
  obtain ⟨n,rfl⟩:∃ m,n=m+1:=⟨n - 1,cI (lZ hn)⟩
  cases e with
  | ex e=>
    refine ay (dZ hT bw hg e ok σ fr l s dp m hs hd n (by simp only [DC.h] at hn;exact lZ hn)) fun σ1 e1 m1 k1=>?_
    exact ⟨σ1,is_true_of hT e.cb e1 (tr_ok hT (lZ hn)),m1,k1⟩
  | an a b=>
    refine ay (and_ev hT (dZ hT bw hg a ok.1) (dZ hT bw hg b ok.2) (fun l s=>aO hg a ok.1 s) m hs hd (n:=n) (by simp only [DC.h] at hn;exact lZ hn)) fun σ1 e1 m1 k1=>?_
    refine aT σ1 (is_true_of hT nofun e1 ?_) m1 k1
    have:=tr1_ok hT (σ:=σ1) (c:=⟨andT (trP (ev x.ah l a s).1) (trP (ev x.ah l b (ev x.ah l a s).2).1),andT_lt _ _⟩) (n:=n) (lZ hn)
    rw [this]
    simp only [andT_ne2,if_false];rfl
  | lt k=>
    clear hd hs ok hg bw;obtain ⟨⟨p,⟨a,b⟩⟩,rfl⟩:∃ l':LL,l=l':=⟨l,rfl⟩
    have hb:b=0:=fit
    clear fit;subst hb
    obtain ⟨n,rfl⟩:∃ m,n=m+1:=⟨n - 1,by simp only [DC.h] at hn;exact cI (lZ hn)⟩
    have eloc:ab T n 67 [(DE.loc 1).v,.obj x.H.ctx] σ=some ((⟨a,0⟩:Vc).v,σ):=by
      obtain ⟨n,rfl⟩:∃ m,n=m+1:=⟨n - 1,by simp only [DC.h] at hn;exact cI (lZ hn)⟩
      refine WC.eq (aj (f:=br) (ρ:=[(DE.loc 1).v,.obj x.H.ctx,.ai]) (hT.fn _ _ rfl) rfl rfl ?_)
      refine ao 3 rfl (s_true rfl (au (dw (bK rfl m.ctx (av hT rfl) rfl) rfl (l:=[p.v,(⟨a,0⟩:Vc).v]) ?_ rfl rfl) (.ret ⟨rfl,rfl⟩)))
      simp only [bk,m.fr]
    have econ:ab T n 67 [.tup [.str 24,.int 3,.int (1+(k.val:Nat)),.int 0],.obj x.H.ctx] σ=some (.tup [.int 3,.int (1+(k.val:Nat)),.int 0],σ):=by
      clear eloc;obtain ⟨n,rfl⟩:∃ m,n=m+1:=⟨n - 1,by simp only [DC.h] at hn;exact cI (lZ hn)⟩
      refine WC.eq (aj (f:=br) (ρ:=[.tup [.str 24,.int 3,.int (1+(k.val:Nat)),.int 0],.obj x.H.ctx,.ai]) (hT.fn _ _ rfl) rfl rfl ?_)
      exact ao 1 rfl (s_true rfl (au rfl (.ret ⟨rfl,rfl⟩)))
    have kv:(V.tup [.int 3,.int (1+(k.val:Nat)),.int 0])=(⟨⟨1+k.val,by lia⟩,0⟩:Vc).v:=by
      show V.tup [.int 3,.int (1+(k.val:Nat)),.int 0]=.tup [.int 3,.int ((1+k.val:Nat):Nat),.int 0]
      congr 3
    have e1:ab T (n+1) 67 [(DC.lt k).v,.obj x.H.ctx] σ=some (bit1 (if a < (⟨1+k.val,by lia⟩:Fin 8) then 1 else 0),σ):=by
      refine WC.eq (aj (f:=br) (ρ:=[(DC.lt k).v,.obj x.H.ctx,.ai]) (hT.fn _ _ rfl) rfl rfl ?_)
      rw [kv] at econ
      exact ao 4 rfl (s_true rfl (au (cv (evs4 rfl (cv (bB rfl rfl) eloc) (cv (bB rfl rfl) econ) rfl) (binLt_ok hT (by simp only [DC.h] at hn;exact lZ hn))) (.ret ⟨rfl,rfl⟩)))
    refine aT σ (is_true_of hT nofun e1 ?_) m (.refl _ _)
    show ab T (n+1) 17 [bit1 (if a < (⟨1+k.val,_⟩:Fin 8) then 1 else 0)] σ=some (iN (if a.val < 1+k.val then 1 else 0),σ)
    by_cases q:a.val < 1+k.val
    · have q':a < (⟨1+k.val,by lia⟩:Fin 8):=q
      rw [if_pos q,if_pos q']
      exact tr1_ok hT (c:=1) (lZ hn)
    · have q':¬ a < (⟨1+k.val,by lia⟩:Fin 8):=q
      rw [if_neg q,if_neg q']
      exact tr1_ok hT (c:=0) (lZ hn)
end
noncomputable def DS.flat:DS→Prop
  | .none=>True | .set t _=>t≠.loc 1 | _=>False
noncomputable def DS.ok (c:Nat):DS→Prop
  | .none=>True
  | .set t e=>t.ok c∧e.ok c
  | .blk2 a b=>a.ok c∧b.ok c
  | .blk3 a b d=>a.ok c∧b.ok c∧d.ok c
  | .iff t a b=>(t.ok c∧∀ l,t.fits l)∧a.ok c∧b.ok c
  | .case _ e l1 l2 l3 a b d=>(e.ok c∧l1.ok c∧l2.ok c∧l3.ok c)∧a.ok c∧b.ok c∧d.ok c
  | .rep e _ b=>e.ok c∧b.ok c
  | .for _ b=>b.flat∧b.ok c
noncomputable def DS.h (hc:Fin 2→Nat):DS→Nat
  | .none=>0
  | .set t e=>14+max (e.h hc) (t.h hc)
  | .blk2 a b=>2+max (a.h hc) (b.h hc)
  | .blk3 a b d=>2+max (a.h hc) (max (b.h hc) (d.h hc))
  | .iff t a b=>1+max (12+t.h hc) (max (a.h hc) (b.h hc))
  | .case _ e l1 l2 l3 a b d=>2+max (12+max (max (e.h hc) (l1.h hc)) (max (l2.h hc) (l3.h hc))) (max (a.h hc) (max (b.h hc) (d.h hc)))
  | .rep e _ b=>2+max (13+e.h hc) (b.h hc)
  | .for _ b=>3+max 20 (b.h hc)
theorem yg0 {hc:Fin 2→Nat}:DS.h hc (.none)=(0):=rfl
theorem yg1 {hc:Fin 2→Nat} {t e}:DS.h hc (.set t e)=(14+max (e.h hc) (t.h hc)):=rfl
theorem yg2 {hc:Fin 2→Nat} {a b}:DS.h hc (.blk2 a b)=(2+max (a.h hc) (b.h hc)):=rfl
theorem yg3 {hc:Fin 2→Nat} {a b d}:DS.h hc (.blk3 a b d)=(2+max (a.h hc) (max (b.h hc) (d.h hc))):=rfl
theorem yg4 {hc:Fin 2→Nat} {t a b}:DS.h hc (.iff t a b)=(1+max (12+t.h hc) (max (a.h hc) (b.h hc))):=rfl
theorem yg5 {hc:Fin 2→Nat} {z1 e l1 l2 l3 a b d}:DS.h hc (.case z1 e l1 l2 l3 a b d)=(2+max (12+max (max (e.h hc) (l1.h hc)) (max (l2.h hc) (l3.h hc))) (max (a.h hc) (max (b.h hc) (d.h hc)))):=rfl
theorem yg6 {hc:Fin 2→Nat} {e z1 b}:DS.h hc (.rep e z1 b)=(2+max (13+e.h hc) (b.h hc)):=rfl
theorem yg7 {hc:Fin 2→Nat} {z1 b}:DS.h hc (.for z1 b)=(3+max 20 (b.h hc)):=rfl
noncomputable def DS.ifs:DS→Nat
  | .iff _ a b=>1+max a.ifs b.ifs
  | _=>0
section
variable (T:Tab) (x:Sx)
noncomputable def StOk (c:Nat) (st:DS):Prop:=∀ σ fr l s dp,MR x.fns x.H σ fr l s dp→s.n+st.cost x.cc≤4900→dp+(c:Nat)≤21→∀ n,st.h x.hc+2≤n→
  ∃ σ',ab T n 91 [st.v,.obj x.H.ctx] σ=some (.none,σ')∧MR x.fns x.H σ' fr (ex x.ah st l s).1 (ex x.ah st l s).2 dp∧Kp (XS4 x.H fr) σ σ'
noncomputable def runTest:XE:=.cmp .eq (.idx (.loc 0) (.int 0)) (.str 39)
noncomputable def runTurn:List XS:=[.asg (.loc 0) (.ite (.aV (.loc 1) 23 [.idx (.loc 0) (.int 1)]) (.idx (.loc 0) (.int 2)) (.idx (.loc 0) (.int 3))),.ite (.cmp .is (.loc 0) (.none)) [.ret (.none)] [],.expr (.aV (.loc 1) 24 [])]
noncomputable def runRest:List XS:=dA.body.drop 3
noncomputable def TailOk (c:Nat) (st:DS):Prop:=st≠.none→∀ σ fr l s dp,MR x.fns x.H σ fr l s.tick dp→s.n+st.cost x.cc≤4900→dp+(c:Nat)≤21→∀ n,st.h x.hc+1≤n→∀ f,st.ifs < f→∀ w,
  ∃ σ',While T (ab T n) runTest runTurn f [st.v,.obj x.H.ctx,w] σ (After (bj fun v τ=>v=.none∧τ=σ') fun ρ τ=>WS T (ab T n) runRest ρ τ (bj fun v τ=>v=.none∧τ=σ'))∧
    MR x.fns x.H σ' fr (ex x.ah st l s).1 (ex x.ah st l s).2 dp∧Kp (XS4 x.H fr) σ σ'
end
theorem DS.cb (st:DS):st.v≠.ai:=by cases st <;> nofun
theorem DS.cost_pos {cc}:∀ st:DS,st≠.none→1≤st.cost cc:=by intro st h;cases st <;> simp only [yk0,yk1,yk2,yk3,yk4,yk5,yk6,yk7] <;> first | (exact absurd rfl h) | exact l0Z
section
variable {T:Tab} (hT:bz bE T) {x:Sx} {c:Nat}
include hT
theorem bu {st:DS} (h64:st.ifs < 64) (h:TailOk T x c st):StOk T x c st:=fun σ fr l s dp m hs hd n hn=>by
  obtain ⟨n,rfl⟩:∃ m,n=m+1:=⟨n - 1,cI (lZ hn)⟩
  by_cases q:st=.none
  · clear h h64 hn hd hs;subst q
    refine aT σ ?_ m (.refl _ _)
    exact WC.eq (aj (f:=dA) (ρ:=[.none,.obj x.H.ctx,.ai]) (hT.fn _ _ rfl) rfl rfl (s_true rfl (au rfl (.ret ⟨rfl,rfl⟩))))
  · refine ay (burn_ok hT m (n:=n) (by have:=DS.cost_pos (cc:=x.cc) st q;exact lZ hs) (lZ hn)) fun σ1 e1 m1 k1=>?_
    refine ay (h q σ1 fr l s dp m1 hs hd n (lZ hn) 64 h64 .ai) fun σ' e2 m2 k2=>?_
    refine aT σ' ?_ m2 ((k1.mono fun n h=>by simp only [List.mem_singleton] at h;simp [h]).trans k2)
    refine WC.eq (aj (f:=dA) (ρ:=[st.v,.obj x.H.ctx,.ai]) (hT.fn _ _ rfl) rfl rfl ?_)
    have isn:ae T (ab T n) (.cmp .is (.loc 0) .none) [st.v,.obj x.H.ctx,.ai] σ=some (.bool false,σ):=by
      clear h64 h k2 m2 e2 σ' k1 m1 e1 σ1 hn hd hs m dp s l fr;cases st <;> first | exact absurd rfl q | rfl
    exact s_false isn (bH (.mk (dj rfl m.ctx rfl (b8 hT rfl) rfl e1) ⟨.inl rfl,s_while e2⟩))
theorem tail_call {st:DS} {σ σ':St} {n k f:Nat} {w:V} (hf:0 < f) (h1:ae T (ab T n) runTest [st.v,.obj x.H.ctx,w] σ=some (.bool false,σ))
    (h2:WS T (ab T n) runRest [st.v,.obj x.H.ctx,w] σ (bj fun v τ=>v=.none∧τ=σ')):
    While T (ab T n) runTest runTurn f [st.v,.obj x.H.ctx,w] σ (After (bj fun v τ=>v=.none∧τ=σ') fun ρ τ=>WS T (ab T n) runRest ρ τ (bj fun v τ=>v=.none∧τ=σ')):=by
  obtain ⟨f,rfl⟩:∃ m,f=m+1:=⟨f - 1,cI (lZ hf)⟩
  exact w_while (.mk h1 (.mk rfl (ct rfl (.aL h2))))
theorem tail_set (bw:CalOk T x c) (hg:bL x.cc c x.ah) {t:DT} {e:DE} (ok:(DS.set t e).ok c):TailOk T x c (.set t e):=fun zz σ fr l s dp m hs hd n hn f hf w=>by
  dsimp only [yk0,yk1,yk2,yk3,yk4,yk5,yk6,yk7,yg0,yg1,yg2,yg3,yg4,yg5,yg6,yg7] at hs hn
  refine ay (set_ok hT bw hg ok.1 ok.2 m (by dsimp only [PS.tick];exact lZ hs) hd (n:=n) (lZ hn)) fun σ' e1 m1 k1=>?_
  refine aT σ' (tail_call hT (st:=.set t e) (k:=0) (lZ hf) rfl ?_) m1 k1
  exact ao 1 rfl (s_true rfl (au (cv (bB rfl rfl) e1) (.ret ⟨rfl,rfl⟩)))
theorem blk_turn {st:DS} {src:V} {f i:Nat} {σ σ1:St} {n:Nat} {a b c d:V} {Q:Fl→List V→St→Prop} (hn:a9 src i σ=some (some st.v)) (e:ab T n 91 [st.v,b] σ=some (.none,σ1)) (hb:b≠.ai)
    (h:Loop T (ab T n) (.loc 2) [.asg (.loc 3) (.call 91 [.loc 2,.loc 1]),.ite (.cmp .isn (.loc 3) (.none)) [.raise] []] src f (i+1) [a,b,st.v,.none] σ1 Q):
    Loop T (ab T n) (.loc 2) [.asg (.loc 3) (.call 91 [.loc 2,.loc 1]),.ite (.cmp .isn (.loc 3) (.none)) [.raise] []] src (f+1) i [a,b,c,d] σ Q:=by
  refine bO hn (aa rfl) (ar (.mk (cv (bB (aC rfl st.cb) (aC rfl hb)) e) ⟨aa rfl,s_false rfl (aU (.aL h))⟩))
theorem tail_blk2 {a b:DS} (ha:StOk T x c a) (hb:StOk T x c b) (ga:∀ l s,Gd (a.cost x.cc) s (ex x.ah a l s).2):TailOk T x c (.blk2 a b):=fun zz σ fr l s dp m hs hd n hn f hf w=>by
  simp only [yk2,yg2] at hs hn
  obtain ⟨n,rfl⟩:∃ m,n=m+1:=⟨n - 1,cI (lZ hn)⟩
  have g:=(ga l s.tick).n
  simp only [PS.tick] at g
  refine ay (ha σ fr l s.tick dp m (by simp only [PS.tick];exact lZ hs) hd n (lZ (bM hn))) fun σ1 e1 m1 k1=>?_
  refine ay (hb σ1 fr _ _ dp m1 (by simp only [PS.tick];exact lZ (aZ hs g)) hd n (lZ (bZ hn))) fun σ2 e2 m2 k2=>?_
  refine aT σ2 (tail_call hT (st:=.blk2 a b) (k:=0) (lZ hf) rfl ?_) m2 (k1.trans k2)
  refine ao 2 rfl (s_true rfl (au (cv (bB rfl rfl) (WC.eq (aj (f:=x_run_block) (ρ:=[(DS.blk2 a b).v,.obj x.H.ctx,.ai,.ai]) (hT.fn _ _ rfl) rfl rfl ?_))) (.ret ⟨rfl,rfl⟩)))
  exact b6 (.mk (v:=.tup [a.v,b.v]) rfl ⟨rfl,blk_turn hT rfl e1 nofun (blk_turn hT rfl e2 nofun (cM rfl (.aL (au rfl (.ret ⟨rfl,rfl⟩)))))⟩)
theorem tail_blk3 {a b d:DS} (ha:StOk T x c a) (hb:StOk T x c b) (hd':StOk T x c d) (ga:∀ l s,Gd (a.cost x.cc) s (ex x.ah a l s).2) (gb:∀ l s,Gd (b.cost x.cc) s (ex x.ah b l s).2):TailOk T x c (.blk3 a b d):=fun zz σ fr l s dp m hs hd n hn f hf w=>by
  dsimp only [yk0,yk1,yk2,yk3,yk4,yk5,yk6,yk7,yg0,yg1,yg2,yg3,yg4,yg5,yg6,yg7] at hs hn
  clear zz;obtain ⟨n,rfl⟩:∃ m,n=m+1:=⟨n - 1,cI (lZ hn)⟩
  have g:=(ga l s.tick).n
  have g2:=(gb (ex x.ah a l s.tick).1 (ex x.ah a l s.tick).2).n
  dsimp only [PS.tick] at g g2
  refine ay (ha σ fr l s.tick dp m (by dsimp only [PS.tick];exact lZ hs) hd n (lZ (bM hn))) fun σ1 e1 m1 k1=>?_
  refine ay (hb σ1 fr _ _ dp m1 (by dsimp only [PS.tick];exact lZ (aZ hs g)) hd n (lZ (bM (bZ hn)))) fun σ2 e2 m2 k2=>?_
  refine ay (hd' σ2 fr _ _ dp m2 (by dsimp only [PS.tick];exact lZ (aZ hs (aZ g g2))) hd n (lZ (bZ (bZ hn)))) fun σ3 e3 m3 k3=>?_
  refine aT σ3 (tail_call hT (st:=.blk3 a b d) (k:=0) (lZ hf) rfl ?_) m3 ((k1.trans k2).trans k3)
  refine ao 2 rfl (s_true rfl (au (cv (bB rfl rfl) (WC.eq (aj (f:=x_run_block) (ρ:=[(DS.blk3 a b d).v,.obj x.H.ctx,.ai,.ai]) (hT.fn _ _ rfl) rfl rfl ?_))) (.ret ⟨rfl,rfl⟩)))
  exact b6 (.mk (v:=.tup [a.v,b.v,d.v]) rfl ⟨rfl,blk_turn hT rfl e1 nofun (blk_turn hT rfl e2 nofun (blk_turn hT rfl e3 nofun (cM rfl (.aL (au rfl (.ret ⟨rfl,rfl⟩))))))⟩)
theorem tail_iff (bw:CalOk T x c) (hg:bL x.cc c x.ah) {t:DC} {a b:DS} (ok:t.ok c∧∀ l,t.fits l) (ha:TailOk T x c a) (hb:TailOk T x c b):TailOk T x c (.iff t a b):=fun zz σ fr l s dp m hs hd n hn f hf w=>by
  simp only [yk4,yg4,DS.ifs] at hs hn hf
  clear zz;obtain ⟨f,rfl⟩:∃ m,f=m+1:=⟨f - 1,cI (lZ (tZ hf))⟩
  refine ay (cond_ok hT bw hg ok.1 (ok.2 l) m (by simp only [PS.tick];exact lZ hs) hd (n:=n) (lZ (bM hn))) fun σ1 e1 m1 k1=>?_
  have g:(evC x.ah l t s.tick).2.n≤s.n+1+t.cost x.cc:=(evC_gd (l:=l) hg t ok.1 s.tick).n
  have k1':Kp (XS4 x.H fr) σ σ1:=k1.mono fun n h=>by simp only [List.mem_cons,List.not_mem_nil,or_false] at *;clear hg bw k1;rcases h with h | h | h <;> simp [h]
  have go:∀ d:DS,d.cost x.cc≤max (a.cost x.cc) (b.cost x.cc)→d.h x.hc≤max (a.h x.hc) (b.h x.hc)→d.ifs≤max a.ifs b.ifs→TailOk T x c d→(ae T (ab T n) (.ite (.aV (.loc 1) 23 [.idx (.loc 0) (.int 1)]) (.idx (.loc 0) (.int 2)) (.idx (.loc 0) (.int 3))) [(DS.iff t a b).v,.obj x.H.ctx,w] σ=some (d.v,σ1))→
      ∃ σ',While T (ab T n) runTest runTurn (f+1) [(DS.iff t a b).v,.obj x.H.ctx,w] σ (After (bj fun v τ=>v=.none∧τ=σ') fun ρ τ=>WS T (ab T n) runRest ρ τ (bj fun v τ=>v=.none∧τ=σ'))∧
        MR x.fns x.H σ' fr (ex x.ah d l (evC x.ah l t s.tick).2).1 (ex x.ah d l (evC x.ah l t s.tick).2).2 dp∧Kp (XS4 x.H fr) σ σ':=fun d hc1 hh hi hd1 he=>by
    by_cases q:d=.none
    · clear hb ha ok hg bw g hd1 hi hh hc1 k1 e1 hf hn hd hs m;subst q
      refine aT σ1 (w_while (.mk rfl (.mk rfl (and_t rfl (ar (.mk he ⟨aa rfl,s_true rfl (au rfl (.ret (.ret (.ret ⟨rfl,rfl⟩))))⟩)))))) m1 k1'
    · have isn:ae T (ab T n) (.cmp .is (.loc 0) .none) [d.v,.obj x.H.ctx,w] σ1=some (.bool false,σ1):=by
        clear hb ha ok hg bw k1' g he hd1 hi hh hc1 k1 m1 e1 hf f hn hd hs m dp s l fr σ;cases d <;> first | exact absurd rfl q | rfl
      have cp:=DS.cost_pos (cc:=x.cc) d q
      refine ay (burn_ok hT m1 (n:=n) (lZ (aZ hs g)) (lZ hn)) fun σ2 e2 m2 k2=>?_
      refine ay (hd1 q σ2 fr l _ dp m2 (lZ (aZ hs (aZ g hc1))) hd n (lZ (aZ (bZ hn) hh)) f (lZ (aZ (tZ hf) hi)) w) fun σ3 e3 m3 k3=>?_
      refine aT σ3 (w_while (.mk rfl (.mk rfl (and_t rfl (ar (.mk he ⟨aa rfl,s_false isn (bH (.mk (dj rfl m1.ctx rfl (b8 hT rfl) rfl e2) ⟨.inl rfl,aU (.aL e3)⟩))⟩)))))) m3 ((k1'.trans (k2.mono fun n h=>by simp only [List.mem_singleton] at h;simp [h])).trans k3)
  have hm:ae T (ab T n) (.aV (.loc 1) 23 [.idx (.loc 0) (.int 1)]) [(DS.iff t a b).v,.obj x.H.ctx,w] σ=some (.bool (decide ((evC x.ah l t s.tick).1=1)),σ1):=dj rfl m.ctx rfl (b8 hT rfl) rfl e1
  by_cases q:(evC x.ah l t s.tick).1=1
  · have e:ex x.ah (.iff t a b) l s=ex x.ah a l (evC x.ah l t s.tick).2:=by simp only [yx4,q,if_true]
    refine ag e ?_
    refine go a (rlZ l0Z) (rlZ l0Z) (rlZ l0Z) ha ?_
    rw [decide_eq_true q] at hm
    exact (w_ite (Q:=fun v τ=>v=a.v∧τ=σ1) (.mk hm (.mk rfl (and_t rfl (.mk rfl ⟨rfl,rfl⟩))))).ok.eq
  · have e:ex x.ah (.iff t a b) l s=ex x.ah b l (evC x.ah l t s.tick).2:=by simp only [yx4,q,if_false]
    refine ag e ?_
    refine go b (rrZ l0Z) (rrZ l0Z) (rrZ l0Z) hb ?_
    rw [decide_eq_false q] at hm
    exact (w_ite (Q:=fun v τ=>v=b.v∧τ=σ1) (.mk hm (.mk rfl (ct rfl (.mk rfl ⟨rfl,rfl⟩))))).ok.eq
end
end
section
open PySem
theorem mxl {k a b n:Nat} (h:k+max a b≤n):k+a≤n∧k+b≤n:=⟨Nat.le_trans (Nat.add_le_add_left (Nat.le_max_left a b) k) h,Nat.le_trans (Nat.add_le_add_left (Nat.le_max_right a b) k) h⟩
theorem mx3 {k a b c n:Nat} (h:k+max a (max b c)≤n):k+a≤n∧k+b≤n∧k+c≤n:=⟨(mxl h).1,mxl (mxl h).2⟩
theorem mx7 {k a b c d e f g j n:Nat} (h:k+max (j+max (max a b) (max c d)) (max e (max f g))≤n):(k+(j+a)≤n∧k+(j+b)≤n∧k+(j+c)≤n∧k+(j+d)≤n)∧k+e≤n∧k+f≤n∧k+g≤n:=by
  have h1:=mxl h
  refine ⟨?_,mx3 h1.2⟩
  have h2:=h1.1
  rw [← Nat.add_assoc] at h2
  have h3:=mxl h2
  have h4:=mxl h3.1
  have h5:=mxl h3.2
  simp only [Nat.add_assoc] at h4 h5
  exact ⟨h4.1,h4.2,h5.1,h5.2⟩
theorem toI2_all:∀ g:Bool,allV (fun u=>decide (((toI2 u g).getD 0).toNat≤3))=true:=by decide +kernel
theorem toI2_le (u:Vc) (g:Bool):((toI2 u g).getD 0).toNat≤3:=of_decide_eq_true (dC (toI2_all g) u)
section
variable {cc:Fin 2→Nat} {c:Nat} {ah:Cal} (hc:bL cc c ah)
include hc
theorem times_gd {d:Nat} {f:LL→PS→LL×PS} (hf:∀ l s,Gd d s (f l s).2):∀ k l s,Gd (k*(1+d)) s (times f k l s).2
  | 0,l,s=>.refl _ _
  | k+1,l,s=>by
    have:=((Gd.tick s).trans (hf l s.tick)).trans (times_gd hf k (f l s.tick).1 (f l s.tick).2)
    exact this.mono (by refine ag (Nat.succ_mul ..) ?_;exact l0Z)
theorem cG:∀ st:DS,st.ok c→∀ l s,Gd (st.cost cc) s (ex ah st l s).2
  | .none,_,l,s=>.refl _ _
  | .set t e,ok,l,s=>by
    have h:=aO (l:=l) hc e ok.2 s.tick
    show Gd (1+e.cost cc+t.cost cc) s (exSet ah l t e s).2
    cases t with
    | loc i=>exact ((Gd.tick s).trans h).mono (by simp only [DT.cost];exact l0Z)
    | sig i=>exact (Gd.put h).mono (by simp only [DT.cost];exact l0Z)
    | pick i y g o d=>
      have h2:=h.trans (aO (l:=l) hc y ok.1 (ev ah l e s.tick).2)
      exact (Gd.put h2).mono (by simp only [DT.cost];exact l0Z)
  | .blk2 a b,ok,l,s=>(((Gd.tick s).trans (cG a ok.1 l s.tick)).trans (cG b ok.2 _ _)).mono (by simp only [yk2];exact l0Z)
  | .blk3 a b d,ok,l,s=>((((Gd.tick s).trans (cG a ok.1 l s.tick)).trans (cG b ok.2.1 _ _)).trans (cG d ok.2.2 _ _)).mono (by simp only [yk3];exact l0Z)
  | .iff t a b,ok,l,s=>by
    have h:=(Gd.tick s).trans (evC_gd (l:=l) hc t ok.1.1 s.tick)
    simp only [yx4]
    split
    · exact (h.trans (cG a ok.2.1 _ _)).mono (by simp only [yk4];exact rRlZ l0Z)
    · exact (h.trans (cG b ok.2.2 _ _)).mono (by simp only [yk4];exact rRrZ l0Z)
  | .case k e l1 l2 l3 a b d,ok,l,s=>by
    have h0:=(Gd.tick s).trans (aO (l:=l) hc e ok.1.1 s.tick)
    have h1:=h0.trans (aO (l:=l) hc l1 ok.1.2.1 _)
    have h2:=h1.trans (aO (l:=l) hc l2 ok.1.2.2.1 _)
    have h3:=h2.trans (aO (l:=l) hc l3 ok.1.2.2.2 _)
    simp only [yx5]
    split
    · exact (h1.trans (cG a ok.2.1 _ _)).mono (by simp only [yk5];exact rRlZ l0Z)
    · split
      · exact (h2.trans (cG a ok.2.1 _ _)).mono (by simp only [yk5];exact rRlZ l0Z)
      · split
        · exact (h3.trans (cG d ok.2.2.2 _ _)).mono (by simp only [yk5];exact rRrZ (rRrZ l0Z))
        · exact (h3.trans (cG b ok.2.2.1 _ _)).mono (by simp only [yk5];exact rRrZ (rRlZ l0Z))
  | .rep e g b,ok,l,s=>by
    have h0:=(Gd.tick s).trans (aO (l:=l) hc e ok.1 s.tick)
    have h1:=h0.trans (times_gd hc (fun l s=>cG b ok.2 l s) ((toI2 (ev ah l e s.tick).1 g).getD 0).toNat l _)
    refine h1.mono ?_
    have:=toI2_le (ev ah l e s.tick).1 g
    have:((toI2 (ev ah l e s.tick).1 g).getD 0).toNat*(1+b.cost cc)≤3*(1+b.cost cc):=Nat.mul_le_mul_right _ this
    simp only [yk6];exact lZ this
  | .for k b,ok,l,s=>by
    have h1:=(((Gd.tick s).trans (.tick _)).trans (.tick _)).trans (cG b ok.2 (l.1,⟨0,0⟩) s.tick.tick.tick)
    simp only [yx7]
    split
    · exact (h1.trans (.tick _)).mono (by simp only [yk7];exact l0Z)
    · exact ((((h1.trans (.tick _)).trans (.tick _)).trans (cG b ok.2 _ _)).trans (.tick _)).mono (by simp only [yk7];exact l0Z)
end
theorem k34 {H:Hd} {fr:Nat} {σ σ':St} (k:Kp (XE3 H) σ σ'):Kp (XS4 H fr) σ σ':=k.mono fun n h=>by simp only [List.mem_cons,List.not_mem_nil,or_false] at *;rcases h with h | h | h <;> simp [h]
noncomputable def labB:List XS:=[.ite (.call 54 [.idx (.loc 0) (.int 1),.loc 2,.call 67 [.loc 6,.loc 1]]) [.ret (.call 91 [.loc 5,.loc 1])] []]
noncomputable def rowB:List XS:=[.ite (.cmp .is (.loc 4) (.none)) [.asg (.loc 3) (.loc 5),.cont] [],.for (.loc 6) (.loc 4) labB]
section
variable {T:Tab} (hT:bz bE T) {x:Sx} {c:Nat}
include hT
theorem lab_hit {k:Fin 3} {z1 z2 z3:V} {u v:Vc} {lb bd:V} {lv:DE} {body:DS} {src:V} {f i n:Nat} {σ σ1 σ2:St} {w:V} {Q:Fl→List V→St→Prop} (hn:a9 src i σ=some (some lv.v)) (e:ab T n 67 [lv.v,.obj x.H.ctx] σ=some (v.v,σ1))
    (q:bq k u v=true) (eb:ab T n 91 [body.v,.obj x.H.ctx] σ1=some (.none,σ2)) (h3:2≤n) (h:∀ ρ,Q (.ret .none) ρ σ2):
    Loop T (ab T n) (.loc 6) labB src (f+1) i [.tup [z1,cj k,z2,z3],.obj x.H.ctx,u.v,lb,bd,body.v,w] σ Q:=by
  refine bO hn (aa rfl) ?_
  have t:ae T (ab T n) (.call 54 [.idx (.loc 0) (.int 1),.loc 2,.call 67 [.loc 6,.loc 1]]) [.tup [z1,cj k,z2,z3],.obj x.H.ctx,u.v,lb,bd,body.v,lv.v] σ=some (.bool true,σ1):=by
    refine cw q ?_;exact cv (evs3 rfl rfl (cv (bB (aC rfl lv.cb) rfl) e)) (meets_ok hT h3)
  exact s_true t (au (cv (bB (aC rfl body.cb) rfl) eb) (.ret (h _)))
theorem lab_miss {k:Fin 3} {z1 z2 z3:V} {u v:Vc} {lb bd:V} {lv:DE} {body:V} {src:V} {f i n:Nat} {σ σ1:St} {w:V} {Q:Fl→List V→St→Prop} (hn:a9 src i σ=some (some lv.v)) (e:ab T n 67 [lv.v,.obj x.H.ctx] σ=some (v.v,σ1))
    (q:bq k u v=false) (h3:2≤n) (h:Loop T (ab T n) (.loc 6) labB src f (i+1) [.tup [z1,cj k,z2,z3],.obj x.H.ctx,u.v,lb,bd,body,lv.v] σ1 Q):
    Loop T (ab T n) (.loc 6) labB src (f+1) i [.tup [z1,cj k,z2,z3],.obj x.H.ctx,u.v,lb,bd,body,w] σ Q:=by
  refine bO hn (aa rfl) ?_
  have t:ae T (ab T n) (.call 54 [.idx (.loc 0) (.int 1),.loc 2,.call 67 [.loc 6,.loc 1]]) [.tup [z1,cj k,z2,z3],.obj x.H.ctx,u.v,lb,bd,body,lv.v] σ=some (.bool false,σ1):=by
    refine cw q ?_;exact cv (evs3 rfl rfl (cv (bB (aC rfl lv.cb) rfl) e)) (meets_ok hT h3)
  exact s_false t (aU (.aL h))
theorem tail_case (bw:CalOk T x c) (hg:bL x.cc c x.ah) {k:Fin 3} {e l1 l2 l3:DE} {a b d:DS} (ok:e.ok c∧l1.ok c∧l2.ok c∧l3.ok c) (ha:StOk T x c a) (hb:StOk T x c b) (hd':StOk T x c d):TailOk T x c (.case k e l1 l2 l3 a b d):=fun _ σ fr l s dp m hs hd n hn f hf w=>by
  simp only [yk5,yg5] at hs hn
  rw [← Nat.add_assoc] at hs
  rw [Nat.add_right_comm] at hn
  refine dJ (mx3 hs) fun hs1 hs2 hs3=>?_
  obtain ⟨⟨hn1,hn2,hn3,hn4⟩,hn5,hn6,hn7⟩:=mx7 hn
  clear hs hn
  obtain ⟨n,rfl⟩:∃ m,n=m+1:=⟨n - 1,cI (lZ hn7)⟩
  have g0:(ev x.ah l e s.tick).2.n≤s.n+1+e.cost x.cc:=(aO (l:=l) hg e ok.1 s.tick).n
  refine ay (dZ hT bw hg e ok.1 σ fr l s.tick dp m (by simp only [PS.tick];exact lZ hs3) hd n (lZ hn1)) fun σ1 e1 m1 k1=>?_
  generalize hu:ev x.ah l e s.tick=u at*
  have g1:=(aO (l:=l) hg l1 ok.2.1 u.2).n
  refine ay (dZ hT bw hg l1 ok.2.1 σ1 fr l u.2 dp m1 (lZ (aZ hs3 g0)) hd n (lZ hn2)) fun σ2 e2 m2 k2=>?_
  generalize hv1:ev x.ah l l1 u.2=v1 at*
  have g2:=(aO (l:=l) hg l2 ok.2.2.1 v1.2).n
  refine ay (dZ hT bw hg l2 ok.2.2.1 σ2 fr l v1.2 dp m2 (lZ (aZ hs3 (aZ g0 g1))) hd n (lZ hn3)) fun σ3 e3 m3 k3=>?_
  generalize hv2:ev x.ah l l2 v1.2=v2 at*
  have g3:=(aO (l:=l) hg l3 ok.2.2.2 v2.2).n
  refine ay (dZ hT bw hg l3 ok.2.2.2 σ3 fr l v2.2 dp m3 (lZ (aZ hs3 (aZ g0 (aZ g1 g2)))) hd n (lZ hn4)) fun σ4 e4 m4 k4=>?_
  generalize hv3:ev x.ah l l3 v2.2=v3 at*
  have run:∀ {σ':St},Loop T (ab T n) (.tup [4,5]) rowB (.tup [.tup [.tup [l1.v,l2.v],a.v],.tup [.none,b.v],.tup [.tup [l3.v],d.v]]) 64 0 [(DS.case k e l1 l2 l3 a b d).v,.obj x.H.ctx,u.1.v,.none,.ai,.ai,.ai] σ1
        (After (bj fun v τ=>v=.none∧τ=σ') fun ρ τ=>WS T (ab T n) [.ret (.call 91 [.loc 3,.loc 1])] ρ τ (bj fun v τ=>v=.none∧τ=σ'))→
      While T (ab T (n+1)) runTest runTurn f [(DS.case k e l1 l2 l3 a b d).v,.obj x.H.ctx,w] σ (After (bj fun v τ=>v=.none∧τ=σ') fun ρ τ=>WS T (ab T (n+1)) runRest ρ τ (bj fun v τ=>v=.none∧τ=σ')):=fun {σ'} h=>by
    refine tail_call hT (st:=.case k e l1 l2 l3 a b d) (k:=0) (lZ hf) rfl ?_
    refine ao 3 rfl (s_true rfl (au (cv (bB rfl rfl) (WC.eq (aj (f:=x_run_case) (ρ:=[(DS.case k e l1 l2 l3 a b d).v,.obj x.H.ctx,.ai,.ai,.ai,.ai,.ai]) (hT.fn _ _ rfl) rfl rfl ?_))) (.ret ⟨rfl,rfl⟩)))
    exact ar (.mk (cv (bB rfl rfl) e1) ⟨aa rfl,ao 1 rfl (b6 (.mk rfl ⟨rfl,h⟩))⟩)
  have kk2:=k34 (fr:=fr) (k1.trans k2)
  have kk3:=kk2.trans (k34 k3)
  have kk4:=kk3.trans (k34 k4)
  have done:∀ {r:LL×PS} {σ':St},ex x.ah (.case k e l1 l2 l3 a b d) l s=r→_→MR x.fns x.H σ' fr r.1 r.2 dp→Kp (XS4 x.H fr) σ σ'→∃ σ',While T (ab T (n+1)) runTest runTurn f [(DS.case k e l1 l2 l3 a b d).v,.obj x.H.ctx,w] σ (After (bj fun v τ=>v=.none∧τ=σ') fun ρ τ=>WS T (ab T (n+1)) runRest ρ τ (bj fun v τ=>v=.none∧τ=σ'))∧
        MR x.fns x.H σ' fr (ex x.ah (.case k e l1 l2 l3 a b d) l s).1 (ex x.ah (.case k e l1 l2 l3 a b d) l s).2 dp∧Kp (XS4 x.H fr) σ σ':=fun {r σ'} e h m k=>by refine ag e ?_;exact aT σ' (run h) m k
  cases q1:bq k u.1 v1.1 with
  | true=>
    refine ay (ha σ2 fr l v1.2 dp m2 (lZ (aZ hs1 (aZ g0 g1))) hd n (lZ hn5)) fun σ5 e5 m5 k5=>?_
    refine done (r:=ex x.ah a l v1.2) ?_ ?_ m5 (kk2.trans k5)
    · simp only [yx5,hu,hv1,q1,if_true]
    · exact bQ rfl ⟨rfl,rfl⟩ (s_false rfl (b6 (.mk rfl ⟨rfl,lab_hit hT (src:=.tup [l1.v,l2.v]) rfl e2 q1 e5 (lZ hn7) fun ρ=>.ret (.ret (.ret (.ret ⟨rfl,rfl⟩)))⟩)))
  | false=>
    cases q2:bq k u.1 v2.1 with
    | true=>
      refine ay (ha σ3 fr l v2.2 dp m3 (lZ (aZ hs1 (aZ g0 (aZ g1 g2)))) hd n (lZ hn5)) fun σ5 e5 m5 k5=>?_
      refine done (r:=ex x.ah a l v2.2) ?_ ?_ m5 (kk3.trans k5)
      · simp only [yx5,hu,hv1,hv2,q1,q2,if_true,Bool.false_eq_true,if_false]
      · exact bQ rfl ⟨rfl,rfl⟩ (s_false rfl (b6 (.mk rfl ⟨rfl,lab_miss hT (src:=.tup [l1.v,l2.v]) rfl e2 q1 (lZ hn7) (lab_hit hT rfl e3 q2 e5 (lZ hn7) fun ρ=>.ret (.ret (.ret (.ret ⟨rfl,rfl⟩))))⟩)))
    | false=>
      have third:∀ {Q:Fl→List V→St→Prop},Loop T (ab T n) (.loc 6) labB (.tup [l3.v]) 64 0 [(DS.case k e l1 l2 l3 a b d).v,.obj x.H.ctx,u.1.v,b.v,.tup [l3.v],d.v,l2.v] σ3 (After (Turn (After Q fun ρ τ=>WS T (ab T n) [.ret (.call 91 [.loc 3,.loc 1])] ρ τ Q) fun ρ τ=>Loop T (ab T n) (.tup [4,5]) rowB (.tup [.tup [.tup [l1.v,l2.v],a.v],.tup [.none,b.v],.tup [.tup [l3.v],d.v]]) 61 3 ρ τ (After Q fun ρ τ=>WS T (ab T n) [.ret (.call 91 [.loc 3,.loc 1])] ρ τ Q)) fun ρ τ=>WS T (ab T n) [] ρ τ (Turn (After Q fun ρ τ=>WS T (ab T n) [.ret (.call 91 [.loc 3,.loc 1])] ρ τ Q) fun ρ τ=>Loop T (ab T n) (.tup [4,5]) rowB (.tup [.tup [.tup [l1.v,l2.v],a.v],.tup [.none,b.v],.tup [.tup [l3.v],d.v]]) 61 3 ρ τ (After Q fun ρ τ=>WS T (ab T n) [.ret (.call 91 [.loc 3,.loc 1])] ρ τ Q)))→
          Loop T (ab T n) (.tup [4,5]) rowB (.tup [.tup [.tup [l1.v,l2.v],a.v],.tup [.none,b.v],.tup [.tup [l3.v],d.v]]) 64 0 [(DS.case k e l1 l2 l3 a b d).v,.obj x.H.ctx,u.1.v,.none,.ai,.ai,.ai] σ1 (After Q fun ρ τ=>WS T (ab T n) [.ret (.call 91 [.loc 3,.loc 1])] ρ τ Q):=fun {Q} h=>by
        refine bQ rfl ⟨rfl,rfl⟩ (s_false rfl (b6 (.mk rfl ⟨rfl,lab_miss hT (src:=.tup [l1.v,l2.v]) rfl e2 q1 (lZ hn7) (lab_miss hT rfl e3 q2 (lZ hn7) (cM rfl (.aL (aU (.aL ?_)))))⟩)))
        refine bQ rfl ⟨rfl,rfl⟩ (s_true rfl (ar (.mk (aC rfl b.cb) ⟨aa rfl,s_cont (.cnt ?_)⟩)))
        exact bQ rfl ⟨rfl,rfl⟩ (s_false rfl (b6 (.mk rfl ⟨rfl,h⟩)))
      cases q3:bq k u.1 v3.1 with
      | true=>
        refine ay (hd' σ4 fr l v3.2 dp m4 (by lia) hd n (lZ hn7)) fun σ5 e5 m5 k5=>?_
        refine done (r:=ex x.ah d l v3.2) ?_ ?_ m5 (kk4.trans k5)
        · simp only [yx5,hu,hv1,hv2,hv3,q1,q2,q3,if_true,Bool.false_eq_true,if_false]
        · exact third (lab_hit hT rfl e4 q3 e5 (lZ hn7) fun ρ=>.ret (.ret (.ret (.ret ⟨rfl,rfl⟩))))
      | false=>
        refine ay (hb σ4 fr l v3.2 dp m4 (by lia) hd n (lZ hn6)) fun σ5 e5 m5 k5=>?_
        refine done (r:=ex x.ah b l v3.2) ?_ ?_ m5 (kk4.trans k5)
        · simp only [yx5,hu,hv1,hv2,hv3,q1,q2,q3,Bool.false_eq_true,if_false]
        · exact third<|lab_miss hT rfl e4 q3 (lZ hn7)<|cM rfl<|.aL<|aU<|.aL<|cM rfl<|.aL<|au (cv (bB (aC rfl b.cb) rfl) e5) (.ret ⟨rfl,rfl⟩)
end
end
section
open PySem
noncomputable def repB:List XS:=[.aug (.loc 2) .sub (.int 1),.expr (.aV (.loc 1) 24 []),.asg (.loc 3) (.call 91 [.idx (.loc 0) (.int 3),.loc 1]),.ite (.cmp .isn (.loc 3) (.none)) [.raise] []]
noncomputable def whT:XE:=.or [.cmp .is (.loc 0) (.none),.aV (.loc 3) 23 [.loc 0]]
noncomputable def whB:List XS:=[.expr (.aV (.loc 3) 24 []),.asg (.loc 4) (.call 91 [.loc 1,.loc 3]),.ite (.cmp .isn (.loc 4) (.none)) [.raise] [],.expr (.call 91 [.loc 2,.loc 3])]
theorem flat_keeps {ah:Cal}:∀ {b:DS},b.flat→∀ l s,(ex ah b l s).1.2=l.2
  | .none,_,l,s=>rfl
  | .set t e,h,l,s=>by
    show (exSet ah l t e s).1.2=l.2
    cases t with
    | loc i=>match i,h with
      | 0,_=>rfl
      | 1,h=>exact absurd rfl h
    | sig i=>rfl
    | pick i y g o d=>rfl
noncomputable def DS.dep:DS→Nat
  | .none=>0 | .set _ _=>0
  | .blk2 a b=>1+max a.dep b.dep
  | .blk3 a b d=>1+max a.dep (max b.dep d.dep)
  | .iff _ a b=>1+max a.dep b.dep
  | .case _ _ _ _ _ a b d=>1+max a.dep (max b.dep d.dep)
  | .rep _ _ b=>1+b.dep
  | .for _ b=>1+b.dep
theorem yd0:DS.dep  (.none)=(0):=rfl
theorem yd1 {z1 z2}:DS.dep  (.set z1 z2)=(0):=rfl
theorem yd2 {a b}:DS.dep  (.blk2 a b)=(1+max a.dep b.dep):=rfl
theorem yd3 {a b d}:DS.dep  (.blk3 a b d)=(1+max a.dep (max b.dep d.dep)):=rfl
theorem yd4 {z1 a b}:DS.dep  (.iff z1 a b)=(1+max a.dep b.dep):=rfl
theorem yd5 {z1 z2 z3 z4 z5 a b d}:DS.dep  (.case z1 z2 z3 z4 z5 a b d)=(1+max a.dep (max b.dep d.dep)):=rfl
theorem yd6 {z1 z2 b}:DS.dep  (.rep z1 z2 b)=(1+b.dep):=rfl
theorem yd7 {z1 b}:DS.dep  (.for z1 b)=(1+b.dep):=rfl
theorem DS.cX:∀ st:DS,st.ifs≤st.dep
  | .none=>Nat.le_refl _
  | .set _ _=>Nat.le_refl _
  | .blk2 _ _=>Nat.zero_le _
  | .blk3 _ _ _=>Nat.zero_le _
  | .iff _ a b=>by have:=a.cX;have:=b.cX;simp only [DS.ifs,yd4];omega
  | .case _ _ _ _ _ _ _ _=>Nat.zero_le _
  | .rep _ _ _=>Nat.zero_le _
  | .for _ _=>Nat.zero_le _
section
variable {T:Tab} (hT:bz bE T) {x:Sx} {c:Nat}
include hT
theorem rep_loop {e:DE} {g:Bool} {b:DS} (hb:StOk T x c b) (gb:∀ l s,Gd (b.cost x.cc) s (ex x.ah b l s).2) {n:Nat} (hn:b.h x.hc+2≤n) {dp:Int} (hd:dp+(c:Nat)≤21) {fr:Nat}:∀ (k f:Nat) {σ:St} {l:LL} {s:PS} {w:V},k < f→MR x.fns x.H σ fr l s dp→s.n+k*(1+b.cost x.cc)≤4900→
    ∃ σ',(∀ {Q:Fl→List V→St→Prop},(∀ ρ,Q .aL ρ σ')→While T (ab T n) (.cmp .gt (.loc 2) (.int 0)) repB f [(DS.rep e g b).v,.obj x.H.ctx,.int (k:Nat),w] σ Q)∧MR x.fns x.H σ' fr (times (fun l s=>ex x.ah b l s) k l s).1 (times (fun l s=>ex x.ah b l s) k l s).2 dp∧Kp (XS4 x.H fr) σ σ'
  | 0,f,σ,l,s,w,hf,m,hs=>by
    obtain ⟨f,rfl⟩:∃ m,f=m+1:=⟨f - 1,cI (lZ hf)⟩
    exact ⟨σ,fun {Q} h=>w_while (.mk rfl (.mk rfl (ct rfl (h _)))),m,.refl _ _⟩
  | k+1,f,σ,l,s,w,hf,m,hs=>by
    obtain ⟨f,rfl⟩:∃ m,f=m+1:=⟨f - 1,cI (lZ hf)⟩
    rw [Nat.succ_mul] at hs
    refine ay (burn_ok hT m (n:=n) (lZ hs) (lZ hn)) fun σ1 e1 m1 k1=>?_
    refine ay (hb σ1 fr l s.tick dp m1 (by simp only [PS.tick];exact lZ hs) hd n hn) fun σ2 e2 m2 k2=>?_
    have g1:(ex x.ah b l s.tick).2.n≤s.n+1+b.cost x.cc:=(gb l s.tick).n
    obtain ⟨σ3,e3,m3,k3⟩:=rep_loop hb gb hn hd k f (w:=.none) (lZ hf) m2 (lZ (aZ hs g1))
    refine aT σ3 (fun {Q} h=>?_) m3 (((k1.mono fun n h=>by simp only [List.mem_singleton] at h;simp [h]).trans k2).trans k3)
    have t:decide ((0:Int) < ((k+1:Nat):Int))=true:=by simp only [decide_eq_true_eq];lia
    have hk:((k+1:Nat):Int) - 1=(k:Nat):=by lia
    refine w_while (.mk (v:=.bool true) (σ':=σ) ?_ (.mk rfl (and_t rfl ?_)))
    · refine cw t ?_;rfl
    · refine s_aug rfl (.mk rfl (.mk rfl (bH (.mk (dj rfl m.ctx rfl (b8 hT rfl) rfl e1) ⟨.inl rfl,ar (.mk (cv (bB rfl rfl) e2) ⟨aa rfl,s_false rfl (aU (.aL ?_))⟩)⟩))))
      have:=e3 h
      rw [← hk] at this
      exact this
theorem tail_rep (bw:CalOk T x c) (hg:bL x.cc c x.ah) {e:DE} {g:Bool} {b:DS} (ok:e.ok c) (hb:StOk T x c b) (gb:∀ l s,Gd (b.cost x.cc) s (ex x.ah b l s).2):TailOk T x c (.rep e g b):=fun _ σ fr l s dp m hs hd n hn f hf w=>by
  simp only [yk6,yg6] at hs hn
  obtain ⟨n,rfl⟩:∃ m,n=m+1:=⟨n - 1,cI (lZ hn)⟩
  have g0:(ev x.ah l e s.tick).2.n≤s.n+1+e.cost x.cc:=(aO (l:=l) hg e ok s.tick).n
  have sl:∃ σ1,ab T n 67 [.tup [.str 30,.int 2,e.v,.int 0],.obj x.H.ctx] σ=some (w2 (Fin.ofNat 4 (ev x.ah l e s.tick).1.a) (Fin.ofNat 4 (ev x.ah l e s.tick).1.b),σ1)∧MR x.fns x.H σ1 fr l (ev x.ah l e s.tick).2 dp∧Kp (XE3 x.H) σ σ1:=by
    clear gb hb g0 w hf;obtain ⟨n,rfl⟩:∃ m,n=m+1:=⟨n - 1,cI (lZ hn)⟩
    refine ay (dZ hT bw hg e ok σ fr l s.tick dp m (by simp only [PS.tick];exact lZ hs) hd n (lZ (bM hn))) fun σ1 e1 m1 k1=>?_
    refine aT σ1 ?_ m1 k1
    refine WC.eq (aj (f:=br) (ρ:=[.tup [.str 30,.int 2,e.v,.int 0],.obj x.H.ctx,.ai]) (hT.fn _ _ rfl) rfl rfl ?_)
    exact ao 7 rfl (s_true rfl (au (cv (evs3 (cv (bB rfl rfl) e1) rfl rfl) (slice2_ok hT (lZ (bM hn)))) (.ret ⟨rfl,rfl⟩)))
  refine ay sl fun σ1 e1 m1 k1=>?_
  clear sl
  have ti:ab T n 10 [w2 (Fin.ofNat 4 (ev x.ah l e s.tick).1.a) (Fin.ofNat 4 (ev x.ah l e s.tick).1.b),.bool g] σ1=some (dG (toI2 (ev x.ah l e s.tick).1 g),σ1):=by
    refine ag (int2_ok hT (lZ hn)) ?_
    congr 2
    have key:∀ g:Bool,allV (fun u=>decide ((if (Fin.ofNat 4 u.b.val)=0 then some (if g=true∧2≤(Fin.ofNat 4 u.a.val).val then ((Fin.ofNat 4 u.a.val).val:Int) - 4 else ((Fin.ofNat 4 u.a.val).val:Nat)) else .none)=toI2 u g))=true:=by decide +kernel
    exact congrArg dG (of_decide_eq_true (dC (key g) (ev x.ah l e s.tick).1))
  have wrap:∀ {σ':St},WS T (ab T n) (x_run_repeat.body.drop 1) [(DS.rep e g b).v,.obj x.H.ctx,dG (toI2 (ev x.ah l e s.tick).1 g),.ai] σ1 (bj fun v τ=>v=.none∧τ=σ')→
      While T (ab T (n+1)) runTest runTurn f [(DS.rep e g b).v,.obj x.H.ctx,w] σ (After (bj fun v τ=>v=.none∧τ=σ') fun ρ τ=>WS T (ab T (n+1)) runRest ρ τ (bj fun v τ=>v=.none∧τ=σ')):=fun {σ'} h=>by
    refine tail_call hT (st:=.rep e g b) (k:=0) (lZ hf) rfl ?_
    refine ao 6 rfl (s_true rfl (au (cv (bB rfl rfl) (WC.eq (aj (f:=x_run_repeat) (ρ:=[(DS.rep e g b).v,.obj x.H.ctx,.ai,.ai]) (hT.fn _ _ rfl) rfl rfl ?_))) (.ret ⟨rfl,rfl⟩)))
    exact ar (.mk (cv (bB (cv (bB rfl rfl) e1) rfl) ti) ⟨aa rfl,h⟩)
  have le3:=toI2_le (ev x.ah l e s.tick).1 g
  show ∃ σ',_∧MR x.fns x.H σ' fr (times (fun l s=>ex x.ah b l s) ((toI2 (ev x.ah l e s.tick).1 g).getD 0).toNat l (ev x.ah l e s.tick).2).1 (times (fun l s=>ex x.ah b l s) ((toI2 (ev x.ah l e s.tick).1 g).getD 0).toNat l (ev x.ah l e s.tick).2).2 dp∧_
  clear ok hg bw ti e1 hf m;cases hq:toI2 (ev x.ah l e s.tick).1 g with
  | none=>
    rw [hq] at wrap
    exact ⟨σ1,wrap (s_true rfl (au rfl (.ret ⟨rfl,rfl⟩))),m1,k34 k1⟩
  | some j=>
    rw [hq] at wrap le3
    simp only [Option.getD] at le3 ⊢
    by_cases hj:0≤j
    · have mul:j.toNat*(1+b.cost x.cc)≤3*(1+b.cost x.cc):=Nat.mul_le_mul_right _ le3
      refine ay (rep_loop hT hb gb (n:=n) (lZ (bZ hn)) hd (e:=e) (g:=g) j.toNat 64 (w:=.ai) (by lia) m1 (lZ (aZ hs (aZ g0 mul)))) fun σ2 e2 m2 k2=>?_
      refine aT σ2 (wrap (s_false rfl (s_while ?_))) m2 ((k34 k1).trans k2)
      have:=e2 (Q:=After (bj fun v τ=>v=.none∧τ=σ2) fun ρ τ=>WS T (ab T n) [.ret .none] ρ τ (bj fun v τ=>v=.none∧τ=σ2)) (fun ρ=>.aL (au rfl (.ret ⟨rfl,rfl⟩)))
      rw [Int.toNat_of_nonneg hj] at this
      exact this
    · have z:j.toNat=0:=by lia
      refine ag z ?_
      refine aT σ1 (wrap<|s_false rfl<|s_while<|w_while<|.mk (v:=.bool false) (σ':=σ1) ?_<|.mk rfl<|ct rfl<|.aL<|au rfl (.ret ⟨rfl,rfl⟩)) m1 (k34 k1)
      have t:decide ((0:Int) < j)=false:=by simp;lia
      refine cw t ?_;rfl
theorem for_turn (bw:CalOk T x c) (hg:bL x.cc c x.ah) {b:DS} {k:Fin 2} {stp:DS} (hb:StOk T x c b) (hs':StOk T x c stp) (gb:∀ l s,Gd (b.cost x.cc) s (ex x.ah b l s).2) {n:Nat} (hn:max 20 (b.h x.hc)+2≤n) (hn2:stp.h x.hc+2≤n) {dp:Int} (hd:dp+(c:Nat)≤21) {fr:Nat} {σ:St} {l:LL} {s:PS} {w:V} (m:MR x.fns x.H σ fr l s dp) (fit:l.2.b=0) (lt:l.2.a.val < 1+k.val)
    (hs:s.n+1+b.cost x.cc+stp.cost x.cc≤4900):
    ∃ σ',(∀ {f Q},While T (ab T n) whT whB f [(DC.lt k).v,b.v,stp.v,.obj x.H.ctx,.none] σ' Q→While T (ab T n) whT whB (f+1) [(DC.lt k).v,b.v,stp.v,.obj x.H.ctx,w] σ Q)∧
      MR x.fns x.H σ' fr (ex x.ah stp (ex x.ah b l s.tick).1 (ex x.ah b l s.tick).2).1 (ex x.ah stp (ex x.ah b l s.tick).1 (ex x.ah b l s.tick).2).2 dp∧Kp (XS4 x.H fr) σ σ':=by
  refine ay (cond_ok hT bw hg (e:=.lt k) trivial fit m (by simp only [DC.cost];exact lZ hs) hd (n:=n) (by simp only [DC.h];exact lZ (xLlZ hn))) fun σ0 e0 m0 k0=>?_
  refine ay (burn_ok hT m0 (n:=n) (by show s.n < 5000;exact lZ hs) (lZ hn2)) fun σ1 e1 m1 k1=>?_
  refine ay (hb σ1 fr l s.tick dp m1 (by simp only [PS.tick];exact lZ hs) hd n (lZ (xLrZ hn))) fun σ2 e2 m2 k2=>?_
  have g1:(ex x.ah b l s.tick).2.n≤s.n+1+b.cost x.cc:=(gb l s.tick).n
  refine ay (hs' σ2 fr _ _ dp m2 (lZ (aZ hs g1)) hd n hn2) fun σ3 e3 m3 k3=>?_
  refine aT σ3 (fun {f Q} h=>?_) m3 ((((k34 k0).trans (k1.mono fun n h=>by simp only [List.mem_singleton] at h;simp [h])).trans k2).trans k3)
  have t:decide ((evC x.ah l (.lt k) s).1=1)=true:=by
    have:(evC x.ah l (.lt k) s).1=1:=if_pos lt
    refine ag this ?_;rfl
  rw [t] at e0
  refine w_while (w_or<|w_or2<|.mk rfl<|.mk rfl<|ct rfl<|w_or1<|.mk (dj rfl m.ctx rfl (b8 hT rfl) rfl e0)<|.mk rfl<|and_t rfl ?_)
  refine bH (.mk (dj rfl m0.ctx rfl (b8 hT rfl) rfl e1) ⟨.inl rfl,ar (.mk (cv (bB (aC rfl b.cb) rfl) e2) ⟨aa rfl,s_false rfl (bH (.mk (cv (bB (aC rfl stp.cb) rfl) e3) ⟨.inl rfl,aU (.aL h)⟩))⟩)⟩)
theorem for_end (bw:CalOk T x c) (hg:bL x.cc c x.ah) {b stp:V} {k:Fin 2} {n:Nat} (hn:20≤n) {dp:Int} (hd:dp+(c:Nat)≤21) {fr:Nat} {σ:St} {l:LL} {s:PS} {w:V} (m:MR x.fns x.H σ fr l s dp) (fit:l.2.b=0) (lt:¬ l.2.a.val < 1+k.val)
    (hs:s.n≤4900):
    ∃ σ',(∀ {f Q},(∀ ρ,Q .aL ρ σ')→While T (ab T n) whT whB (f+1) [(DC.lt k).v,b,stp,.obj x.H.ctx,w] σ Q)∧MR x.fns x.H σ' fr l s dp∧Kp (XS4 x.H fr) σ σ':=by
  refine ay (cond_ok hT bw hg (e:=.lt k) trivial fit m (by simp only [DC.cost];exact lZ hs) hd (n:=n) (by simp only [DC.h];exact lZ hn)) fun σ0 e0 m0 k0=>?_
  refine aT σ0 (fun {f Q} h=>?_) m0 (k34 k0)
  have t:decide ((evC x.ah l (.lt k) s).1=1)=false:=by
    have:(evC x.ah l (.lt k) s).1=0:=if_neg lt
    refine ag this ?_;rfl
  rw [t] at e0
  exact w_while (w_or<|w_or2<|.mk rfl<|.mk rfl<|ct rfl<|w_or1<|.mk (dj rfl m.ctx rfl (b8 hT rfl) rfl e0)<|.mk rfl<|ct rfl (h _))
theorem tail_for (bw:CalOk T x c) (hg:bL x.cc c x.ah) {k:Fin 2} {b:DS} (fl:b.flat) (hb:StOk T x c b) (gb:∀ l s,Gd (b.cost x.cc) s (ex x.ah b l s).2):TailOk T x c (.for k b):=fun zz σ fr l s dp m hs hd n hn f hf w=>by
  simp only [yk7,yg7] at hs hn
  obtain ⟨n,rfl⟩:∃ m,n=m+2:=⟨n - 2,n2Z (lZ hn)⟩
  have sb:StOk T x c (.set (.loc 1) (.con 0 0)):=bu hT (by decide) (tail_set hT bw hg ⟨trivial,trivial⟩)
  have ss:StOk T x c (.set (.loc 1) (.bin false (.loc 1) (.con 1 0))):=bu hT (by decide) (tail_set hT bw hg ⟨trivial,trivial,trivial⟩)
  refine ay (sb σ fr l s.tick dp m (by simp only [PS.tick,yk1,yc0,DT.cost];exact lZ hs) hd (n+1) (by simp only [yg1,yh0,DT.h];exact gLRZ (lZ (bM hn)) (lZ (bM hn)))) fun σ1 e1 m1 k1=>?_
  have m1':MR x.fns x.H σ1 fr (l.1,⟨0,0⟩) s.tick.tick dp:=m1
  have st1:∀ (p:Vc) (a:Fin 8) (s:PS),ex x.ah (.set (.loc 1) (.bin false (.loc 1) (.con 1 0))) (p,⟨a,0⟩) s=((p,addP ⟨a,0⟩ ⟨1,0⟩),s.tick):=fun zz zz zz=>rfl
  have g1:(ex x.ah b (l.1,⟨0,0⟩) s.tick.tick.tick).2.n≤s.n+3+b.cost x.cc:=(gb (l.1,⟨0,0⟩) s.tick.tick.tick).n
  refine ay (for_turn hT bw hg (k:=k) hb ss gb (n:=n) (lZ hn) (by simp only [yg1,yh0,yh2,yh4,DT.h];exact gLRZ (gLRRZ (lZ (bM hn)) (lZ (bM hn))) (lZ (bM hn))) hd (w:=.ai) m1' rfl (by show (0:Nat) < 1+k.val;lia) (by simp only [PS.tick,yk1,yc0,yc2,yc4,DT.cost];exact lZ hs)) fun σ2 e2 m2 k2=>?_
  have fk:=flat_keeps (ah:=x.ah) fl (l.1,⟨0,0⟩) s.tick.tick.tick
  obtain ⟨p,hp⟩:∃ p,(ex x.ah b (l.1,⟨0,0⟩) s.tick.tick.tick).1=(p,⟨0,0⟩):=⟨_,Prod.ext rfl fk⟩
  rw [hp,st1] at m2
  have ex_for:ex x.ah (.for k b) l s=if k=0 then ((p,⟨1,0⟩),(ex x.ah b (l.1,⟨0,0⟩) s.tick.tick.tick).2.tick) else (((ex x.ah b (p,⟨1,0⟩) (ex x.ah b (l.1,⟨0,0⟩) s.tick.tick.tick).2.tick.tick).1.1,⟨2,0⟩),(ex x.ah b (p,⟨1,0⟩) (ex x.ah b (l.1,⟨0,0⟩) s.tick.tick.tick).2.tick.tick).2.tick):=by
    simp only [yx7,hp]
  refine ag ex_for ?_
  clear fk hp ex_for
  generalize (ex x.ah b (l.1,⟨0,0⟩) s.tick.tick.tick).2=S1 at*
  have wrap:∀ {σ':St},While T (ab T n) whT whB 64 [(DC.lt k).v,b.v,stepV,.obj x.H.ctx,.ai] σ1 (After (bj fun v τ=>v=.none∧τ=σ') fun ρ τ=>WS T (ab T n) [.ret .none] ρ τ (bj fun v τ=>v=.none∧τ=σ'))→
      While T (ab T (n+2)) runTest runTurn f [(DS.for k b).v,.obj x.H.ctx,w] σ (After (bj fun v τ=>v=.none∧τ=σ') fun ρ τ=>WS T (ab T (n+2)) runRest ρ τ (bj fun v τ=>v=.none∧τ=σ')):=fun {σ'} h=>by
    refine tail_call hT (st:=.for k b) (k:=0) (lZ hf) rfl ?_
    refine ao 4 rfl (s_true rfl (au (cv (bB rfl rfl) (WC.eq (aj (f:=x_run_for) (ρ:=[(DS.for k b).v,.obj x.H.ctx]) (hT.fn _ _ rfl) rfl rfl ?_))) (.ret ⟨rfl,rfl⟩)))
    refine bH (.mk (cv (bB rfl rfl) e1) ⟨.inl rfl,au (cv (evs4 rfl rfl rfl rfl) (WC.eq (aj (f:=x_run_while) (ρ:=[(DC.lt k).v,b.v,stepV,.obj x.H.ctx,.ai]) (hT.fn _ _ rfl) rfl rfl ?_))) (.ret ⟨rfl,rfl⟩)⟩)
    exact s_while h
  have m2':MR x.fns x.H σ2 fr (p,⟨1,0⟩) S1.tick dp:=m2
  revert e2 wrap
  refine f2 k ?_ ?_
  · intro e2 wrap
    refine ag (if_pos rfl) ?_
    refine ay (for_end hT bw hg (k:=0) (n:=n) (b:=b.v) (stp:=stepV) (lZ (bM hn)) hd (w:=.none) m2' rfl (by show ¬ (1:Nat) < 1+0;exact Nat.not_lt_of_le l0Z) (by show S1.n+1≤4900;exact lZ (aZ hs g1))) fun σ3 e3 m3 k3=>?_
    exact aT σ3 (wrap (e2 (e3 fun ρ=>.aL (au rfl (.ret ⟨rfl,rfl⟩))))) m3 ((k1.trans k2).trans k3)
  · intro e2 wrap
    refine ag (if_neg (by decide)) ?_
    have g2:(ex x.ah b (p,⟨1,0⟩) S1.tick.tick).2.n≤S1.n+2+b.cost x.cc:=(gb (p,⟨1,0⟩) _).n
    refine ay (for_turn hT bw hg (k:=1) hb ss gb (n:=n) (lZ hn) (by simp only [yg1,yh0,yh2,yh4,DT.h];exact gLRZ (gLRRZ (lZ (bM hn)) (lZ (bM hn))) (lZ (bM hn))) hd (w:=.none) m2' rfl (by show (1:Nat) < 1+1;exact l0Z) (by show S1.n+1+1+b.cost x.cc+1≤4900;exact lZ (aZ hs g1))) fun σ3 e3 m3 k3=>?_
    have fk2:=flat_keeps (ah:=x.ah) fl (p,⟨1,0⟩) S1.tick.tick
    obtain ⟨q,hq⟩:∃ q,(ex x.ah b (p,⟨1,0⟩) S1.tick.tick).1=(q,⟨1,0⟩):=⟨_,Prod.ext rfl fk2⟩
    rw [hq,st1] at m3
    have m3':MR x.fns x.H σ3 fr (q,⟨2,0⟩) (ex x.ah b (p,⟨1,0⟩) S1.tick.tick).2.tick dp:=m3
    refine ay (for_end hT bw hg (k:=1) (n:=n) (b:=b.v) (stp:=stepV) (lZ (bM hn)) hd (w:=.none) m3' rfl (by show ¬ (2:Nat) < 1+1;exact Nat.not_lt_of_le l0Z) (by show (ex x.ah b (p,⟨1,0⟩) S1.tick.tick).2.n+1≤4900;exact lZ (aZ hs (aZ g1 g2)))) fun σ4 e4 m4 k4=>?_
    refine ag hq ?_
    exact aT σ4 (wrap (e2 (e3 (e4 fun ρ=>.aL (au rfl (.ret ⟨rfl,rfl⟩)))))) m4 (((k1.trans k2).trans k3).trans k4)
theorem cW (bw:CalOk T x c) (hg:bL x.cc c x.ah):∀ st:DS,st.ok c→st.dep < 64→TailOk T x c st
  | .none,_,_=>fun h=>absurd rfl h
  | .set t e,ok,_=>tail_set hT bw hg ok
  | .blk2 a b,ok,h=>by
    dsimp only [yd0,yd1,yd2,yd3,yd4,yd5,yd6,yd7] at h
    have ha:=a.cX;have hb:=b.cX
    exact tail_blk2 hT (bu hT (lZ (aZ (bM (tZ h)) ha)) (cW bw hg a ok.1 (lZ (bM (tZ h))))) (bu hT (lZ (aZ (bZ (tZ h)) hb)) (cW bw hg b ok.2 (lZ (bZ (tZ h))))) (cG hg a ok.1)
  | .blk3 a b d,ok,h=>by
    dsimp only [yd0,yd1,yd2,yd3,yd4,yd5,yd6,yd7] at h
    have ha:=a.cX;have hb:=b.cX;have hd:=d.cX
    exact tail_blk3 hT (bu hT (lZ (aZ (bM (tZ h)) ha)) (cW bw hg a ok.1 (lZ (bM (tZ h))))) (bu hT (lZ (aZ (bM (bZ (tZ h))) hb)) (cW bw hg b ok.2.1 (lZ (bM (bZ (tZ h)))))) (bu hT (lZ (aZ (bZ (bZ (tZ h))) hd)) (cW bw hg d ok.2.2 (lZ (bZ (bZ (tZ h)))))) (cG hg a ok.1) (cG hg b ok.2.1)
  | .iff t a b,ok,h=>by
    dsimp only [yd0,yd1,yd2,yd3,yd4,yd5,yd6,yd7] at h
    exact tail_iff hT bw hg ok.1 (cW bw hg a ok.2.1 (lZ (bM (tZ h)))) (cW bw hg b ok.2.2 (lZ (bZ (tZ h))))
  | .case k e l1 l2 l3 a b d,ok,h=>by
    dsimp only [yd0,yd1,yd2,yd3,yd4,yd5,yd6,yd7] at h
    have ha:=a.cX;have hb:=b.cX;have hd:=d.cX
    exact tail_case hT bw hg ok.1 (bu hT (lZ (aZ (bM (tZ h)) ha)) (cW bw hg a ok.2.1 (lZ (bM (tZ h))))) (bu hT (lZ (aZ (bM (bZ (tZ h))) hb)) (cW bw hg b ok.2.2.1 (lZ (bM (bZ (tZ h)))))) (bu hT (lZ (aZ (bZ (bZ (tZ h))) hd)) (cW bw hg d ok.2.2.2 (lZ (bZ (bZ (tZ h))))))
  | .rep e g b,ok,h=>by
    dsimp only [yd0,yd1,yd2,yd3,yd4,yd5,yd6,yd7] at h
    have hb:=b.cX
    exact tail_rep hT bw hg ok.1 (bu hT (lZ (aZ h hb)) (cW bw hg b ok.2 (lZ h))) (cG hg b ok.2)
  | .for k b,ok,h=>by
    dsimp only [yd0,yd1,yd2,yd3,yd4,yd5,yd6,yd7] at h
    have hb:=b.cX
    exact tail_for hT bw hg ok.1 (bu hT (lZ (aZ h hb)) (cW bw hg b ok.2 (lZ h))) (cG hg b ok.2)
theorem st_ok (bw:CalOk T x c) (hg:bL x.cc c x.ah) (st:DS) (ok:st.ok c) (h:st.dep < 64):StOk T x c st:=bu hT (by have:=st.cX;exact lZ (aZ h this)) (cW hT bw hg st ok h)
end
end
section
open PySem
theorem dy {ah cal':Cal} {c:Nat} (h:∀ k:Fin 2,k.val < c→ah k=cal' k) {l:LL}:∀ (e:DE),e.ok c→∀ s,ev ah l e s=ev cal' l e s
  | .con _ _,_,_=>rfl
  | .sig _,_,_=>rfl
  | .loc _,_,_=>rfl
  | .call k e,ok,s=>by simp only [yv3,dy h e ok.2,h k ok.1]
  | .bin x a b,ok,s=>by simp only [yv4,dy h a ok.1,dy h b ok.2]
  | .ext a b,ok,s=>by simp only [yv6,dy h a ok.1,dy h b ok.2]
  | .cnd x t f,ok,s=>by simp only [yv5,dy h x ok.1,dy h t ok.2.1,dy h f ok.2.2]
theorem runFn_congr {ah cal':Cal} {c:Nat} (h:∀ k:Fin 2,k.val < c→ah k=cal' k) {f:Fn} (h1:f.second.ok c) (h2:f.result.ok c) (v:Vc) (s:PS):runFn ah f v s=runFn cal' f v s:=by
  unfold runFn
  simp only [dy h f.second h1,dy h f.result h2]
noncomputable def Fn.l0 (f:Fn) (v:Vc):LL:=match f.port with | none=>(xX,v) | some _=>(xX,xX)
noncomputable def Fn.s0 (f:Fn) (v:Vc) (s:PS):PS:=match f.port with | none=>s | some i=>s.put i v
theorem runFn_ex (ah:Cal) (f:Fn) (v:Vc) (s:PS):runFn ah f v s=((ex ah f.body (f.l0 v) (f.s0 v s)).1.1,(ex ah f.body (f.l0 v) (f.s0 v s)).2):=rfl
section
variable {T:Tab} (hT:bz bE T) {x:Sx}
include hT
theorem frame_ok (k:Fin 2) {v:Vc} {σ fr l s dp} (m:MR x.fns x.H σ fr l s dp) {n:Nat} (hn:6≤n):
    ∃ σ' fr',ab T n 82 [.obj x.H.ctx,.obj (x.H.t k),.lst [v.v]] σ=some (.obj fr',σ')∧σ.length≤fr'∧σ'[fr']?=some (.lst [((x.fns k).l0 v).1.v,((x.fns k).l0 v).2.v])∧MR x.fns x.H σ' fr l ((x.fns k).s0 v s) dp∧Kp (XE3 x.H) σ σ':=by
  obtain ⟨n,rfl⟩:∃ m,n=m+1:=⟨n - 1,cI (lZ hn)⟩
  refine E1A4 (m.th k) fun fs ht hbody hslots hports=>?_
  have m1:=m.app [AO.lst [xX.v,xX.v]]
  refine E1A4 (m1.th k) fun fs1 ht1 zz zz zz=>?_
  have e0:fs1=fs:=by replace ht1:=(aB ht)▸ht1;clear hbody;cases ht1;rfl
  clear hbody;subst e0
  have hfr:(σ++[AO.lst [xX.v,xX.v]])[σ.length]?=some (.lst [xX.v,xX.v]):=bR
  have off3:∀ {τ:St},Kp [x.H.vals] (σ++[AO.lst [xX.v,xX.v]]) τ→τ[σ.length]?=some (.lst [xX.v,xX.v]):=fun k=>k.2 _ _ (by
    refine aq m.S.vals fun d hd zz=>?_
    have:=(List.getElem?_eq_some_iff.mp hd).1
    simp only [List.mem_singleton];exact Nat.ne_of_gt (lZ this)) bR
  have comp:ae T (ab T n) (.comp true (.call 6 [.loc 10]) (.attr (.loc 1) 21) .none) [.obj x.H.ctx,.obj (x.H.t k),.lst [v.v],.ai,.ai,.ai,.ai,.ai,.ai,.ai] σ=some (.obj σ.length,σ++[AO.lst [xX.v,xX.v]]):=by
    have ax:∀ ρ:List V,ρ[10]?=some (.int 3)→ae T (ab T n) (.call 6 [.loc 10]) ρ σ=some (xX.v,σ):=fun ρ h=>cv (evs1 (aC h (nU rfl))) (allx3 hT (lZ hn))
    exact (w_compT (Q:=fun w τ=>w=.obj σ.length∧τ=σ++[AO.lst [xX.v,xX.v]]) (.mk (bK rfl ht (av hT rfl) hslots) ⟨rfl,aA rfl (aa rfl) (.mk (ax _ rfl) (aA rfl (aa rfl) (.mk (ax _ rfl) (cB rfl ⟨aa rfl,rfl,rfl⟩))))⟩)).ok.eq
  have start:∀ {σ':St},Loop T (ab T n) (.tup [5,6,7,8,9]) [.ite (.and [.cmp .eq (.loc 5) (.str 38),.cmp .lt (.loc 4) (.blt .len [.loc 2])]) [.ite (.cmp .eq (.loc 8) (.str 26)) [.asg (.idx (.loc 3) (.loc 9)) (.call 15 [.idx (.loc 2) (.loc 4),.loc 6,.loc 7])] [.ite (.aV (.attr (.loc 0) 3) 8 [.loc 9,.none,.int 0,.call 15 [.idx (.loc 2) (.loc 4),.loc 6,.loc 7]]) [.asg (.idx (.attr (.loc 0) 17) (.loc 9)) (.bool true)] []],.aug (.loc 4) .add (.int 1)] []]
      (.lst [(x.fns k).du]) 64 0 [.obj x.H.ctx,.obj (x.H.t k),.lst [v.v],.obj σ.length,.int 0,.ai,.ai,.ai,.ai,.ai] (σ++[AO.lst [xX.v,xX.v]]) (After (bj fun w τ=>w=.obj σ.length∧τ=σ') fun ρ τ=>WS T (ab T n) [.ret (.loc 3)] ρ τ (bj fun w τ=>w=.obj σ.length∧τ=σ'))→
      ab T (n+1) 82 [.obj x.H.ctx,.obj (x.H.t k),.lst [v.v]] σ=some (.obj σ.length,σ'):=fun {σ'} h=>by
    refine WC.eq (aj (f:=cL) (ρ:=[.obj x.H.ctx,.obj (x.H.t k),.lst [v.v],.ai,.ai,.ai,.ai,.ai,.ai,.ai]) (hT.fn _ _ rfl) rfl rfl ?_)
    exact ar (.mk comp ⟨aa rfl,ao 1 rfl (b6 (.mk (bK rfl ht1 (av hT rfl) hports) ⟨rfl,h⟩))⟩)
  have done:∀ {ρ:List V} {τ:St} {f:Nat} {B:List XS},ρ[3]?=some (V.obj σ.length)→Loop T (ab T n) (.tup [5,6,7,8,9]) B (.lst [(x.fns k).du]) (f+1) 1 ρ τ (After (bj fun w τ'=>w=.obj σ.length∧τ'=τ) fun ρ τ'=>WS T (ab T n) [.ret (.loc 3)] ρ τ' (bj fun w τ''=>w=.obj σ.length∧τ''=τ)):=fun {ρ τ f B} h=>
    cM rfl (.aL (au (aC h (nU rfl)) (.ret ⟨rfl,rfl⟩)))
  clear comp ht1 hports hslots ht;cases hp:(x.fns k).port with
  | none=>
    have pv:(x.fns k).du=.tup [.str 38,.int 3,.bool false,.str 26,.int 1]:=by unfold Fn.du;exact ag hp rfl
    have e1:(x.fns k).l0 v=(xX,v):=by unfold Fn.l0;exact ag hp rfl
    have e2:(x.fns k).s0 v s=s:=by unfold Fn.s0;exact ag hp rfl
    have kk:Kp [σ.length] (σ++[AO.lst [xX.v,xX.v]]) ((σ++[AO.lst [xX.v,xX.v]]).set σ.length (.lst [xX.v,v.v])):=.set List.mem_cons_self _
    have ne:∀ {a:Nat} {o:AO},σ[a]?=some o→a∉[σ.length]:=fun {a o} h=>by
      have:=(List.getElem?_eq_some_iff.mp h).1
      simp only [List.mem_singleton];exact Nat.ne_of_lt (lZ this)
    refine aq m.S.vals fun d hd' zz=>?_
    refine aq m.wr fun d' hw zz=>?_
    refine aq m.ds fun fs' hds zz=>?_
    refine I2A5 ((σ++[AO.lst [xX.v,xX.v]]).set σ.length (.lst [xX.v,v.v])) σ.length (start ?_) (Nat.le_refl _) (by refine ag e1 ?_;exact get_set hfr) ?_ ⟨by simp,fun a o ha ho=>aK (fun e=>by have:=(List.getElem?_eq_some_iff.mp ho).1;lia) (aB ho)⟩
    · rw [pv] at start done ⊢
      refine bQ rfl ⟨rfl,rfl⟩ (s_true rfl (s_true rfl (dE (.mk (cv (evs3 rfl rfl rfl) (ext3_ok hT (lZ hn))) (.mk rfl (.mk rfl (p_lst hfr (by decide) (by decide) (aa rfl) (ao 1 rfl (aU (.aL (done rfl)))))))))))
    · refine ag e2 ?_
      exact m1.kp kk (ne m.S.st) (fun i=>by clear hn e2 e1 pv done start off3 hfr n zz;obtain ⟨fs,h,_⟩:=m.S.sig i;exact ne h) (ne hd') (ne m.ctx) (ne hds) (fun i=>by clear hn e2 e1 pv done start off3 hfr n hds hd' zz;obtain ⟨fs,h,_⟩:=m.th i;exact ne h) (ne hw) (kk.2 _ _ (ne m.fr) m1.fr)
  | some i=>
    have pv:(x.fns k).du=.tup [.str 38,.int 3,.bool false,.str 25,iN i]:=by unfold Fn.du;exact ag hp rfl
    have e1:(x.fns k).l0 v=(xX,xX):=by unfold Fn.l0;exact ag hp rfl
    have e2:(x.fns k).s0 v s=s.put i v:=by unfold Fn.s0;exact ag hp rfl
    refine ay (setb_ok hT m1.S i v (lo:=0) (by decide) (by decide) (n:=n) (lZ hn)) fun σ1 e3 S1 k1=>?_
    rw [putP_in] at e3 S1
    have m2:=mr_same m1 k1 S1
    rw [pv] at start done
    refine ag e1 (ag e2 ?_)
    have hm:∀ {ρ:List V},ae T (ab T n) (.aV (.attr (.loc 0) 3) 8 [.loc 9,.none,.int 0,.call 15 [.idx (.loc 2) (.loc 4),.loc 6,.loc 7]]) [.obj x.H.ctx,.obj (x.H.t k),.lst [v.v],.obj σ.length,.int 0,.str 38,.int 3,.bool false,.str 25,iN i] (σ++[AO.lst [xX.v,xX.v]])=some (.bool (!decide (v=s.sg i)),σ1):=fun {ρ}=>
      dj (bK rfl m1.ctx (av hT rfl) rfl) m1.S.st rfl (b8 hT rfl) (evs4 rfl rfl rfl (cv (evs3 rfl rfl rfl) (ext3_ok hT (lZ hn)))) e3
    have kk:Kp (XE3 x.H) σ σ1:=(Kp.app _ _ _).trans (k1.mono fun n h=>by simp only [List.mem_singleton] at h;simp [h])
    by_cases q:v=s.sg i
    · refine I2A5 σ1 σ.length (start (bQ rfl ⟨rfl,rfl⟩ (s_true rfl (s_false rfl (s_false ?_ (ao 1 rfl (aU (.aL (done rfl))))))))) (Nat.le_refl _) (off3 k1) ?_ kk
      · have:=hm (ρ:=[]);replace this:=(decide_eq_true q)▸this;exact this
      · rw [PS.put_same q] at m2 ⊢;exact m2
    · refine ay (mr_wr m2 i) fun d hw hl m4=>?_
      have nw:x.H.wr≠σ.length:=fun e=>by
        refine aq m.wr fun d' hw' zz=>?_
        have:=(List.getElem?_eq_some_iff.mp hw').1
        lia
      refine I2A5 _ σ.length (start (bQ rfl ⟨rfl,rfl⟩ (s_true rfl (s_false rfl (s_true (σ':=σ1) ?_ (dE (.mk rfl (.mk (bK rfl m2.ctx (av hT rfl) rfl) (.mk rfl (p_dct hw hl (ao 1 rfl (aU (.aL (done rfl)))))))))))))) (Nat.le_refl _) (aK nw (off3 k1)) ?_ (kk.trans (.set (by simp) _))
      · have:=hm (ρ:=[]);replace this:=(decide_eq_false q)▸this;exact this
      · unfold PS.put at m4 ⊢
        rw [if_neg q] at m4 ⊢
        exact m4
theorem call_ok (h900:T.fn 900=some (a0 (.lst [.obj (x.H.t 0),.obj (x.H.t 1)]))) (hgl:T.gl 0=.int 24) (k:Fin 2) (hb:StOk T x k.val (x.fns k).body) (gd0:∀ v s,Gd (x.cc k) s (x.ah k v s).2) (hcc:(x.fns k).body.cost x.cc≤x.cc k) (hh:(x.fns k).body.h x.hc≤x.hc k) (heq:∀ v s,x.ah k v s=runFn x.ah (x.fns k) v s):
    ∀ v σ fr l s dp,MR x.fns x.H σ fr l s dp→s.n+x.cc k≤4900→dp+(k.val:Nat)≤20→∀ n,x.hc k+8≤n→
      ∃ σ',ab T n 81 [.obj x.H.ctx,iN k,.lst [v.v]] σ=some ((x.ah k v s).1.v,σ')∧MR x.fns x.H σ' fr l (x.ah k v s).2 dp∧Kp (XE3 x.H) σ σ':=fun v σ fr l s dp m hs hd n hn=>by
  obtain ⟨n,rfl⟩:∃ m,n=m+1:=⟨n - 1,cI (lZ hn)⟩
  refine E2A5 (frame_ok hT k (v:=v) m (n:=n) (lZ hn)) fun σ1 fr1 e1 hlt hfr1 m1 k1=>?_
  have s0n:((x.fns k).s0 v s).n=s.n:=by unfold Fn.s0;split <;> first | rfl | exact PS.put_n ..
  have m2:=m1.setCtx (fr':=fr1) (l':=(x.fns k).l0 v) (n':=((x.fns k).s0 v s).n) (dp':=dp+1) hfr1
  refine ay (hb _ fr1 _ _ (dp+1) m2 (by show ((x.fns k).s0 v s).n+_≤_;exact lZ (aZ hcc (aZ hs (Nat.le_of_eq s0n)))) (by lia) n (lZ (aZ hh hn))) fun σ3 e3 m3 k3=>?_
  have nfr:fr≠fr1:=fun e=>by have:=(List.getElem?_eq_some_iff.mp m.fr).1;lia
  have fr3:σ3[fr]?=some (.lst [l.1.v,l.2.v]):=by
    refine k3.2 _ _ ?_ (aK (cy m1.ctx m1.fr rfl) m1.fr)
    have:=m.off.2.2.2.2.1
    simp only [List.mem_cons,List.not_mem_nil,or_false,not_or] at this ⊢
    exact ⟨this.1,this.2.1,this.2.2,nfr⟩
  have m4:=m3.setCtx (fr':=fr) (l':=l) (n':=(ex x.ah (x.fns k).body ((x.fns k).l0 v) ((x.fns k).s0 v s)).2.n) (dp':=dp) fr3
  refine aT _ ?_ (by refine ag (heq ..) (ag (runFn_ex ..) ?_);exact m4) ?_
  · refine ag (heq ..) (ag (runFn_ex ..) ?_)
    refine WC.eq (aj (f:=dR) (ρ:=[.obj x.H.ctx,iN k,.lst [v.v],.ai,.ai,.ai]) (hT.fn _ _ rfl) rfl rfl ?_)
    have t0:ae T (ab T n) (.cmp .ge (.attr (.loc 0) 16) (.gl 0)) [.obj x.H.ctx,iN k,.lst [v.v],.ai,.ai,.ai] σ=some (.bool false,σ):=by
      have q:decide ((24:Int)≤dp)=false:=by simp only [decide_eq_false_iff_not];lia
      refine (bT (Q:=fun w τ=>w=.bool false∧τ=σ) (.mk (bK rfl m.ctx (av hT rfl) rfl) (w_gl ?_))).ok.eq
      refine ag hgl ?_
      exact .mk (w:=false) (by show some (decide ((24:Int)≤dp))=_;exact ag q rfl) ⟨rfl,rfl⟩
    have rt:ab T n 900 [iN k] σ=some (.obj (x.H.t k),σ):=by
      obtain ⟨n,rfl⟩:∃ m,n=m+1:=⟨n - 1,cI (lZ hn)⟩
      refine WC.eq (aj (f:=a0 (.lst [.obj (x.H.t 0),.obj (x.H.t 1)])) (ρ:=[iN k,.lst [.obj (x.H.t 0),.obj (x.H.t 1)]]) h900 rfl rfl ?_)
      refine f2 k ?_ ?_ <;> exact au rfl (.ret ⟨rfl,rfl⟩)
    refine aq m.ds fun fsd hds hdf=>?_
    refine s_false t0 (ar (.mk (mv_dyn (bK rfl m.ctx (av hT rfl) rfl) hds hdf (by refine ag hT.dyn ?_;rfl) rfl rt) ⟨aa rfl,ar (.mk (bK rfl m.ctx (av hT rfl) rfl) ⟨aa rfl,?_⟩)⟩))
    refine s_asgA (.mk (dj rfl m.ctx rfl (b8 hT rfl) (bB rfl rfl) e1) (.mk rfl (p_attr m1.ctx (av hT rfl) (aa rfl) ?_)))
    have c1:(σ1.set x.H.ctx (.inst 5 (putF 4 (.obj fr1) (ctxF x.H fr ((x.fns k).s0 v s).n dp))))[x.H.ctx]?=some (.inst 5 (ctxF x.H fr1 ((x.fns k).s0 v s).n dp)):=get_set m1.ctx
    refine s_augA (.mk rfl (g_attr c1 (av hT rfl) rfl (.mk rfl (.mk rfl (p_attr c1 (av hT rfl) (aa rfl) ?_)))))
    refine ag (List.set_set ..) ?_
    refine ay (m2.th k) fun fst hth hbd _=>?_
    refine s_tryf (bH (.mk (cv (bB (bK rfl hth (av hT rfl) hbd) rfl) e3) ⟨.inl rfl,ar (.mk (dw (bK rfl m3.ctx (av hT rfl) rfl) rfl (l:=[_,_]) (by simp only [bk,m3.fr];rfl) rfl rfl) ⟨aa rfl,aU ?_⟩)⟩))
    refine s_asgA (.mk rfl (.mk rfl (p_attr m3.ctx (av hT rfl) (aa rfl) ?_)))
    have c3:(σ3.set x.H.ctx (.inst 5 (putF 4 (.obj fr) (ctxF x.H fr1 (ex x.ah (x.fns k).body ((x.fns k).l0 v) ((x.fns k).s0 v s)).2.n (dp+1)))))[x.H.ctx]?=some (.inst 5 (ctxF x.H fr (ex x.ah (x.fns k).body ((x.fns k).l0 v) ((x.fns k).s0 v s)).2.n (dp+1))):=get_set m3.ctx
    refine s_augA (.mk rfl (g_attr c3 (av hT rfl) rfl (.mk rfl (.mk rfl (p_attr c3 (av hT rfl) (aa rfl) (aU ⟨rfl,.aL (au rfl (.ret ⟨rfl,?_⟩))⟩))))))
    refine ag (List.set_set ..) ?_
    have e:dp+1 - 1=dp:=by lia
    show σ3.set x.H.ctx (.inst 5 [(3,.obj x.H.st),(4,.obj fr),(13,.int 0),(14,.obj x.H.ds),(15,.int (5000 - ((ex x.ah (x.fns k).body ((x.fns k).l0 v) ((x.fns k).s0 v s)).2.n:Nat))),(16,.int (dp+1 - 1)),(17,.obj x.H.wr)])=_
    refine ag (e ..) ?_;rfl
  · have kb:Kp (XS4 x.H fr1) σ1 (σ3.set x.H.ctx (.inst 5 (ctxF x.H fr (ex x.ah (x.fns k).body ((x.fns k).l0 v) ((x.fns k).s0 v s)).2.n dp))):=((Kp.set (.head _) _).trans k3).trans (.set (.head _) _)
    refine ⟨Nat.le_trans k1.1 kb.1,fun a o ha ho=>kb.2 _ _ ?_ (k1.2 _ _ ha ho)⟩
    have:=(List.getElem?_eq_some_iff.mp ho).1
    simp only [List.mem_cons,List.not_mem_nil,or_false,not_or] at ha ⊢
    exact ⟨ha.1,ha.2.1,ha.2.2,Nat.ne_of_lt (lZ (aZ hlt this))⟩
end
end
section
open PySem
structure Qd where
  sg:Nat
  told:Nat
  t:Fin 2→Nat
noncomputable def Qd.fs (q:Qd):V:=.lst [.obj (q.t 0),.obj (q.t 1)]
structure QR (fns:Fin 2→Fn) (q:Qd) (σ:St) (fr:Nat) (l:LL) (s:PS):Prop where
  n1:q.sg≠fr
  n2:q.told≠fr
  sg:σ[q.sg]?=some (.lst [(s.sg 0).r,(s.sg 1).r,(s.sg 2).r,(s.sg 3).r])
  fr:σ[fr]?=some (.lst [l.1.r,l.2.r])
  told:σ[q.told]?=some (.lst (iN s.n :: s.log.map iN))
  th:∀ k,∃ fs,σ[q.t k]?=some (.inst 7 fs)∧cn 20 fs=some (fns k).body.v∧cn 22 fs=some (.lst [(fns k).du])
  n3:q.sg≠q.told
noncomputable abbrev XM2 (q:Qd):List Nat:=[q.sg,q.told]
noncomputable abbrev XM3 (q:Qd) (fr:Nat):List Nat:=[q.sg,q.told,fr]
structure Qx where
  fns:Fin 2→Fn
  q:Qd
  ah:Cal
  cc:Fin 2→Nat
  hc:Fin 2→Nat
noncomputable abbrev Qx.args (x:Qx) (e:V) (fr:Nat):List V:=[e,.obj x.q.sg,.obj fr,x.q.fs,.obj x.q.told]
section
variable (T:Tab) (x:Qx)
noncomputable def QCal (c:Nat):Prop:=∀ k:Fin 2,k.val < c→∀ (e:DE) (σ σ1:St) (fr:Nat) (l:LL) (s1:PS) (v:Vc) (n:Nat),ab T n 114 (x.args e.v fr) σ=some (v.r,σ1)→QR x.fns x.q σ1 fr l s1→s1.log.length≤s1.n→s1.n+x.cc k≤900→2*x.hc k+4≤n→
  ∃ σ',ab T (n+1) 113 (x.args (DE.call k e).v fr) σ=some ((x.ah k v s1).1.r,σ')∧QR x.fns x.q σ' fr l (x.ah k v s1).2∧Kp (XM2 x.q) σ1 σ'
noncomputable def VOk (c:Nat) (e:DE):Prop:=∀ σ fr l s,QR x.fns x.q σ fr l s→s.log.length≤s.n→s.n+e.cost x.cc≤900→∀ n,2*e.h x.hc+6≤n→
  ∃ σ',ab T n 114 (x.args e.v fr) σ=some ((ev x.ah l e s).1.r,σ')∧QR x.fns x.q σ' fr l (ev x.ah l e s).2∧Kp (XM2 x.q) σ σ'
end
theorem ext_r (u v:Vc):V.lst [iN (andT (trP u) (trP v)),.int 0,.int 0]=(extP u v).r:=by
  unfold extP
  rcases cV u with e | e | e <;> rcases cV v with e' | e' | e' <;> refine ag e (ag e' ?_) <;> rfl
theorem cQ {T:Tab} {C:aw} {ρ:List V} {σ σ1 σ2 σ3 σ4 σ5:St} {e e' e2 e3 e4:XE} {v v' v2 v3 v4:V} (h:ae T C e ρ σ=some (v,σ1)) (h':ae T C e' ρ σ1=some (v',σ2)) (h2:ae T C e2 ρ σ2=some (v2,σ3)) (h3:ae T C e3 ρ σ3=some (v3,σ4)) (h4:ae T C e4 ρ σ4=some (v4,σ5)):bp T C [e,e',e2,e3,e4] ρ σ=some ([v,v',v2,v3,v4],σ5):=ak h (ak (ak h' (ak (ak h2 (ak (ak h3 (ak (ak h4 rfl) rfl)) rfl)) rfl)) rfl)
section
variable {T:Tab} (hT:bz bE T) {x:Qx} {c:Nat}
include hT
theorem ltr1_ok {c:Fin 4} {n:Nat} {σ:St} (h:1≤n):ab T n 110 [.lst [iN c]] σ=some (iN (if c.val=2 then 3 else c.val),σ):=
  pure_run (hT.fn _ _ rfl) h fun C=>bW (f:=fun c:Fin 4=>runF T C x__law_true [.lst [iN c]] σ) (g:=fun c=>some (iN (if c.val=2 then 3 else c.val),σ)) (l:=[0,1,2,3]) (by kernel_rfl) c (by revert c;decide)
theorem andv_ok {a b:DE} (ha:VOk T x c a) (hb:VOk T x c b) (gd:∀ l s,Gd (a.cost x.cc) s (ev x.ah l a s).2) {σ fr l s} (m:QR x.fns x.q σ fr l s) (lg:s.log.length≤s.n) (hs:s.n+(a.cost x.cc+b.cost x.cc)≤900) {n:Nat} (hn:2*max (a.h x.hc) (b.h x.hc)+7≤n):
    ∃ σ',ab T n 114 (x.args (.tup [.str 27,.int 1,.str 23,a.v,b.v,.bool false]) fr) σ=some (.lst [iN (andT (trP (ev x.ah l a s).1) (trP (ev x.ah l b (ev x.ah l a s).2).1))],σ')∧QR x.fns x.q σ' fr l (ev x.ah l b (ev x.ah l a s).2).2∧Kp (XM2 x.q) σ σ':=by
  obtain ⟨n,rfl⟩:∃ m,n=m+1:=⟨n - 1,cI (lZ hn)⟩
  have g:=(gd l s).n
  have gl:=(gd l s).log
  refine ay (ha σ fr l s m lg (lZ hs) n (lZ (xLMlZ hn))) fun σ1 e1 m1 k1=>?_
  refine ay (hb σ1 fr l _ m1 (lZ (aZ lg gl)) (lZ (aZ hs g)) n (lZ (xLMrZ hn))) fun σ2 e2 m2 k2=>?_
  refine aT σ2 ?_ m2 (k1.trans k2)
  refine WC.eq (aj (f:=aR) (ρ:=x.args (.tup [.str 27,.int 1,.str 23,a.v,b.v,.bool false]) fr++[.ai,.ai,.ai,.ai]) (hT.fn _ _ rfl) rfl rfl ?_)
  refine ao 7 rfl (s_true rfl (ar (.mk (cv (cQ rfl rfl rfl rfl rfl) e1) ⟨aa rfl,?_⟩)))
  exact au (cv (evs3 rfl rfl (cv (cQ rfl rfl rfl rfl rfl) e2)) (land2_ok hT (lZ hn))) (.ret ⟨rfl,rfl⟩)
theorem v_ok (hc:QCal T x c) (hg:bL x.cc c x.ah):∀ e:DE,e.ok c→VOk T x c e
  | .con a b,ok=>fun σ fr l s m lg hs n hn=>by
    clear hg hc ok hs lg;obtain ⟨n,rfl⟩:∃ m,n=m+1:=⟨n - 1,cI (lZ hn)⟩
    refine aT σ ?_ m (.refl _ _)
    refine WC.eq (aj (f:=aR) (ρ:=x.args (DE.con a b).v fr++[.ai,.ai,.ai,.ai]) (hT.fn _ _ rfl) rfl rfl ?_)
    exact ao 1 rfl (s_true rfl (au con_ev (.ret ⟨rfl,rfl⟩)))
  | .sig i,ok=>fun σ fr l s m lg hs n hn=>by
    clear hg hc ok hs lg;obtain ⟨n,rfl⟩:∃ m,n=m+1:=⟨n - 1,cI (lZ hn)⟩
    refine aT σ ?_ m (.refl _ _)
    refine WC.eq (aj (f:=aR) (ρ:=x.args (DE.sig i).v fr++[.ai,.ai,.ai,.ai]) (hT.fn _ _ rfl) rfl rfl ?_)
    refine ao 2 rfl (s_true rfl (bI (w_blt (af (.mk (v:=(s.sg i).r) (σ':=σ) (dw rfl rfl (l:=[(s.sg 0).r,(s.sg 1).r,(s.sg 2).r,(s.sg 3).r]) ?_ ?_ ?_) (aP (.mk rfl (.ret ⟨rfl,rfl⟩))))))))
    · simp only [bk,m.sg]
    · refine f4 i ?_ ?_ ?_ ?_ <;> rfl
    · refine f4 i ?_ ?_ ?_ ?_ <;> rfl
  | .loc i,ok=>fun σ fr l s m lg hs n hn=>by
    clear hg hc ok hs lg;obtain ⟨n,rfl⟩:∃ m,n=m+1:=⟨n - 1,cI (lZ hn)⟩
    refine aT σ ?_ m (.refl _ _)
    refine WC.eq (aj (f:=aR) (ρ:=x.args (DE.loc i).v fr++[.ai,.ai,.ai,.ai]) (hT.fn _ _ rfl) rfl rfl ?_)
    refine ao 3 rfl (s_true rfl (bI (w_blt (af (.mk (v:=(l.get i).r) (σ':=σ) (dw rfl rfl (l:=[l.1.r,l.2.r]) ?_ ?_ ?_) (aP (.mk rfl (.ret ⟨rfl,rfl⟩))))))))
    · simp only [bk,m.fr]
    · refine f2 i ?_ ?_ <;> rfl
    · refine f2 i ?_ ?_ <;> rfl
  | .call k e,ok=>fun σ fr l s m lg hs n hn=>by
    obtain ⟨n,rfl⟩:∃ m,n=m+2:=⟨n - 2,n2Z (lZ hn)⟩
    have g:=(aO (l:=l) hg e ok.2 s).n
    have gl:=(aO (l:=l) hg e ok.2 s).log
    simp only [yc3,yh3] at hs hn
    refine ay (v_ok hc hg e ok.2 σ fr l s m lg (lZ hs) n (lZ (dD hn))) fun σ1 e1 m1 k1=>?_
    refine ay (hc k ok.1 e σ σ1 fr l _ _ n e1 m1 (lZ (aZ lg gl)) (lZ (aZ hs g)) (lZ (de hn))) fun σ2 e2 m2 k2=>?_
    refine aT σ2 ?_ m2 (k1.trans k2)
    refine WC.eq (aj (f:=aR) (ρ:=x.args (DE.call k e).v fr++[.ai,.ai,.ai,.ai]) (hT.fn _ _ rfl) rfl rfl ?_)
    exact ao 4 rfl (s_true rfl (au (cv rfl e2) (.ret ⟨rfl,rfl⟩)))
  | .bin b p q,ok=>fun σ fr l s m lg hs n hn=>by
    obtain ⟨n,rfl⟩:∃ m,n=m+1:=⟨n - 1,cI (lZ hn)⟩
    have g:=(aO (l:=l) hg p ok.1 s).n
    have gl:=(aO (l:=l) hg p ok.1 s).log
    simp only [yc4,yh4] at hs hn
    refine ay (v_ok hc hg p ok.1 σ fr l s m lg (lZ hs) n (lZ (dD hn))) fun σ1 e1 m1 k1=>?_
    refine ay (v_ok hc hg q ok.2 σ1 fr l _ m1 (lZ (aZ lg gl)) (lZ (aZ hs g)) n (lZ (de hn))) fun σ2 e2 m2 k2=>?_
    refine aT σ2 ?_ m2 (k1.trans k2)
    refine WC.eq (aj (f:=aR) (ρ:=x.args (DE.bin b p q).v fr++[.ai,.ai,.ai,.ai]) (hT.fn _ _ rfl) rfl rfl ?_)
    refine ao 7 rfl (s_true rfl (ar (.mk (cv (cQ rfl rfl rfl rfl rfl) e1) ⟨aa rfl,?_⟩)))
    clear hg hc ok gl g k2 m2 k1 m1 e1 hs lg m σ;cases b
    · exact au (cv (evs3 rfl rfl (cv (cQ rfl rfl rfl rfl rfl) e2)) (ladd_ok hT (lZ hn))) (.ret ⟨rfl,rfl⟩)
    · exact au (cv (evs3 rfl rfl (cv (cQ rfl rfl rfl rfl rfl) e2)) (lxor_ok hT (lZ hn))) (.ret ⟨rfl,rfl⟩)
  | .ext p q,ok=>fun σ fr l s m lg hs n hn=>by
    obtain ⟨n,rfl⟩:∃ m,n=m+1:=⟨n - 1,cI (lZ hn)⟩
    simp only [yc6,yh6] at hs hn
    refine ay (andv_ok hT (v_ok hc hg p ok.1) (v_ok hc hg q ok.2) (fun l s=>aO hg p ok.1 s) m lg hs (n:=n) (lZ hn)) fun σ1 e1 m1 k1=>?_
    refine aT σ1 ?_ m1 k1
    refine WC.eq (aj (f:=aR) (ρ:=x.args (DE.ext p q).v fr++[.ai,.ai,.ai,.ai]) (hT.fn _ _ rfl) rfl rfl ?_)
    exact ao 5 rfl (s_true rfl (bI (dt (.mk (cv (cQ rfl rfl rfl rfl rfl) e1) (.mk rfl (.mk rfl (.ret ⟨ext_r _ _,rfl⟩)))))))
  | .cnd p q r,ok=>fun σ fr l s m lg hs n hn=>by
    obtain ⟨n,rfl⟩:∃ m,n=m+1:=⟨n - 1,cI (lZ hn)⟩
    have g:=(aO (l:=l) hg p ok.1 s).n
    have gl:=(aO (l:=l) hg p ok.1 s).log
    simp only [yc5,yh5] at hs hn
    refine ay (v_ok hc hg p ok.1 σ fr l s m lg (lZ hs) n (lZ (dD hn))) fun σ1 e1 m1 k1=>?_
    have hq:=v_ok hc hg q ok.2.1 σ1 fr l _ m1 (lZ (aZ lg gl)) (lZ (aZ hs g)) n (lZ (dD (de hn)))
    have hr:=v_ok hc hg r ok.2.2 σ1 fr l _ m1 (lZ (aZ lg gl)) (lZ (aZ hs g)) n (lZ (de (de hn)))
    have g2:=(aO (l:=l) hg q ok.2.1 (ev x.ah l p s).2).n
    have gl2:=(aO (l:=l) hg q ok.2.1 (ev x.ah l p s).2).log
    have run:∀ {σ' v},WS T (ab T n) (aR.body.drop 9) (x.args (DE.cnd p q r).v fr++[.str 33,.ai,iN (trP (ev x.ah l p s).1),.ai]) σ1 (bj fun v' σ2=>v'=v∧σ2=σ')→ab T (n+1) 114 (x.args (DE.cnd p q r).v fr) σ=some (v,σ'):=fun h=>by
      refine WC.eq (aj (f:=aR) (ρ:=x.args (DE.cnd p q r).v fr++[.ai,.ai,.ai,.ai]) (hT.fn _ _ rfl) rfl rfl ?_)
      exact ao 8 rfl (ar (.mk (cv (evs1 (cv (cQ rfl rfl rfl rfl rfl) e1)) (ltr_ok hT (lZ hn))) ⟨aa rfl,h⟩))
    clear m1 e1 m;rcases cV (ev x.ah l p s).1 with e | e | e
    · refine ay hr fun σ2 e2 m2 k2=>?_
      clear hr
      have q1:ev x.ah l (.cnd p q r) s=ev x.ah l r (ev x.ah l p s).2:=by simp only [yv5,e];simp
      refine ag q1 ?_
      refine aT σ2 (run ?_) m2 (k1.trans k2)
      refine ag e ?_
      exact s_true rfl (au (cv (cQ rfl rfl rfl rfl rfl) e2) (.ret ⟨rfl,rfl⟩))
    · refine ay hq fun σ2 e2 m2 k2=>?_
      clear hq
      have q1:ev x.ah l (.cnd p q r) s=ev x.ah l q (ev x.ah l p s).2:=by simp only [yv5,e];simp
      refine ag q1 ?_
      refine aT σ2 (run ?_) m2 (k1.trans k2)
      refine ag e ?_
      exact s_true rfl (au (cv (cQ rfl rfl rfl rfl rfl) e2) (.ret ⟨rfl,rfl⟩))
    · refine ay hq fun σ2 e2 m2 k2=>?_
      clear hq
      refine ay (v_ok hc hg r ok.2.2 σ2 fr l _ m2 (lZ (aZ lg (aZ gl gl2))) (lZ (aZ hs (aZ g g2))) n (lZ (de (de hn)))) fun σ3 e3 m3 k3=>?_
      have q1:ev x.ah l (.cnd p q r) s=(mixP (ev x.ah l q (ev x.ah l p s).2).1 (ev x.ah l r (ev x.ah l q (ev x.ah l p s).2).2).1,(ev x.ah l r (ev x.ah l q (ev x.ah l p s).2).2).2):=by simp only [yv5,e];simp
      refine ag q1 ?_
      refine aT σ3 (run ?_) m3 ((k1.trans k2).trans k3)
      refine ag e ?_
      refine s_false rfl (ar (.mk (cv (cQ rfl rfl rfl rfl rfl) e2) ⟨aa rfl,ar (.mk (cv (cQ rfl rfl rfl rfl rfl) e3) ⟨aa rfl,?_⟩)⟩))
      refine au (comp3 rfl (xm0 (dgF _ 0) (dgF _ 0)) (xm1 (dgF _ 1) (dgF _ 1)) (xm2 (dgF _ 2) (dgF _ 2))) (.ret ⟨?_,rfl⟩)
      refine dJ (mix_dg (ev x.ah l q (ev x.ah l p s).2).1 (ev x.ah l r (ev x.ah l q (ev x.ah l p s).2).2).1) fun h0 h1 h2=>?_
      refine ag h0 (ag h1 (ag h2 ?_));rfl
end
end
section
open PySem
noncomputable def rowsV (s:PS):List V:=[(s.sg 0).r,(s.sg 1).r,(s.sg 2).r,(s.sg 3).r]
theorem rowsV_set (s:PS) (i:Fin 4) (v:Vc):(rowsV s).set (i.val:Int).toNat v.r=rowsV ⟨fun j=>if j=i then v else s.sg j,s.log++[i.val],s.n⟩:=by
  refine f4 i ?_ ?_ ?_ ?_ <;> rfl
theorem rowsV_get (s:PS) (i:Fin 4):idxL (rowsV s) (i.val:Nat)=some (s.sg i).r:=by
  refine f4 i ?_ ?_ ?_ ?_ <;> rfl
section
variable {fns:Fin 2→Fn} {q:Qd} {σ σ':St} {fr:Nat} {l:LL} {s:PS}
theorem QR.th_off (m:QR fns q σ fr l s) (k:Fin 2):q.t k∉XM3 q fr:=by
  refine aq (m.th k) fun fs h zz=>?_
  simp only [List.mem_cons,List.not_mem_nil,or_false,not_or]
  exact ⟨cy h m.sg rfl,cy h m.told rfl,cy h m.fr rfl⟩
theorem QR.th_kp (m:QR fns q σ fr l s) (k:Kp (XM3 q fr) σ σ'):∀ k,∃ fs,σ'[q.t k]?=some (.inst 7 fs)∧cn 20 fs=some (fns k).body.v∧cn 22 fs=some (.lst [(fns k).du]):=fun j=>
  aq (m.th j) fun fs h r=>(aI fs (k.2 _ _ (m.th_off j) h) r)
theorem QR.tick (m:QR fns q σ fr l s):QR fns q (σ.set q.told (.lst (iN (s.n+1) :: s.log.map iN))) fr l s.tick:=
  ⟨m.n1,m.n2,aK m.n3.symm m.sg,aK m.n2 m.fr,get_set m.told,m.th_kp (.set (.tail _ (.head _)) _),m.n3⟩
theorem QR.write (m:QR fns q σ fr l s) (i:Fin 4) (v:Vc):QR fns q ((σ.set q.sg (.lst ((rowsV s).set (i.val:Int).toNat v.r))).set q.told (.lst ((iN s.n :: s.log.map iN)++[iN i]))) fr l ⟨fun j=>if j=i then v else s.sg j,s.log++[i.val],s.n⟩:=by
  have t:(σ.set q.sg (.lst ((rowsV s).set (i.val:Int).toNat v.r)))[q.told]?=some (.lst (iN s.n :: s.log.map iN)):=aK m.n3 m.told
  refine ⟨m.n1,m.n2,?_,aK m.n2 (aK m.n1 m.fr),?_,m.th_kp ((Kp.set (by simp) _).trans (.set (by simp) _)),m.n3⟩
  · refine ag (aK m.n3.symm rfl ..) (ag (rowsV_set ..) ?_);exact get_set m.sg
  · refine ag (get_set t) ?_;simp
theorem QR.setFr (m:QR fns q σ fr l s) (l':LL):QR fns q (σ.set fr (.lst [l'.1.r,l'.2.r])) fr l' s:=
  ⟨m.n1,m.n2,aK m.n1.symm m.sg,get_set m.fr,aK m.n2.symm m.told,m.th_kp (.set (by simp) _),m.n3⟩
theorem QR.app (m:QR fns q σ fr l s) (τ:St):QR fns q (σ++τ) fr l s:=⟨m.n1,m.n2,aB m.sg,aB m.fr,aB m.told,m.th_kp (.app _ _ _),m.n3⟩
end
section
variable {T:Tab} (hT:bz bE T) {x:Qx} {c:Nat}
include hT
theorem fin_sig {σ:St} {fr:Nat} {l:LL} {s:PS} (m:QR x.fns x.q σ fr l s) (lg:s.log.length≤950) {C:aw} {i:Fin 4} {p:Vc} {lo:Int} {w z9 z10 z12:V}:
    ∃ σ',WS T C (x__law_set.body.drop 4) (x.args w fr++[p.r,.str 25,.int 3,iN i,z9,z10,.int lo,z12,.ai,.ai]) σ (bj fun v τ=>v=.none∧τ=σ')∧QR x.fns x.q σ' fr l (s.put i (cg lo (s.sg i) p))∧Kp (XM2 x.q) σ σ':=by
  have old:ae T C (.ite (.cmp .eq (.loc 6) (.str 25)) (.idx (.loc 1) (.loc 8)) (.idx (.loc 2) (.loc 8))) (x.args w fr++[p.r,.str 25,.int 3,iN i,z9,z10,.int lo,z12,.ai,.ai]) σ=some ((s.sg i).r,σ):=by
    have e:ae T C (.idx (.loc 1) (.loc 8)) (x.args w fr++[p.r,.str 25,.int 3,iN i,z9,z10,.int lo,z12,.ai,.ai]) σ=some ((s.sg i).r,σ):=by
      refine dw rfl rfl (l:=rowsV s) (by simp only [bk,m.sg];rfl) ?_ (rowsV_get s i)
      match i with | 0=>rfl | 1=>rfl | 2=>rfl | 3=>rfl
    exact (w_ite (Q:=fun v τ=>v=(s.sg i).r∧τ=σ) (.mk rfl (.mk rfl (and_t rfl (.mk e ⟨rfl,rfl⟩))))).ok.eq
  have ne:ae T C (.cmp .ne (.loc 14) (.loc 13)) (x.args w fr++[p.r,.str 25,.int 3,iN i,z9,z10,.int lo,z12,(s.sg i).r,(cg lo (s.sg i) p).r]) σ=some (.bool (!decide (cg lo (s.sg i) p=s.sg i)),σ):=by
    refine (bT (Q:=fun v τ=>v=.bool (!decide (cg lo (s.sg i) p=s.sg i))∧τ=σ) (.mk rfl (.mk rfl (.mk (w:=!decide (cg lo (s.sg i) p=s.sg i)) ?_ ⟨rfl,rfl⟩)))).ok.eq
    show (cmpV σ .eq (cg lo (s.sg i) p).r (s.sg i).r).map (!·)=_
    refine ag (row_eq ..) ?_;rfl
  by_cases q:cg lo (s.sg i) p=s.sg i
  · refine aT σ ?_ (by refine ag (PS.put_same q) ?_;exact m) (.refl _ _)
    rw [decide_eq_true q] at ne
    exact ar (.mk old ⟨aa rfl,ar (.mk now_ev ⟨aa rfl,s_false rfl (s_false ne (aU (.aL ⟨rfl,rfl⟩)))⟩)⟩)
  · rw [decide_eq_false q] at ne
    have t:(σ.set x.q.sg (.lst ((rowsV s).set (i.val:Int).toNat (cg lo (s.sg i) p).r)))[x.q.told]?=some (.lst (iN s.n :: s.log.map iN)):=aK m.n3 m.told
    refine aT _ ?_ (by unfold PS.put;refine ag (if_neg q) ?_;exact m.write i (cg lo (s.sg i) p)) ((Kp.set (by simp) _).trans (.set (by simp) _))
    refine ar (.mk old ⟨aa rfl,ar (.mk now_ev ⟨aa rfl,s_false rfl (s_true ne (dE (.mk rfl (.mk rfl (.mk rfl (p_lst (l:=rowsV s) m.sg (by omega) ?_ (aa rfl) ?_))))))⟩)⟩)
    · show ((i.val:Nat):Int) < 4;omega
    · refine bH (.mk (mv_app rfl t rfl t ?_) ⟨.inl rfl,aU (.aL ⟨rfl,rfl⟩)⟩)
      simp;exact lZ lg
theorem mset_ok (hc:QCal T x c) (hg:bL x.cc c x.ah) {t:DT} {e:DE} (ht:t.ok c) (he:e.ok c) {σ fr l s} (m:QR x.fns x.q σ fr l s) (lg:s.log.length≤s.n) (hs:s.n+(e.cost x.cc+t.cost x.cc)≤900) {n:Nat} (hn:2*max (e.h x.hc) (t.h x.hc)+8≤n):
    ∃ σ',ab T n 116 (x.args (setV t.v e.v) fr) σ=some (.none,σ')∧QR x.fns x.q σ' fr (exSet' x.ah l t e s).1 (exSet' x.ah l t e s).2∧Kp (XM3 x.q fr) σ σ':=by
  obtain ⟨n,rfl⟩:∃ m,n=m+1:=⟨n - 1,cI (lZ hn)⟩
  have G:=aO (l:=l) hg e he s
  have g:=G.n;have gl:=G.log
  refine ay (v_ok hT hc hg e he σ fr l s m lg (lZ hs) n (lZ (xLMlZ hn))) fun σ1 e1 m1 k1=>?_
  have k23:∀ {a b:St},Kp (XM2 x.q) a b→Kp (XM3 x.q fr) a b:=fun k=>k.mono fun n h=>by simp only [List.mem_cons,List.not_mem_nil,or_false] at *;rcases h with h | h <;> simp [h]
  have run:∀ {σ'},WS T (ab T n) (x__law_set.body.drop 1) (x.args (setV t.v e.v) fr++[(ev x.ah l e s).1.r,.ai,.ai,.ai,.ai,.ai,.ai,.ai,.ai,.ai]) σ1 (bj fun v τ=>v=.none∧τ=σ')→ab T (n+1) 116 (x.args (setV t.v e.v) fr) σ=some (.none,σ'):=fun h=>by
    refine WC.eq (aj (f:=x__law_set) (ρ:=x.args (setV t.v e.v) fr++[.ai,.ai,.ai,.ai,.ai,.ai,.ai,.ai,.ai,.ai]) (hT.fn _ _ rfl) rfl rfl ?_)
    exact ar (.mk (cv (cQ rfl rfl rfl rfl rfl) e1) ⟨aa rfl,h⟩)
  cases t with
  | sig i=>
    refine ay (fin_sig hT m1 (lZ (aZ lg (aZ g (aZ gl hs)))) (C:=ab T n) (i:=i) (p:=(ev x.ah l e s).1) (lo:=0) (w:=setV (DT.sig i).v e.v) (z9:=.none) (z10:=wAt) (z12:=.ai)) fun σ2 e2 m2 k2=>?_
    rw [putP_in] at m2
    exact ⟨σ2,run (ao 3 rfl e2),m2,(k23 k1).trans (k23 k2)⟩
  | loc i=>
    refine aT _ (run (ao 3 rfl (ar (.mk (v:=(l.get i).r) (σ':=σ1) ?_ ⟨aa rfl,ar (.mk now_ev ⟨aa rfl,s_true rfl (dE (.mk rfl (.mk rfl (.mk rfl (p_lst m1.fr (by omega) ?_ (aa rfl) (aU (.aL ⟨rfl,rfl⟩)))))))⟩)⟩)))) ?_ ((k23 k1).trans (.set (by simp) _))
    · have e:ae T (ab T n) (.idx (.loc 2) (.loc 8)) (x.args (setV (DT.loc i).v e.v) fr++[(ev x.ah l e s).1.r,.str 26,.int 3,iN i,.none,wAt,.int 0,.ai,.ai,.ai]) σ1=some ((l.get i).r,σ1):=by
        refine dw rfl rfl (l:=[l.1.r,l.2.r]) (by simp only [bk,m1.fr]) ?_ ?_
        · refine f2 i ?_ ?_ <;> rfl
        · refine f2 i ?_ ?_ <;> rfl
      exact (w_ite (Q:=fun v τ=>v=(l.get i).r∧τ=σ1) (.mk rfl (.mk rfl (ct rfl (.mk e ⟨rfl,rfl⟩))))).ok.eq
    · show ((i.val:Nat):Int) < 2;omega
    · have h:([l.1.r,l.2.r]:List V).set (i.val:Int).toNat (cg 0 (l.get i) (ev x.ah l e s).1).r=[(l.set i (ev x.ah l e s).1).1.r,(l.set i (ev x.ah l e s).1).2.r]:=by
        refine ag putP_in ?_;refine f2 i ?_ ?_ <;> rfl
      refine ag h ?_
      exact m1.setFr (l.set i (ev x.ah l e s).1)
  | pick i y g o d=>
    simp only [DT.cost,DT.h] at hs hn
    refine ay (v_ok hT hc hg y ht σ1 fr l _ m1 (lZ (aZ lg gl)) (by omega) n (lZ (xLMrZ hn))) fun σ2 e2 m2 k2=>?_
    have G2:=aO (l:=l) hg y ht (ev x.ah l e s).2
    have g2:=G2.n;have gl2:=G2.log
    refine ay (fin_sig hT m2 (by omega) (C:=ab T n) (i:=i) (p:=(ev x.ah l e s).1) (lo:=loP (toI (ev x.ah l y (ev x.ah l e s).2).1 g) o d) (w:=setV (DT.pick i y g o d).v e.v) (z9:=.none) (z10:=wPick y g o d) (z12:=dG (toI (ev x.ah l y (ev x.ah l e s).2).1 g))) fun σ3 e3 m3 k3=>?_
    refine aT σ3 (run (ao 2 rfl (s_true rfl (ar (.mk (cv (bB (cv (cQ rfl rfl rfl rfl rfl) e2) rfl) (lint_ok hT (lZ hn))) ⟨aa rfl,?_⟩))))) m3 (((k23 k1).trans (k23 k2)).trans (k23 k3))
    cases hq:toI (ev x.ah l y (ev x.ah l e s).2).1 g with
    | none=>rw [hq] at e3;exact ao 1 rfl e3
    | some j=>
      rw [hq] at e3
      refine ar (w_ite (.mk rfl (.mk rfl (ct rfl (dt (.mk rfl (.mk rfl (b_mulR ?_ ⟨aa rfl,e3⟩))))))))
      refine f2 d ?_ ?_ <;> rfl
end
end
section
open PySem
noncomputable def pk (ah:Cal) (l:LL) (k:Fin 3) (e l1 l2 l3:DE) (a b d:DS) (s:PS):DS×PS:=
  let u:=ev ah l e s
  let v1:=ev ah l l1 u.2
  let v2:=ev ah l l2 v1.2
  if bq k u.1 v1.1 then (a,v1.2) else if bq k u.1 v2.1 then (a,v2.2)
  else
    let v3:=ev ah l l3 v2.2
    if bq k u.1 v3.1 then (d,v3.2) else (b,v3.2)
theorem ex_pk {ah:Cal} {l:LL} {k:Fin 3} {e l1 l2 l3:DE} {a b d:DS} {s:PS}:ex ah (.case k e l1 l2 l3 a b d) l s=ex ah (pk ah l k e l1 l2 l3 a b d s.tick).1 l (pk ah l k e l1 l2 l3 a b d s.tick).2:=by
  dsimp only [yx0,yx1,yx2,yx3,yx4,yx5,yx6,yx7,pk]
  split
  · rfl
  · split
    · rfl
    · split <;> rfl
noncomputable def mlabB:List XS:=[.ite (.call 115 [.idx (.loc 0) (.int 1),.loc 5,.call 114 [.loc 9,.loc 1,.loc 2,.loc 3,.loc 4]]) [.ret (.loc 8)] []]
noncomputable def mrowB:List XS:=[.ite (.cmp .is (.loc 7) (.none)) [.asg (.loc 6) (.loc 8),.cont] [],.for (.loc 9) (.loc 7) mlabB]
section
variable (T:Tab) (x:Qx)
noncomputable def dz (c:Nat) (st:DS):Prop:=∀ σ fr l s,QR x.fns x.q σ fr l s→s.log.length≤s.n+1→s.n+st.cost x.cc≤900→∀ n,2*st.h x.hc+4≤n→
  ∃ σ',ab T n 118 (x.args st.v fr) σ=some (.none,σ')∧QR x.fns x.q σ' fr (ex x.ah st l s).1 (ex x.ah st l s).2∧Kp (XM3 x.q fr) σ σ'
end
theorem k23 {q:Qd} {fr:Nat} {a b:St} (k:Kp (XM2 q) a b):Kp (XM3 q fr) a b:=k.mono fun n h=>by simp only [List.mem_cons,List.not_mem_nil,or_false] at *;rcases h with h | h <;> simp [h]
section
variable {T:Tab} (hT:bz bE T) {x:Qx} {c:Nat}
include hT
theorem mlab_ev {w:V} {k:Fin 3} {z1 z2 z3:V} {u v:Vc} {lb bd o:V} {lv:DE} {n fr:Nat} {σ σ1:St} (e:ab T n 114 (x.args lv.v fr) σ=some (v.r,σ1)) (hn:1≤n):
    ae T (ab T n) (.call 115 [.idx (.loc 0) (.int 1),.loc 5,.call 114 [.loc 9,.loc 1,.loc 2,.loc 3,.loc 4]]) (x.args (.tup [z1,cj k,z2,z3]) fr++[u.r,o,lb,bd,lv.v]) σ=some (.bool (bq k u v),σ1):=
  cv (evs3 rfl rfl (cv (cQ (aC rfl lv.cb) rfl rfl rfl rfl) e)) (lmeet_ok hT hn)
theorem mlab_hit {k:Fin 3} {z1 z2 z3:V} {u v:Vc} {lb o:V} {body:DS} {lv:DE} {src:V} {f i n fr:Nat} {σ σ1:St} {w:V} {Q:Fl→List V→St→Prop} (hn:a9 src i σ=some (some lv.v)) (e:ab T n 114 (x.args lv.v fr) σ=some (v.r,σ1)) (q:bq k u v=true) (h1:1≤n) (h:∀ ρ,Q (.ret body.v) ρ σ1):
    Loop T (ab T n) (.loc 9) mlabB src (f+1) i (x.args (.tup [z1,cj k,z2,z3]) fr++[u.r,o,lb,body.v,w]) σ Q:=by
  refine bO hn (aa rfl) ?_
  have t:=mlab_ev hT (w:=.none) (k:=k) (z1:=z1) (z2:=z2) (z3:=z3) (u:=u) (lb:=lb) (bd:=body.v) (o:=o) e h1
  rw [q] at t
  exact s_true t (au (aC rfl body.cb) (.ret (h _)))
theorem mlab_miss {k:Fin 3} {z1 z2 z3:V} {u v:Vc} {lb bd o:V} {lv:DE} {src:V} {f i n fr:Nat} {σ σ1:St} {w:V} {Q:Fl→List V→St→Prop} (hn:a9 src i σ=some (some lv.v)) (e:ab T n 114 (x.args lv.v fr) σ=some (v.r,σ1)) (q:bq k u v=false) (h1:1≤n)
    (h:Loop T (ab T n) (.loc 9) mlabB src f (i+1) (x.args (.tup [z1,cj k,z2,z3]) fr++[u.r,o,lb,bd,lv.v]) σ1 Q):
    Loop T (ab T n) (.loc 9) mlabB src (f+1) i (x.args (.tup [z1,cj k,z2,z3]) fr++[u.r,o,lb,bd,w]) σ Q:=by
  refine bO hn (aa rfl) ?_
  have t:=mlab_ev hT (w:=.none) (k:=k) (z1:=z1) (z2:=z2) (z3:=z3) (u:=u) (lb:=lb) (bd:=bd) (o:=o) e h1
  rw [q] at t
  exact s_false t (aU (.aL h))
theorem pick_ok (hc:QCal T x c) (hg:bL x.cc c x.ah) {k:Fin 3} {e l1 l2 l3:DE} {a b d:DS} (ok:e.ok c∧l1.ok c∧l2.ok c∧l3.ok c) {σ fr l s} (m:QR x.fns x.q σ fr l s) (lg:s.log.length≤s.n) (hs:s.n+(e.cost x.cc+l1.cost x.cc+l2.cost x.cc+l3.cost x.cc)≤900) {n:Nat} (hn:2*max (max (e.h x.hc) (l1.h x.hc)) (max (l2.h x.hc) (l3.h x.hc))+7≤n):
    ∃ σ',ab T n 117 (x.args (DS.case k e l1 l2 l3 a b d).v fr) σ=some ((pk x.ah l k e l1 l2 l3 a b d s).1.v,σ')∧QR x.fns x.q σ' fr l (pk x.ah l k e l1 l2 l3 a b d s).2∧Kp (XM2 x.q) σ σ':=by
  obtain ⟨n,rfl⟩:∃ m,n=m+1:=⟨n - 1,cI (lZ hn)⟩
  have G0:=aO (l:=l) hg e ok.1 s
  have g0:=G0.n;have gl0:=G0.log
  refine ay (v_ok hT hc hg e ok.1 σ fr l s m lg (lZ hs) n (lZ (xLMlZ (xLMlZ hn)))) fun σ1 e1 m1 k1=>?_
  unfold pk
  dsimp only
  generalize hu:ev x.ah l e s=u at*
  have G1:=aO (l:=l) hg l1 ok.2.1 u.2
  have g1:=G1.n;have gl1:=G1.log
  refine ay (v_ok hT hc hg l1 ok.2.1 σ1 fr l u.2 m1 (lZ (aZ lg gl0)) (lZ (aZ hs g0)) n (lZ (xLMrZ (xLMlZ hn)))) fun σ2 e2 m2 k2=>?_
  generalize hv1:ev x.ah l l1 u.2=v1 at*
  have G2:=aO (l:=l) hg l2 ok.2.2.1 v1.2
  have g2:=G2.n;have gl2:=G2.log
  refine ay (v_ok hT hc hg l2 ok.2.2.1 σ2 fr l v1.2 m2 (lZ (aZ lg (aZ gl0 gl1))) (lZ (aZ hs (aZ g0 g1))) n (lZ (xLMlZ (xLMrZ hn)))) fun σ3 e3 m3 k3=>?_
  generalize hv2:ev x.ah l l2 v1.2=v2 at*
  refine ay (v_ok hT hc hg l3 ok.2.2.2 σ3 fr l v2.2 m3 (lZ (aZ lg (aZ gl0 (aZ gl1 gl2)))) (lZ (aZ hs (aZ g0 (aZ g1 g2)))) n (lZ (xLMrZ (xLMrZ hn)))) fun σ4 e4 m4 k4=>?_
  generalize hv3:ev x.ah l l3 v2.2=v3 at*
  have run:∀ {σ':St} {r:V},Loop T (ab T n) (.tup [7,8]) mrowB (.tup [.tup [.tup [l1.v,l2.v],a.v],.tup [.none,b.v],.tup [.tup [l3.v],d.v]]) 64 0 (x.args (DS.case k e l1 l2 l3 a b d).v fr++[u.1.r,.none,.ai,.ai,.ai]) σ1
        (After (bj fun v τ=>v=r∧τ=σ') fun ρ τ=>WS T (ab T n) [.ret (.loc 6)] ρ τ (bj fun v τ=>v=r∧τ=σ'))→
      ab T (n+1) 117 (x.args (DS.case k e l1 l2 l3 a b d).v fr) σ=some (r,σ'):=fun {σ' r} h=>by
    refine WC.eq (aj (f:=x__law_picked) (ρ:=x.args (DS.case k e l1 l2 l3 a b d).v fr++[.ai,.ai,.ai,.ai,.ai]) (hT.fn _ _ rfl) rfl rfl ?_)
    exact ar (.mk (cv (cQ rfl rfl rfl rfl rfl) e1) ⟨aa rfl,ao 1 rfl (b6 (.mk rfl ⟨rfl,h⟩))⟩)
  cases q1:bq k u.1 v1.1 with
  | true=>exact ⟨σ2,run (bQ rfl ⟨rfl,rfl⟩ (s_false rfl (b6 (.mk rfl ⟨rfl,mlab_hit hT (src:=.tup [l1.v,l2.v]) rfl e2 q1 (lZ hn) fun ρ=>.ret (.ret (.ret (.ret ⟨rfl,rfl⟩)))⟩)))),m2,k1.trans k2⟩
  | false=>
    cases q2:bq k u.1 v2.1 with
    | true=>exact ⟨σ3,run (bQ rfl ⟨rfl,rfl⟩ (s_false rfl (b6 (.mk rfl ⟨rfl,mlab_miss hT (src:=.tup [l1.v,l2.v]) rfl e2 q1 (lZ hn) (mlab_hit hT rfl e3 q2 (lZ hn) fun ρ=>.ret (.ret (.ret (.ret ⟨rfl,rfl⟩))))⟩)))),m3,(k1.trans k2).trans k3⟩
    | false=>
      cases q3:bq k u.1 v3.1 with
      | true=>
        refine aT σ4 (run (bQ rfl ⟨rfl,rfl⟩ (s_false rfl (b6 (.mk rfl ⟨rfl,mlab_miss hT (src:=.tup [l1.v,l2.v]) rfl e2 q1 (lZ hn) (mlab_miss hT rfl e3 q2 (lZ hn) (cM rfl (.aL (aU (.aL ?_)))))⟩))))) m4 (((k1.trans k2).trans k3).trans k4)
        refine bQ rfl ⟨rfl,rfl⟩ (s_true rfl (ar (.mk (aC rfl b.cb) ⟨aa rfl,s_cont (.cnt ?_)⟩)))
        exact bQ rfl ⟨rfl,rfl⟩ (s_false rfl (b6 (.mk rfl ⟨rfl,mlab_hit hT rfl e4 q3 (lZ hn) fun ρ=>.ret (.ret (.ret (.ret ⟨rfl,rfl⟩)))⟩)))
      | false=>
        refine aT σ4 (run (bQ rfl ⟨rfl,rfl⟩ (s_false rfl (b6 (.mk rfl ⟨rfl,mlab_miss hT (src:=.tup [l1.v,l2.v]) rfl e2 q1 (lZ hn) (mlab_miss hT rfl e3 q2 (lZ hn) (cM rfl (.aL (aU (.aL ?_)))))⟩))))) m4 (((k1.trans k2).trans k3).trans k4)
        refine bQ rfl ⟨rfl,rfl⟩ (s_true rfl (ar (.mk (aC rfl b.cb) ⟨aa rfl,s_cont (.cnt ?_)⟩)))
        exact bQ rfl ⟨rfl,rfl⟩<|s_false rfl<|b6<|.mk rfl ⟨rfl,mlab_miss hT rfl e4 q3 (lZ hn)<|cM rfl<|.aL<|aU<|.aL<|cM rfl<|.aL<|au (aC rfl b.cb) (.ret ⟨rfl,rfl⟩)⟩
theorem mcond_ok (hc:QCal T x c) (hg:bL x.cc c x.ah) {e:DC} (ok:e.ok c) {σ fr l s} (fit:e.fits l) (m:QR x.fns x.q σ fr l s) (lg:s.log.length≤s.n) (hs:s.n+e.cost x.cc≤900) {n:Nat} (hn:2*e.h x.hc+8≤n):
    ∃ σ' w,ab T n 114 (x.args e.v fr) σ=some (w,σ')∧ab T n 110 [w] σ'=some (iN (evC x.ah l e s).1,σ')∧QR x.fns x.q σ' fr l (evC x.ah l e s).2∧Kp (XM2 x.q) σ σ':=by
  cases e with
  | ex e=>
    refine ay (v_ok hT hc hg e ok σ fr l s m lg hs n (by simp only [DC.h] at hn;exact lZ hn)) fun σ1 e1 m1 k1=>?_
    exact ⟨σ1,_,e1,ltr_ok hT (lZ hn),m1,k1⟩
  | an a b=>
    refine ay (andv_ok hT (v_ok hT hc hg a ok.1) (v_ok hT hc hg b ok.2) (fun l s=>aO hg a ok.1 s) m lg hs (n:=n) (by simp only [DC.h] at hn;exact lZ hn)) fun σ1 e1 m1 k1=>?_
    refine I2A4 σ1 _ e1 ?_ m1 k1
    have:=ltr1_ok hT (σ:=σ1) (c:=⟨andT (trP (ev x.ah l a s).1) (trP (ev x.ah l b (ev x.ah l a s).2).1),andT_lt _ _⟩) (n:=n) (lZ hn)
    refine ag this ?_
    simp only [andT_ne2,if_false];rfl
  | lt k=>
    clear hs lg ok hg hc;obtain ⟨⟨p,⟨a,b⟩⟩,rfl⟩:∃ l':LL,l=l':=⟨l,rfl⟩
    have hb:b=0:=fit
    clear fit;subst hb
    obtain ⟨n,rfl⟩:∃ m,n=m+2:=⟨n - 2,n2Z (lZ hn)⟩
    have eloc:ab T (n+1) 114 (x.args (DE.loc 1).v fr) σ=some ((⟨a,0⟩:Vc).r,σ):=by
      refine WC.eq (aj (f:=aR) (ρ:=x.args (DE.loc 1).v fr++[.ai,.ai,.ai,.ai]) (hT.fn _ _ rfl) rfl rfl ?_)
      refine ao 3 rfl (s_true rfl (bI (w_blt (af (.mk (v:=(⟨a,0⟩:Vc).r) (σ':=σ) (dw rfl rfl (l:=[p.r,(⟨a,0⟩:Vc).r]) ?_ rfl rfl) (aP (.mk rfl (.ret ⟨rfl,rfl⟩))))))))
      simp only [bk,m.fr]
    have econ:ab T (n+1) 114 (x.args (.tup [.str 24,.int 3,.int (1+(k.val:Nat)),.int 0]) fr) σ=some ((⟨⟨1+k.val,by lia⟩,0⟩:Vc).r,σ):=by
      refine WC.eq (aj (f:=aR) (ρ:=x.args (.tup [.str 24,.int 3,.int (1+(k.val:Nat)),.int 0]) fr++[.ai,.ai,.ai,.ai]) (hT.fn _ _ rfl) rfl rfl ?_)
      exact ao 1 rfl (s_true rfl (au (con_ev (a:=⟨1+k.val,by lia⟩) (b:=0)) (.ret ⟨rfl,rfl⟩)))
    have e1:ab T (n+2) 114 (x.args (DC.lt k).v fr) σ=some (.lst [.int (if a < (⟨1+k.val,by lia⟩:Fin 8) then 1 else 0)],σ):=by
      refine WC.eq (aj (f:=aR) (ρ:=x.args (DC.lt k).v fr++[.ai,.ai,.ai,.ai]) (hT.fn _ _ rfl) rfl rfl ?_)
      refine ao 7 rfl (s_true rfl (ar (.mk (cv (cQ rfl rfl rfl rfl rfl) eloc) ⟨aa rfl,?_⟩)))
      exact au (cv (evs3 rfl rfl (cv (cQ rfl rfl rfl rfl rfl) econ)) (llt_ok hT (lZ hn))) (.ret ⟨rfl,rfl⟩)
    refine I2A4 σ _ e1 ?_ m (.refl _ _)
    show _=some (iN (if a.val < 1+k.val then 1 else 0),σ)
    by_cases q:a.val < 1+k.val
    · have q':a < (⟨1+k.val,by lia⟩:Fin 8):=q
      refine ag (if_pos q) (ag (if_pos q') ?_)
      exact ltr1_ok hT (c:=1) (l0Z)
    · have q':¬ a < (⟨1+k.val,by lia⟩:Fin 8):=q
      refine ag (if_neg q) (ag (if_neg q') ?_)
      exact ltr1_ok hT (c:=0) (l0Z)
end
end
section
open PySem
theorem mq7 {M N c n:Nat} (h:2*(2+max (12+M) N)+c≤n):2*M+7≤n:=by have:=Nat.le_max_left (12+M) N;exact lZ (dD h)
section
variable (T:Tab) (x:Qx)
noncomputable def MTail (c:Nat) (st:DS):Prop:=st≠.none→∀ σ fr l s,QR x.fns x.q σ fr l s.tick→s.log.length≤s.n+1→s.n+st.cost x.cc≤900→∀ n,2*st.h x.hc+3≤n→
  ∃ σ',WS T (ab T n) (x__law_run.body.drop 2) (x.args st.v fr++[.ai,.ai,.ai,.ai,.ai]) σ (bj fun v τ=>v=.none∧τ=σ')∧QR x.fns x.q σ' fr (ex x.ah st l s).1 (ex x.ah st l s).2∧Kp (XM3 x.q fr) σ σ'
end
section
variable {T:Tab} (hT:bz bE T) {x:Qx} {c:Nat}
include hT
theorem tick_ok {C:aw} {w:V} {fr:Nat} {r:List V} {σ:St} {l:LL} {s:PS} (m:QR x.fns x.q σ fr l s) (lg:s.log.length≤950) {b:List XS} {Q:Fl→List V→St→Prop} (h:WS T C b (x.args w fr++r) (σ.set x.q.told (.lst (iN (s.n+1) :: s.log.map iN))) Q):
    WS T C (.aug (.idx (.loc 4) (.int 0)) .add (.int 1) :: b) (x.args w fr++r) σ Q:=
  s_augI (.mk rfl (.mk rfl (i_obj m.told rfl rfl (.mk rfl (.mk rfl (p_lst m.told (by decide) (by simp only [List.length_cons];lia) (by simp only [List.length_cons,List.length_map];exact lZ lg) h))))))
theorem bJ {st:DS} (h:MTail T x c st):dz T x c st:=fun σ fr l s m lg hs n hn=>by
  obtain ⟨n,rfl⟩:∃ m,n=m+1:=⟨n - 1,cI (lZ hn)⟩
  by_cases q:st=.none
  · clear h hn hs lg;subst q
    exact aT σ (WC.eq (aj (f:=x__law_run) (ρ:=x.args .none fr++[.ai,.ai,.ai,.ai,.ai]) (hT.fn _ _ rfl) rfl rfl (s_true rfl (s_ret0 (.ret ⟨rfl,rfl⟩))))) m (.refl _ _)
  · have cp:=DS.cost_pos (cc:=x.cc) st q
    refine ay (h q _ fr l s m.tick lg hs n (lZ hn)) fun σ' e2 m2 k2=>?_
    refine aT σ' ?_ m2 ((Kp.set (.tail _ (.head _)) _).trans k2)
    refine WC.eq (aj (f:=x__law_run) (ρ:=x.args st.v fr++[.ai,.ai,.ai,.ai,.ai]) (hT.fn _ _ rfl) rfl rfl ?_)
    have isn:ae T (ab T n) (.cmp .is (.loc 0) .none) (x.args st.v fr++[.ai,.ai,.ai,.ai,.ai]) σ=some (.bool false,σ):=by
      clear h cp k2 m2 e2 σ' hn hs lg m s l;cases st <;> first | exact absurd rfl q | rfl
    exact s_false isn (tick_ok hT m (lZ (aZ lg hs)) e2)
theorem mtail_set (hc:QCal T x c) (hg:bL x.cc c x.ah) {t:DT} {e:DE} (ok:(DS.set t e).ok c):MTail T x c (.set t e):=fun zz σ fr l s m lg hs n hn=>by
  simp only [yk1,yg1] at hs hn
  refine ay (mset_ok hT hc hg ok.1 ok.2 m (by simp only [PS.tick];exact lZ lg) (by simp only [PS.tick];exact lZ hs) (n:=n) (lZ hn)) fun σ' e1 m1 k1=>?_
  exact aT σ' (ao 1 rfl (s_true rfl (bH (.mk (cv (cQ rfl rfl rfl rfl rfl) e1) ⟨.inl rfl,aU (.aL ⟨rfl,rfl⟩)⟩)))) m1 k1
theorem mblk_turn {w:V} {st:DS} {src:V} {f i:Nat} {σ σ1:St} {n fr:Nat} {t o7 o8 o9 z:V} {Q:Fl→List V→St→Prop} (hn:a9 src i σ=some (some st.v)) (e:ab T n 118 (x.args st.v fr) σ=some (.none,σ1))
    (h:Loop T (ab T n) (.loc 6) [.expr (.call 118 [.loc 6,.loc 1,.loc 2,.loc 3,.loc 4])] src f (i+1) (x.args w fr++[t,st.v,o7,o8,o9]) σ1 Q):
    Loop T (ab T n) (.loc 6) [.expr (.call 118 [.loc 6,.loc 1,.loc 2,.loc 3,.loc 4])] src (f+1) i (x.args w fr++[t,z,o7,o8,o9]) σ Q:=
  bO hn (aa rfl) (bH (.mk (cv (cQ (aC rfl st.cb) rfl rfl rfl rfl) e) ⟨.inl rfl,aU (.aL h)⟩))
theorem mtail_blk2 {a b:DS} (ha:dz T x c a) (hb:dz T x c b) (ga:∀ l s,Gd (a.cost x.cc) s (ex x.ah a l s).2):MTail T x c (.blk2 a b):=fun zz σ fr l s m lg hs n hn=>by
  simp only [yk2,yg2] at hs hn
  have g:(ex x.ah a l s.tick).2.n≤s.n+1+a.cost x.cc:=(ga l s.tick).n
  have gl:(ex x.ah a l s.tick).2.log.length+(s.n+1)≤s.log.length+(ex x.ah a l s.tick).2.n:=(ga l s.tick).log
  refine ay (ha σ fr l s.tick m (by simp only [PS.tick];exact lZ lg) (by simp only [PS.tick];exact lZ hs) n (lZ (dD hn))) fun σ1 e1 m1 k1=>?_
  refine ay (hb σ1 fr _ _ m1 (lZ (aZ lg gl)) (lZ (aZ hs g)) n (lZ (de hn))) fun σ2 e2 m2 k2=>?_
  refine aT σ2 (ao 1 rfl (s_false rfl (s_true rfl (b6 (.mk (v:=.tup [a.v,b.v]) rfl ⟨rfl,mblk_turn hT rfl e1 (mblk_turn hT rfl e2 (cM rfl (.aL (aU (.aL ⟨rfl,rfl⟩)))))⟩))))) m2 (k1.trans k2)
theorem mtail_blk3 {a b d:DS} (ha:dz T x c a) (hb:dz T x c b) (hd:dz T x c d) (ga:∀ l s,Gd (a.cost x.cc) s (ex x.ah a l s).2) (gb:∀ l s,Gd (b.cost x.cc) s (ex x.ah b l s).2):MTail T x c (.blk3 a b d):=fun zz σ fr l s m lg hs n hn=>by
  simp only [yk3,yg3] at hs hn
  have g:(ex x.ah a l s.tick).2.n≤s.n+1+a.cost x.cc:=(ga l s.tick).n
  have gl:(ex x.ah a l s.tick).2.log.length+(s.n+1)≤s.log.length+(ex x.ah a l s.tick).2.n:=(ga l s.tick).log
  have G2:=gb (ex x.ah a l s.tick).1 (ex x.ah a l s.tick).2
  have g2:=G2.n;have gl2:=G2.log
  refine ay (ha σ fr l s.tick m (by simp only [PS.tick];exact lZ lg) (by simp only [PS.tick];exact lZ hs) n (lZ (dD hn))) fun σ1 e1 m1 k1=>?_
  refine ay (hb σ1 fr _ _ m1 (lZ (aZ lg gl)) (lZ (aZ hs g)) n (lZ (dD (de hn)))) fun σ2 e2 m2 k2=>?_
  refine ay (hd σ2 fr _ _ m2 (lZ (aZ lg (aZ gl gl2))) (lZ (aZ hs (aZ g g2))) n (lZ (de (de hn)))) fun σ3 e3 m3 k3=>?_
  refine aT σ3 (ao 1 rfl (s_false rfl (s_true rfl (b6 (.mk (v:=.tup [a.v,b.v,d.v]) rfl ⟨rfl,mblk_turn hT rfl e1 (mblk_turn hT rfl e2 (mblk_turn hT rfl e3 (cM rfl (.aL (aU (.aL ⟨rfl,rfl⟩))))))⟩))))) m3 ((k1.trans k2).trans k3)
theorem one_ev {C:aw} {ρ:List V} {σ:St} {i k:Nat} {a b:XE} {va vb:V} (h:ρ[i]?=some (iN k)) (ha:ae T C a ρ σ=some (va,σ)) (hb:ae T C b ρ σ=some (vb,σ)):ae T C (.ite (.cmp .eq (.loc i) (.int 1)) a b) ρ σ=some (if k=1 then va else vb,σ):=by
  refine (w_ite (Q:=fun v τ=>v=(if k=1 then va else vb)∧τ=σ) (bT (.mk (aC h (nU rfl)) (.mk rfl (.mk rfl (.mk rfl (and_b (fun q=>.mk ha ⟨?_,rfl⟩) (fun q=>.mk hb ⟨?_,rfl⟩)))))))).ok.eq
  · have:k=1:=by have:=beq_iff_eq.mp q;lia
    rw [if_pos this]
  · have:¬ k=1:=fun e=>by clear hb ha h vb va b a i σ ρ C;subst e;simp at q
    exact ag (if_neg this ..) rfl
theorem mtail_iff (hc:QCal T x c) (hg:bL x.cc c x.ah) {t:DC} {a b:DS} (ok:t.ok c∧∀ l,t.fits l) (ha:dz T x c a) (hb:dz T x c b):MTail T x c (.iff t a b):=fun zz σ fr l s m lg hs n hn=>by
  simp only [yk4,yg4] at hs hn
  refine E2A4 (mcond_ok hT hc hg ok.1 (ok.2 l) m (by simp only [PS.tick];exact lZ lg) (by simp only [PS.tick];exact lZ hs) (n:=n) (lZ (dD hn))) fun σ1 w e1 e1' m1 k1=>?_
  have g:(evC x.ah l t s.tick).2.n≤s.n+1+t.cost x.cc:=(evC_gd (l:=l) hg t ok.1 s.tick).n
  have gl:(evC x.ah l t s.tick).2.log.length+(s.n+1)≤s.log.length+(evC x.ah l t s.tick).2.n:=(evC_gd (l:=l) hg t ok.1 s.tick).log
  have go:∀ {d:DS} {σ':St},(if (evC x.ah l t s.tick).1=1 then a.v else b.v)=d.v→ab T n 118 (x.args d.v fr) σ1=some (.none,σ')→WS T (ab T n) (x__law_run.body.drop 2) (x.args (DS.iff t a b).v fr++[.ai,.ai,.ai,.ai,.ai]) σ (bj fun v τ=>v=.none∧τ=σ'):=fun {d σ'} hd e=>by
    refine ao 1 rfl (s_false rfl (s_false rfl (s_true rfl (ar (.mk (cv (evs1 (cv (cQ rfl rfl rfl rfl rfl) e1)) e1') ⟨aa rfl,?_⟩)))))
    refine bH (.mk (cv (cQ ((one_ev hT (va:=a.v) (vb:=b.v) rfl rfl rfl).trans (by exact ag hd rfl)) rfl rfl rfl rfl) e) ⟨.inl rfl,aU (.aL ⟨rfl,rfl⟩)⟩)
  by_cases q:(evC x.ah l t s.tick).1=1
  · have e:ex x.ah (.iff t a b) l s=ex x.ah a l (evC x.ah l t s.tick).2:=by simp only [yx4,q,if_true]
    refine ag e ?_
    refine ay (ha σ1 fr l _ m1 (lZ (aZ lg gl)) (lZ (aZ (xRRlZ hs) g)) n (lZ (dD (de hn)))) fun σ2 e2 m2 k2=>?_
    exact aT σ2 (go (by exact ag (if_pos q) rfl) e2) m2 ((k23 k1).trans k2)
  · have e:ex x.ah (.iff t a b) l s=ex x.ah b l (evC x.ah l t s.tick).2:=by simp only [yx4,q,if_false]
    refine ag e ?_
    refine ay (hb σ1 fr l _ m1 (lZ (aZ lg gl)) (lZ (aZ (xRRrZ hs) g)) n (lZ (de (de hn)))) fun σ2 e2 m2 k2=>?_
    exact aT σ2 (go (by exact ag (if_neg q) rfl) e2) m2 ((k23 k1).trans k2)
theorem pk_gd (hg:bL x.cc c x.ah) {k:Fin 3} {e l1 l2 l3:DE} {a b d:DS} (ok:e.ok c∧l1.ok c∧l2.ok c∧l3.ok c) (l:LL) (s:PS):Gd (e.cost x.cc+l1.cost x.cc+l2.cost x.cc+l3.cost x.cc) s (pk x.ah l k e l1 l2 l3 a b d s).2∧((pk x.ah l k e l1 l2 l3 a b d s).1=a∨(pk x.ah l k e l1 l2 l3 a b d s).1=b∨(pk x.ah l k e l1 l2 l3 a b d s).1=d):=by
  have h0:=aO (l:=l) hg e ok.1 s
  have h1:=h0.trans (aO (l:=l) hg l1 ok.2.1 _)
  have h2:=h1.trans (aO (l:=l) hg l2 ok.2.2.1 _)
  have h3:=h2.trans (aO (l:=l) hg l3 ok.2.2.2 _)
  unfold pk
  dsimp only
  split
  · exact ⟨h1.mono (l0Z),.inl rfl⟩
  · split
    · exact ⟨h2.mono (l0Z),.inl rfl⟩
    · split
      · exact ⟨h3,.inr (.inr rfl)⟩
      · exact ⟨h3,.inr (.inl rfl)⟩
theorem mtail_case (hc:QCal T x c) (hg:bL x.cc c x.ah) {k:Fin 3} {e l1 l2 l3:DE} {a b d:DS} (ok:e.ok c∧l1.ok c∧l2.ok c∧l3.ok c) (ha:dz T x c a) (hb:dz T x c b) (hd:dz T x c d):MTail T x c (.case k e l1 l2 l3 a b d):=fun zz σ fr l s m lg hs n hn=>by
  simp only [yk5,yg5] at hs hn
  refine ay (pick_ok hT hc hg (a:=a) (b:=b) (d:=d) (k:=k) ok m (by clear hn hs;simp only [PS.tick];exact lZ lg) (by clear hn;simp only [PS.tick];exact lZ hs) (n:=n) (mq7 hn)) fun σ1 e1 m1 k1=>?_
  refine aY (pk_gd hT hg (k:=k) (a:=a) (b:=b) (d:=d) ok l s.tick) fun G hp=>?_
  have g:(pk x.ah l k e l1 l2 l3 a b d s.tick).2.n≤s.n+1+_:=G.n
  have gl:(pk x.ah l k e l1 l2 l3 a b d s.tick).2.log.length+(s.n+1)≤s.log.length+(pk x.ah l k e l1 l2 l3 a b d s.tick).2.n:=G.log
  refine ag ex_pk ?_
  generalize pk x.ah l k e l1 l2 l3 a b d s.tick=p at*
  have go:dz T x c p.1∧p.1.cost x.cc≤max (a.cost x.cc) (max (b.cost x.cc) (d.cost x.cc))∧p.1.h x.hc≤max (a.h x.hc) (max (b.h x.hc) (d.h x.hc)):=by
    rcases hp with q | q | q <;> refine ag q ?_
    · exact ⟨ha,Nat.le_max_left _ _,Nat.le_max_left _ _⟩
    · exact ⟨hb,Nat.le_trans (Nat.le_max_left _ _) (Nat.le_max_right _ _),Nat.le_trans (Nat.le_max_left _ _) (Nat.le_max_right _ _)⟩
    · exact ⟨hd,Nat.le_trans (Nat.le_max_right _ _) (Nat.le_max_right _ _),Nat.le_trans (Nat.le_max_right _ _) (Nat.le_max_right _ _)⟩
  refine ay (go.1 σ1 fr l _ m1 (lZ (aZ lg gl)) (lZ (aZ hs (aZ g go.2.1))) n (lZ (aZ (de hn) (aZ go.2.2 go.2.2)))) fun σ2 e2 m2 k2=>?_
  refine aT σ2 (ao 1 rfl (s_false rfl (s_false rfl (s_false rfl (s_true rfl (bH (.mk (cv (cQ (cv (cQ rfl rfl rfl rfl rfl) e1) rfl rfl rfl rfl) e2) ⟨.inl rfl,aU (.aL ⟨rfl,rfl⟩)⟩))))))) m2 ((k23 k1).trans k2)
end
end
section
open PySem
noncomputable def mrepB:List XS:=[.aug (.idx (.loc 4) (.int 0)) .add (.int 1),.expr (.call 118 [.idx (.loc 0) (.int 3),.loc 1,.loc 2,.loc 3,.loc 4])]
noncomputable def mforT:XE:=.cmp .eq (.call 110 [.call 114 [.idx (.loc 0) (.int 2),.loc 1,.loc 2,.loc 3,.loc 4]]) (.int 1)
noncomputable def mforB:List XS:=[.aug (.idx (.loc 4) (.int 0)) .add (.int 1),.expr (.call 118 [.idx (.loc 0) (.int 4),.loc 1,.loc 2,.loc 3,.loc 4]),.expr (.call 118 [.idx (.loc 0) (.int 3),.loc 1,.loc 2,.loc 3,.loc 4])]
section
variable {T:Tab} (hT:bz bE T) {x:Qx} {c:Nat}
include hT
theorem mrep_loop {e:DE} {g:Bool} {b:DS} (hb:dz T x c b) (gb:∀ l s,Gd (b.cost x.cc) s (ex x.ah b l s).2) {n:Nat} (hn:2*b.h x.hc+4≤n) {fr:Nat} {j:Int} (hj:idxOk j=true) {t o6 o7 o8:V}:∀ (k i f:Nat) {σ:St} {l:LL} {s:PS} {w:V},j.toNat=i+k→k < f→QR x.fns x.q σ fr l s→s.log.length≤s.n→s.n+k*(1+b.cost x.cc)≤900→
    ∃ σ',(∀ {Q:Fl→List V→St→Prop},(∀ ρ,Q .aL ρ σ')→Loop T (ab T n) (.loc 9) mrepB (.rng j) f i (x.args (DS.rep e g b).v fr++[t,o6,o7,o8,w]) σ Q)∧QR x.fns x.q σ' fr (times (fun l s=>ex x.ah b l s) k l s).1 (times (fun l s=>ex x.ah b l s) k l s).2∧Kp (XM3 x.q fr) σ σ'
  | 0,i,f,σ,l,s,w,hi,hf,m,lg,hs=>by
    obtain ⟨f,rfl⟩:∃ m,f=m+1:=⟨f - 1,cI (lZ hf)⟩
    have nx:a9 (.rng j) i σ=some .none:=by
      have:¬ ((i:Nat):Int) < j:=by lia
      simp only [a9,hj,this,if_true,if_false]
    exact ⟨σ,fun h=>cM nx (h _),m,.refl _ _⟩
  | k+1,i,f,σ,l,s,w,hi,hf,m,lg,hs=>by
    obtain ⟨f,rfl⟩:∃ m,f=m+1:=⟨f - 1,cI (lZ hf)⟩
    rw [Nat.succ_mul] at hs
    refine ay (hb _ fr l s.tick m.tick (by simp only [PS.tick];exact lZ lg) (by simp only [PS.tick];exact lZ hs) n hn) fun σ2 e2 m2 k2=>?_
    have g1:(ex x.ah b l s.tick).2.n≤s.n+1+b.cost x.cc:=(gb l s.tick).n
    have gl:(ex x.ah b l s.tick).2.log.length+(s.n+1)≤s.log.length+(ex x.ah b l s.tick).2.n:=(gb l s.tick).log
    refine ay (mrep_loop hb gb hn (e:=e) (g:=g) (t:=t) (o6:=o6) (o7:=o7) (o8:=o8) hj k (i+1) f (w:=.int (i:Nat)) (by lia) (lZ hf) m2 (lZ (aZ lg gl)) (lZ (aZ hs g1))) fun σ3 e3 m3 k3=>?_
    have nx:a9 (.rng j) i σ=some (some (.int (i:Nat))):=by
      have:((i:Nat):Int) < j:=by lia
      simp only [a9,hj,this,if_true]
    refine aT σ3 (fun h=>bO nx (aa rfl) ?_) m3 (((Kp.set (.tail _ (.head _)) _).trans k2).trans k3)
    exact tick_ok hT (w:=(DS.rep e g b).v) (r:=[t,o6,o7,o8,.int (i:Nat)]) m (lZ (aZ lg hs)) (bH (.mk (cv (cQ rfl rfl rfl rfl rfl) e2) ⟨.inl rfl,aU (.aL (e3 h))⟩))
theorem mtail_rep (hc:QCal T x c) (hg:bL x.cc c x.ah) {e:DE} {g:Bool} {b:DS} (ok:e.ok c) (hb:dz T x c b) (gb:∀ l s,Gd (b.cost x.cc) s (ex x.ah b l s).2):MTail T x c (.rep e g b):=fun zz σ fr l s m lg hs n hn=>by
  simp only [yk6,yg6] at hs hn
  have g0:(ev x.ah l e s.tick).2.n≤s.n+1+e.cost x.cc:=(aO (l:=l) hg e ok s.tick).n
  have gl0:(ev x.ah l e s.tick).2.log.length+(s.n+1)≤s.log.length+(ev x.ah l e s.tick).2.n:=(aO (l:=l) hg e ok s.tick).log
  have sl:∃ σ1,ab T n 114 (x.args (.tup [.str 30,.int 2,e.v,.int 0]) fr) σ=some (.lst [iN (dg (ev x.ah l e s.tick).1 0),iN (dg (ev x.ah l e s.tick).1 1)],σ1)∧QR x.fns x.q σ1 fr l (ev x.ah l e s.tick).2∧Kp (XM2 x.q) σ σ1:=by
    obtain ⟨n,rfl⟩:∃ m,n=m+1:=⟨n - 1,cI (lZ hn)⟩
    refine ay (v_ok hT hc hg e ok σ fr l s.tick m (by simp only [PS.tick];exact lZ lg) (by simp only [PS.tick];exact lZ hs) n (lZ (dD hn))) fun σ1 e1 m1 k1=>?_
    refine aT σ1 ?_ m1 k1
    refine WC.eq (aj (f:=aR) (ρ:=x.args (.tup [.str 30,.int 2,e.v,.int 0]) fr++[.ai,.ai,.ai,.ai]) (hT.fn _ _ rfl) rfl rfl ?_)
    exact ao 6 rfl (s_true rfl (bI (w_sliceToF (.mk (cv (cQ rfl rfl rfl rfl rfl) e1) ⟨nofun,.mk rfl ⟨aa rfl,.ret ⟨rfl,rfl⟩⟩⟩))))
  refine ay sl fun σ1 e1 m1 k1=>?_
  clear sl
  have le3:=toI2_le (ev x.ah l e s.tick).1 g
  show ∃ σ',_∧QR x.fns x.q σ' fr (times (fun l s=>ex x.ah b l s) ((toI2 (ev x.ah l e s.tick).1 g).getD 0).toNat l (ev x.ah l e s.tick).2).1 (times (fun l s=>ex x.ah b l s) ((toI2 (ev x.ah l e s.tick).1 g).getD 0).toNat l (ev x.ah l e s.tick).2).2∧_
  have hj:idxOk ((toI2 (ev x.ah l e s.tick).1 g).getD 0)=true:=by
    simp only [idxOk,decide_eq_true_eq]
    unfold toI2
    split
    · simp only [Option.getD];split <;> lia
    · simp
  have mul:((toI2 (ev x.ah l e s.tick).1 g).getD 0).toNat*(1+b.cost x.cc)≤3*(1+b.cost x.cc):=Nat.mul_le_mul_right _ le3
  refine ay (mrep_loop hT hb gb (n:=n) (lZ (de hn)) (e:=e) (g:=g) (t:=.str 45) (o6:=.ai) (o7:=.ai) (o8:=dG (toI2 (ev x.ah l e s.tick).1 g)) hj ((toI2 (ev x.ah l e s.tick).1 g).getD 0).toNat 0 64 (w:=.ai) (by lia) (by lia) m1 (lZ (aZ lg gl0)) (lZ (aZ hs (aZ g0 mul)))) fun σ2 e2 m2 k2=>?_
  refine aT σ2 (ao 1 rfl<|s_false rfl<|s_false rfl<|s_false rfl<|s_false rfl<|s_true rfl<|ar<|.mk (cv (bB (cv (cQ rfl rfl rfl rfl rfl) e1) rfl) (lint2_ok hT (lZ hn))) ⟨aa rfl,?_⟩) m2 ((k23 k1).trans k2)
  have it:∀ σ,ae T (ab T n) (.blt .range [.ite (.cmp .is (.loc 8) (.none)) (.int 0) (.loc 8)]) (x.args (DS.rep e g b).v fr++[.str 45,.ai,.ai,dG (toI2 (ev x.ah l e s.tick).1 g),.ai]) σ=some (.rng ((toI2 (ev x.ah l e s.tick).1 g).getD 0),σ):=fun σ=>by
    cases hq:toI2 (ev x.ah l e s.tick).1 g with
    | none=>rfl
    | some j=>
      rw [hq] at hj
      refine (w_blt (Q:=fun v τ=>v=.rng j∧τ=σ) (af (w_ite (.mk rfl (.mk rfl (ct rfl (.mk rfl (aP (.mk (v:=.rng j) (σ':=σ) ?_ ⟨rfl,rfl⟩))))))))).ok.eq
      simp only [Option.getD] at hj
      show (if idxOk j=true then some (V.rng j,σ) else .none)=_
      exact ag (if_pos hj) rfl
  refine b6 (.mk (it _) ⟨?_,e2 (fun ρ=>.aL (aU (.aL ⟨rfl,rfl⟩)))⟩)
  simp only [cP,a9,hj,if_true];split <;> rfl
theorem mfor_turn (hc:QCal T x c) (hg:bL x.cc c x.ah) {b:DS} {k:Fin 2} (hb:dz T x c b) (hs':dz T x c (.set (.loc 1) (.bin false (.loc 1) (.con 1 0)))) (gb:∀ l s,Gd (b.cost x.cc) s (ex x.ah b l s).2) {n:Nat} (hn:2*max 20 (b.h x.hc)+4≤n) {fr:Nat} {σ:St} {l:LL} {s:PS} {r:List V} (m:QR x.fns x.q σ fr l s) (lg:s.log.length≤s.n) (fit:l.2.b=0) (lt:l.2.a.val < 1+k.val)
    (hs:s.n+2+b.cost x.cc≤900):
    ∃ σ',(∀ {f Q},While T (ab T n) mforT mforB f (x.args (DS.for k b).v fr++r) σ' Q→While T (ab T n) mforT mforB (f+1) (x.args (DS.for k b).v fr++r) σ Q)∧
      QR x.fns x.q σ' fr (ex x.ah (.set (.loc 1) (.bin false (.loc 1) (.con 1 0))) (ex x.ah b l s.tick).1 (ex x.ah b l s.tick).2).1 (ex x.ah (.set (.loc 1) (.bin false (.loc 1) (.con 1 0))) (ex x.ah b l s.tick).1 (ex x.ah b l s.tick).2).2∧Kp (XM3 x.q fr) σ σ':=by
  refine E2A4 (mcond_ok hT hc hg (e:=.lt k) trivial fit m lg (by simp only [DC.cost];exact lZ hs) (n:=n) (by simp only [DC.h];exact lZ (xLMlZ hn))) fun σ0 w e0 e0' m0 k0=>?_
  have m0':QR x.fns x.q σ0 fr l s:=m0
  refine ay (hb _ fr l s.tick m0'.tick (by simp only [PS.tick];exact lZ lg) (by simp only [PS.tick];exact lZ hs) n (lZ (xLMrZ hn))) fun σ2 e2 m2 k2=>?_
  have g1:(ex x.ah b l s.tick).2.n≤s.n+1+b.cost x.cc:=(gb l s.tick).n
  have gl:(ex x.ah b l s.tick).2.log.length+(s.n+1)≤s.log.length+(ex x.ah b l s.tick).2.n:=(gb l s.tick).log
  refine ay (hs' σ2 fr _ _ m2 (lZ (aZ lg gl)) (by simp only [yk1,yc0,yc2,yc4,DT.cost];exact lZ (aZ hs g1)) n (by simp only [yg1,yh0,yh2,yh4,DT.h];exact gLMRZ (gLMRRZ (lZ (xLMlZ hn)) (lZ (xLMlZ hn))) (lZ (xLMlZ hn)))) fun σ3 e3 m3 k3=>?_
  have lt1:(evC x.ah l (.lt k) s).1=1:=if_pos lt
  rw [lt1] at e0'
  refine aT σ3 (fun {f Q} h=>?_) m3 ((((k23 k0).trans (.set (.tail _ (.head _)) _)).trans k2).trans k3)
  have t:ae T (ab T n) mforT (x.args (DS.for k b).v fr++r) σ=some (.bool true,σ0):=
    (bT (Q:=fun v τ=>v=.bool true∧τ=σ0) (.mk (cv (evs1 (cv (cQ rfl rfl rfl rfl rfl) e0)) e0') (.mk rfl (.mk rfl ⟨rfl,rfl⟩)))).ok.eq
  refine w_while (.mk t (.mk rfl (and_t rfl (tick_ok hT (w:=(DS.for k b).v) m0' (lZ (aZ lg hs)) (bH (.mk (cv (cQ rfl rfl rfl rfl rfl) e2) ⟨.inl rfl,bH (.mk (cv (cQ rfl rfl rfl rfl rfl) e3) ⟨.inl rfl,aU (.aL h)⟩)⟩))))))
theorem mfor_end (hc:QCal T x c) (hg:bL x.cc c x.ah) {b:DS} {k:Fin 2} {n:Nat} (hn:10≤n) {fr:Nat} {σ:St} {l:LL} {s:PS} {r:List V} (m:QR x.fns x.q σ fr l s) (lg:s.log.length≤s.n) (fit:l.2.b=0) (lt:¬ l.2.a.val < 1+k.val) (hs:s.n≤900):
    ∃ σ',(∀ {f Q},(∀ ρ,Q .aL ρ σ')→While T (ab T n) mforT mforB (f+1) (x.args (DS.for k b).v fr++r) σ Q)∧QR x.fns x.q σ' fr l s∧Kp (XM3 x.q fr) σ σ':=by
  refine E2A4 (mcond_ok hT hc hg (e:=.lt k) trivial fit m lg (by simp only [DC.cost];exact lZ hs) (n:=n) (by simp only [DC.h];exact lZ hn)) fun σ0 w e0 e0' m0 k0=>?_
  have lt1:(evC x.ah l (.lt k) s).1=0:=if_neg lt
  rw [lt1] at e0'
  refine aT σ0 (fun {f Q} h=>?_) m0 (k23 k0)
  have t:ae T (ab T n) mforT (x.args (DS.for k b).v fr++r) σ=some (.bool false,σ0):=
    (bT (Q:=fun v τ=>v=.bool false∧τ=σ0) (.mk (cv (evs1 (cv (cQ rfl rfl rfl rfl rfl) e0)) e0') (.mk rfl (.mk rfl ⟨rfl,rfl⟩)))).ok.eq
  exact w_while (.mk t (.mk rfl (ct rfl (h _))))
theorem mtail_for (hc:QCal T x c) (hg:bL x.cc c x.ah) {k:Fin 2} {b:DS} (fl:b.flat) (hb:dz T x c b) (gb:∀ l s,Gd (b.cost x.cc) s (ex x.ah b l s).2):MTail T x c (.for k b):=fun zz σ fr l s m lg hs n hn=>by
  simp only [yk7,yg7] at hs hn
  have sb:dz T x c (.set (.loc 1) (.con 0 0)):=bJ hT (mtail_set hT hc hg ⟨trivial,trivial⟩)
  have ss:dz T x c (.set (.loc 1) (.bin false (.loc 1) (.con 1 0))):=bJ hT (mtail_set hT hc hg ⟨trivial,trivial,trivial⟩)
  refine ay (sb σ fr l s.tick m (by simp only [PS.tick];exact lZ lg) (by simp only [PS.tick,yk1,yc0,DT.cost];exact lZ hs) n (by simp only [yg1,yh0,DT.h];exact gLMRZ (lZ (dD hn)) (lZ (dD hn)))) fun σ1 e1 m1 k1=>?_
  have m1':QR x.fns x.q σ1 fr (l.1,⟨0,0⟩) s.tick.tick:=m1
  have st1:∀ (p:Vc) (a:Fin 8) (s:PS),ex x.ah (.set (.loc 1) (.bin false (.loc 1) (.con 1 0))) (p,⟨a,0⟩) s=((p,addP ⟨a,0⟩ ⟨1,0⟩),s.tick):=fun zz zz zz=>rfl
  have g1:(ex x.ah b (l.1,⟨0,0⟩) s.tick.tick.tick).2.n≤s.n+3+b.cost x.cc:=(gb (l.1,⟨0,0⟩) s.tick.tick.tick).n
  have gl1:(ex x.ah b (l.1,⟨0,0⟩) s.tick.tick.tick).2.log.length+(s.n+3)≤s.log.length+(ex x.ah b (l.1,⟨0,0⟩) s.tick.tick.tick).2.n:=(gb (l.1,⟨0,0⟩) s.tick.tick.tick).log
  refine ay (mfor_turn hT hc hg (k:=k) hb ss gb (n:=n) (lZ hn) (r:=[.str 43,.ai,.ai,.ai,.ai]) m1' (by simp only [PS.tick];exact lZ lg) rfl (by show (0:Nat) < 1+k.val;lia) (by simp only [PS.tick];exact lZ hs)) fun σ2 e2 m2 k2=>?_
  have fk:=flat_keeps (ah:=x.ah) fl (l.1,⟨0,0⟩) s.tick.tick.tick
  clear m1' sb m1 m zz;obtain ⟨p,hp⟩:∃ p,(ex x.ah b (l.1,⟨0,0⟩) s.tick.tick.tick).1=(p,⟨0,0⟩):=⟨_,Prod.ext rfl fk⟩
  rw [hp,st1] at m2
  have ex_for:ex x.ah (.for k b) l s=if k=0 then ((p,⟨1,0⟩),(ex x.ah b (l.1,⟨0,0⟩) s.tick.tick.tick).2.tick) else (((ex x.ah b (p,⟨1,0⟩) (ex x.ah b (l.1,⟨0,0⟩) s.tick.tick.tick).2.tick.tick).1.1,⟨2,0⟩),(ex x.ah b (p,⟨1,0⟩) (ex x.ah b (l.1,⟨0,0⟩) s.tick.tick.tick).2.tick.tick).2.tick):=by
    simp only [yx7,hp]
  refine ag ex_for ?_
  clear fk hp ex_for
  generalize (ex x.ah b (l.1,⟨0,0⟩) s.tick.tick.tick).2=S1 at*
  have wrap:∀ {σ':St},While T (ab T n) mforT mforB 64 (x.args (DS.for k b).v fr++[.str 43,.ai,.ai,.ai,.ai]) σ1 (After (bj fun v τ=>v=.none∧τ=σ') fun ρ τ=>WS T (ab T n) [] ρ τ (bj fun v τ=>v=.none∧τ=σ'))→
      WS T (ab T n) (x__law_run.body.drop 2) (x.args (DS.for k b).v fr++[.ai,.ai,.ai,.ai,.ai]) σ (bj fun v τ=>v=.none∧τ=σ'):=fun {σ'} h=>
    ao 1 rfl (s_false rfl (s_false rfl (s_false rfl (s_false rfl (s_false rfl (bH (.mk (cv (cQ rfl rfl rfl rfl rfl) e1) ⟨.inl rfl,s_while h⟩)))))))
  have m2':QR x.fns x.q σ2 fr (p,⟨1,0⟩) S1.tick:=m2
  have hk:k=0∨k=1:=by match k with | 0=>exact .inl rfl | 1=>exact .inr rfl
  clear m2 e1 l;rcases hk with rfl | rfl
  · refine ag (if_pos rfl) ?_
    refine ay (mfor_end hT hc hg (k:=0) (n:=n) (b:=b) (r:=[.str 43,.ai,.ai,.ai,.ai]) (lZ (dD hn)) m2' (by show S1.log.length≤S1.n+1;exact lZ (aZ lg gl1)) rfl (by show ¬ (1:Nat) < 1+0;exact Nat.not_lt_of_le l0Z) (by show S1.n+1≤900;exact lZ (aZ hs g1))) fun σ3 e3 m3 k3=>?_
    exact aT σ3 (wrap (e2 (e3 fun ρ=>.aL (aU (.aL ⟨rfl,rfl⟩))))) m3 ((k1.trans k2).trans k3)
  · refine ag (if_neg (by decide)) ?_
    have g2:(ex x.ah b (p,⟨1,0⟩) S1.tick.tick).2.n≤S1.n+2+b.cost x.cc:=(gb (p,⟨1,0⟩) _).n
    have gl2:(ex x.ah b (p,⟨1,0⟩) S1.tick.tick).2.log.length+(S1.n+2)≤S1.log.length+(ex x.ah b (p,⟨1,0⟩) S1.tick.tick).2.n:=(gb (p,⟨1,0⟩) _).log
    refine ay (mfor_turn hT hc hg (k:=1) hb ss gb (n:=n) (lZ hn) (r:=[.str 43,.ai,.ai,.ai,.ai]) m2' (by show S1.log.length≤S1.n+1;exact lZ (aZ lg gl1)) rfl (by show (1:Nat) < 1+1;exact l0Z) (by show S1.n+1+2+b.cost x.cc≤900;exact lZ (aZ hs g1))) fun σ3 e3 m3 k3=>?_
    have fk2:=flat_keeps (ah:=x.ah) fl (p,⟨1,0⟩) S1.tick.tick
    clear gb hb fl m2' ss;obtain ⟨q,hq⟩:∃ q,(ex x.ah b (p,⟨1,0⟩) S1.tick.tick).1=(q,⟨1,0⟩):=⟨_,Prod.ext rfl fk2⟩
    rw [hq,st1] at m3
    have m3':QR x.fns x.q σ3 fr (q,⟨2,0⟩) (ex x.ah b (p,⟨1,0⟩) S1.tick.tick).2.tick:=m3
    refine ay (mfor_end hT hc hg (k:=1) (n:=n) (b:=b) (r:=[.str 43,.ai,.ai,.ai,.ai]) (lZ (dD hn)) m3' (by show (ex x.ah b (p,⟨1,0⟩) S1.tick.tick).2.log.length≤(ex x.ah b (p,⟨1,0⟩) S1.tick.tick).2.n+1;exact lZ (aZ lg (aZ gl1 gl2))) rfl (by show ¬ (2:Nat) < 1+1;exact Nat.not_lt_of_le l0Z) (by show (ex x.ah b (p,⟨1,0⟩) S1.tick.tick).2.n+1≤900;exact lZ (aZ hs (aZ g1 g2)))) fun σ4 e4 m4 k4=>?_
    refine ag hq ?_
    exact aT σ4 (wrap (e2 (e3 (e4 fun ρ=>.aL (aU (.aL ⟨rfl,rfl⟩)))))) m4 (((k1.trans k2).trans k3).trans k4)
theorem dF (hc:QCal T x c) (hg:bL x.cc c x.ah):∀ st:DS,st.ok c→dz T x c st
  | .none,_=>bJ hT fun h=>absurd rfl h
  | .set t e,ok=>bJ hT (mtail_set hT hc hg ok)
  | .blk2 a b,ok=>bJ hT (mtail_blk2 hT (dF hc hg a ok.1) (dF hc hg b ok.2) (cG hg a ok.1))
  | .blk3 a b d,ok=>bJ hT (mtail_blk3 hT (dF hc hg a ok.1) (dF hc hg b ok.2.1) (dF hc hg d ok.2.2) (cG hg a ok.1) (cG hg b ok.2.1))
  | .iff t a b,ok=>bJ hT (mtail_iff hT hc hg ok.1 (dF hc hg a ok.2.1) (dF hc hg b ok.2.2))
  | .case k e l1 l2 l3 a b d,ok=>bJ hT (mtail_case hT hc hg ok.1 (dF hc hg a ok.2.1) (dF hc hg b ok.2.2.1) (dF hc hg d ok.2.2.2))
  | .rep e g b,ok=>bJ hT (mtail_rep hT hc hg ok.1 (dF hc hg b ok.2) (cG hg b ok.2))
  | .for k b,ok=>bJ hT (mtail_for hT hc hg ok.1 (dF hc hg b ok.2) (cG hg b ok.2))
end
end
section
open PySem
section
variable {T:Tab} (hT:bz bE T) {x:Qx}
include hT
theorem mcall_ok (k:Fin 2) (hb:dz T x k.val (x.fns k).body) (hcc:(x.fns k).body.cost x.cc≤x.cc k) (hh:(x.fns k).body.h x.hc≤x.hc k) (heq:∀ v s,x.ah k v s=runFn x.ah (x.fns k) v s):
    ∀ (e:DE) (σ σ1:St) (fr:Nat) (l:LL) (s1:PS) (v:Vc) (n:Nat),ab T n 114 (x.args e.v fr) σ=some (v.r,σ1)→QR x.fns x.q σ1 fr l s1→s1.log.length≤s1.n→s1.n+x.cc k≤900→2*x.hc k+4≤n→
      ∃ σ',ab T (n+1) 113 (x.args (DE.call k e).v fr) σ=some ((x.ah k v s1).1.r,σ')∧QR x.fns x.q σ' fr l (x.ah k v s1).2∧Kp (XM2 x.q) σ1 σ':=fun e σ σ1 fr l s1 v n e1 m lg hs hn=>by
  have lo:∀ {a:Nat} {o:AO},σ1[a]?=some o→a < σ1.length:=fun {a o} h=>(List.getElem?_eq_some_iff.mp h).1
  have L1:=lo m.sg;have L2:=lo m.told;have L3:=lo m.fr
  have new2:(σ1++[AO.lst [xX.r,xX.r]])[σ1.length]?=some (.lst [xX.r,xX.r]):=bR
  have rowk:∀ (σ),ae T (ab T n) (.idx (.loc 3) (.idx (.loc 0) (.int 2))) (x.args (DE.call k e).v fr++[v.r,.ai,.ai,.ai]) σ=some (.obj (x.q.t k),σ):=fun σ=>by
    refine f2 k ?_ ?_ <;> rfl
  have fin:∀ {σ2:St} {l2:LL} {s2:PS} {p:V},QR x.fns x.q σ2 σ1.length l2 s2→s2.log.length≤s2.n+1→s2.n=s1.n→l2=(x.fns k).l0 v→s2=(x.fns k).s0 v s1→Kp (XM3 x.q σ1.length) (σ1++[AO.lst [xX.r,xX.r]]) σ2→
      (∀ {Q:Fl→List V→St→Prop},WS T (ab T n) (x__law_call.body.drop 5) (x.args (DE.call k e).v fr++[v.r,.obj (x.q.t k),.obj σ1.length,(x.fns k).du]) σ2 Q→WS T (ab T n) (x__law_call.body.drop 4) (x.args (DE.call k e).v fr++[v.r,.obj (x.q.t k),.obj σ1.length,(x.fns k).du]) (σ1++[AO.lst [xX.r,xX.r]]) Q)→
      ∃ σ',ab T (n+1) 113 (x.args (DE.call k e).v fr) σ=some ((x.ah k v s1).1.r,σ')∧QR x.fns x.q σ' fr l (x.ah k v s1).2∧Kp (XM2 x.q) σ1 σ':=fun {σ2 l2 s2 p} m2 lg2 hn2 el es k2 hw=>by
    refine ay (hb σ2 σ1.length l2 s2 m2 lg2 (lZ (aZ hcc (aZ hs (Nat.le_of_eq hn2)))) n (lZ (aZ hh (aZ hh hn)))) fun σ3 e3 m3 k3=>?_
    clear hh hcc hb new2 L3 L2 L1 hn2 lg2 p hn hs lg;subst el es
    rw [heq,runFn_ex]
    have kk:Kp (XM3 x.q σ1.length) σ1 σ3:=((Kp.app _ _ _).trans k2).trans k3
    have keep2:Kp (XM2 x.q) σ1 σ3:=⟨kk.1,fun a o ha ho=>kk.2 a o (by
      have:=lo ho
      simp only [List.mem_cons,List.not_mem_nil,or_false,not_or] at ha ⊢
      exact ⟨ha.1,ha.2,Nat.ne_of_lt (lZ this)⟩) ho⟩
    refine aT σ3 ?_ ⟨m.n1,m.n2,m3.sg,keep2.2 _ _ (by simpa using ⟨Ne.symm m.n1,Ne.symm m.n2⟩) m.fr,m3.told,m3.th,m.n3⟩ keep2
    refine ay (m.th k) fun fs ht zz hports=>?_
    refine ay (m2.th k) fun fs1 ht1 hb1 zz=>?_
    refine WC.eq (aj (f:=x__law_call) (ρ:=x.args (DE.call k e).v fr++[.ai,.ai,.ai,.ai]) (hT.fn _ _ rfl) rfl rfl ?_)
    refine ar (.mk (cv (cQ (dw rfl rfl rfl rfl rfl) rfl rfl rfl rfl) e1) ⟨aa rfl,ar (.mk (rowk _) ⟨aa rfl,ar (.mk rfl ⟨aa rfl,?_⟩)⟩)⟩)
    refine ar (.mk (v:=(x.fns k).du) (σ':=σ1++[AO.lst [xX.r,xX.r]]) (dw (bK rfl (aB ht) (av hT rfl) hports) rfl rfl rfl rfl) ⟨aa rfl,hw ?_⟩)
    refine bH (.mk (cv (cQ (bK rfl ht1 (av hT rfl) hb1) rfl rfl rfl rfl) e3) ⟨.inl rfl,au (dw rfl rfl (l:=[_,_]) (by simp only [bk,m3.fr];rfl) rfl rfl) (.ret ⟨rfl,rfl⟩)⟩)
  have m1:QR x.fns x.q (σ1++[AO.lst [xX.r,xX.r]]) σ1.length (xX,xX) s1:=by
    refine ⟨Nat.ne_of_lt (lZ L1),Nat.ne_of_lt (lZ L2),aB m.sg,new2,aB m.told,fun j=>?_,m.n3⟩
    refine aq (m.th j) fun fs h r=>?_
    exact aI fs (aB h) r
  clear heq hh hcc hb rowk L3 L2 L1 lo hn m e1;cases hp:(x.fns k).port with
  | none=>
    have pv:(x.fns k).du=.tup [.str 38,.int 3,.bool false,.str 26,.int 1]:=by unfold Fn.du;exact ag (hp ..) rfl
    have el:(x.fns k).l0 v=(xX,v):=by unfold Fn.l0;exact ag (hp ..) rfl
    have es:(x.fns k).s0 v s1=s1:=by unfold Fn.s0;exact ag (hp ..) rfl
    refine fin (l2:=(xX,v)) (s2:=s1) (p:=.none) (m1.setFr (xX,v)) (lZ lg) rfl el.symm es.symm (.set (by simp) _) fun {Q} h=>?_
    rw [pv] at h ⊢
    exact s_true rfl (dE (.mk rfl (.mk rfl (.mk rfl (p_lst new2 (by decide) (by decide) (aa rfl) h)))))
  | some i=>
    have pv:(x.fns k).du=.tup [.str 38,.int 3,.bool false,.str 25,iN i]:=by unfold Fn.du;exact ag (hp ..) rfl
    have el:(x.fns k).l0 v=(xX,xX):=by unfold Fn.l0;exact ag (hp ..) rfl
    have es:(x.fns k).s0 v s1=s1.put i v:=by unfold Fn.s0;exact ag (hp ..) rfl
    have ne:ae T (ab T n) (.cmp .ne (.idx (.loc 1) (.idx (.loc 8) (.int 4))) (.loc 5)) (x.args (DE.call k e).v fr++[v.r,.obj (x.q.t k),.obj σ1.length,.tup [.str 38,.int 3,.bool false,.str 25,iN i]]) (σ1++[AO.lst [xX.r,xX.r]])=some (.bool (!decide (s1.sg i=v)),σ1++[AO.lst [xX.r,xX.r]]):=by
      have e0:ae T (ab T n) (.idx (.loc 1) (.idx (.loc 8) (.int 4))) (x.args (DE.call k e).v fr++[v.r,.obj (x.q.t k),.obj σ1.length,.tup [.str 38,.int 3,.bool false,.str 25,iN i]]) (σ1++[AO.lst [xX.r,xX.r]])=some ((s1.sg i).r,σ1++[AO.lst [xX.r,xX.r]]):=by
        refine dw rfl (v:=(s1.sg i).r) (k:=(i.val:Nat)) rfl (l:=rowsV s1) (by simp only [bk,m1.sg];rfl) ?_ (rowsV_get s1 i)
        refine f4 i ?_ ?_ ?_ ?_ <;> rfl
      refine (bT (Q:=fun w τ=>w=.bool (!decide (s1.sg i=v))∧τ=σ1++[AO.lst [xX.r,xX.r]]) (.mk e0 (.mk rfl (.mk (w:=!decide (s1.sg i=v)) ?_ ⟨rfl,rfl⟩)))).ok.eq
      show (cmpV (σ1++[AO.lst [xX.r,xX.r]]) .eq (s1.sg i).r v.r).map (!·)=_
      rw [row_eq];rfl
    by_cases q:s1.sg i=v
    · have es':s1.put i v=s1:=PS.put_same q.symm
      rw [decide_eq_true q] at ne
      refine fin (l2:=(xX,xX)) (s2:=s1) (p:=.none) m1 (lZ lg) rfl el.symm (by exact ag (es ..) (ag (es' ..) rfl)) (.refl _ _) fun {Q} h=>?_
      rw [pv] at h ⊢
      exact s_false rfl (s_false ne h)
    · rw [decide_eq_false q] at ne
      have m2:=m1.write i v
      have es':s1.put i v=⟨fun j=>if j=i then v else s1.sg j,s1.log++[i.val],s1.n⟩:=by unfold PS.put;exact ag (if_neg (Ne.symm q) ..) rfl
      have t:((σ1++[AO.lst [xX.r,xX.r]]).set x.q.sg (.lst ((rowsV s1).set (i.val:Int).toNat v.r)))[x.q.told]?=some (.lst (iN s1.n :: s1.log.map iN)):=aK m1.n3 m1.told
      refine fin (l2:=(xX,xX)) (s2:=⟨fun j=>if j=i then v else s1.sg j,s1.log++[i.val],s1.n⟩) (p:=.none) m2 (by simp;exact lZ lg) rfl el.symm (by exact ag (es ..) (ag (es' ..) rfl)) ((Kp.set (by simp) _).trans (.set (by simp) _)) fun {Q} h=>?_
      rw [pv] at h ⊢
      refine s_false rfl (s_true ne (dE (.mk rfl (.mk rfl (.mk rfl (p_lst (l:=rowsV s1) m1.sg (by omega) ?_ (aa rfl) ?_))))))
      · show ((i.val:Nat):Int) < 4;omega
      · exact bH (.mk (mv_app rfl t rfl t (by simp;exact lZ (aZ lg hs))) ⟨.inl rfl,h⟩)
end
noncomputable def cal00:Cal:=fun zz v s=>(v,s)
noncomputable def calM (fns:Fin 2→Fn):Cal:=fun k=>if k=0 then runFn cal00 (fns 0) else runFn (fun _=>runFn cal00 (fns 0)) (fns 1)
structure FnsOk (fns:Fin 2→Fn):Prop where
  a:(fns 0).second.ok 0∧(fns 0).result.ok 0
  b:(fns 1).second.ok 1∧(fns 1).result.ok 1
theorem calM_eq {fns:Fin 2→Fn} (h:FnsOk fns) (k:Fin 2) (v:Vc) (s:PS):calM fns k v s=runFn (calM fns) (fns k) v s:=by
  refine f2 k ?_ ?_
  · exact runFn_congr (c:=0) (fun k hk=>absurd hk (by lia)) h.a.1 h.a.2 v s
  · exact runFn_congr (c:=1) (fun k hk=>by
      have:k=0:=Fin.ext (by lia)
      subst this;rfl) h.b.1 h.b.2 v s
noncomputable def ccM (a b:Nat):Fin 2→Nat:=fun k=>if k=0 then a else b
end
section
open PySem
theorem loc_ne:(DT.loc 0:DT)≠.loc 1:=fun q=>by injection q with q;exact absurd q (by decide)
noncomputable def DE.dp:DE→Nat
  | .con _ _=>0 | .sig _=>0 | .loc _=>0
  | .call _ e=>1+e.dp
  | .bin _ a b=>1+max a.dp b.dp
  | .cnd c t f=>1+max c.dp (max t.dp f.dp)
  | .ext a b=>1+max a.dp b.dp
theorem yp0 {z1 z2}:DE.dp  (.con z1 z2)=(0):=rfl
theorem yp1 {z1}:DE.dp  (.sig z1)=(0):=rfl
theorem yp2 {z1}:DE.dp  (.loc z1)=(0):=rfl
theorem yp3 {z1 e}:DE.dp  (.call z1 e)=(1+e.dp):=rfl
theorem yp4 {z1 a b}:DE.dp  (.bin z1 a b)=(1+max a.dp b.dp):=rfl
theorem yp5 {c t f}:DE.dp  (.cnd c t f)=(1+max c.dp (max t.dp f.dp)):=rfl
theorem yp6 {a b}:DE.dp  (.ext a b)=(1+max a.dp b.dp):=rfl
structure DE.fit (c d:Nat) (e:DE):Prop where
  ok:e.ok c
  dp:e.dp≤d
theorem cost0 {cc}:∀ {e:DE},e.dp=0→e.cost cc=0:=by
  intro e h;cases e <;> first | rfl | (dsimp only [yp0,yp1,yp2,yp3,yp4,yp5,yp6] at h;lia)
theorem cost1 {cc:Fin 2→Nat} {c cm:Nat} (hc:∀ k:Fin 2,k.val < c→cc k≤cm):∀ {e:DE},e.fit c 1→e.cost cc≤cm:=by
  intro e h
  obtain ⟨ok,dp⟩:=h
  cases e with
  | con=>exact Nat.zero_le _
  | sig=>exact Nat.zero_le _
  | loc=>exact Nat.zero_le _
  | call k e=>dsimp only [yp0,yp1,yp2,yp3,yp4,yp5,yp6,yc0,yc1,yc2,yc3,yc4,yc5,yc6] at *;refine ag (cost0 (zZ (lZ dp))) ?_;have:=hc k ok.1;exact lZ this
  | bin x a b=>dsimp only [yp0,yp1,yp2,yp3,yp4,yp5,yp6,yc0,yc1,yc2,yc3,yc4,yc5,yc6] at *;refine ag (cost0 (zZ (lZ (xRlZ dp)))) (ag (cost0 (zZ (lZ (xRrZ dp)))) ?_);exact l0Z
  | cnd x a b=>dsimp only [yp0,yp1,yp2,yp3,yp4,yp5,yp6,yc0,yc1,yc2,yc3,yc4,yc5,yc6] at *;refine ag (cost0 (zZ (lZ (xRlZ dp)))) (ag (cost0 (zZ (lZ (xRlZ (xRrZ dp))))) (ag (cost0 (zZ (lZ (xRrZ (xRrZ dp))))) ?_));exact l0Z
  | ext a b=>dsimp only [yp0,yp1,yp2,yp3,yp4,yp5,yp6,yc0,yc1,yc2,yc3,yc4,yc5,yc6] at *;refine ag (cost0 (zZ (lZ (xRlZ dp)))) (ag (cost0 (zZ (lZ (xRrZ dp)))) ?_);exact l0Z
theorem cost2 {cc:Fin 2→Nat} {c cm:Nat} (hc:∀ k:Fin 2,k.val < c→cc k≤cm):∀ {e:DE},e.fit c 2→e.cost cc≤3*cm:=by
  intro e h
  obtain ⟨ok,dp⟩:=h
  have one:∀ {a:DE},a.ok c→a.dp≤1→a.cost cc≤cm:=fun h1 h2=>cost1 hc ⟨h1,h2⟩
  cases e with
  | con=>exact Nat.zero_le _
  | sig=>exact Nat.zero_le _
  | loc=>exact Nat.zero_le _
  | call k e=>simp only [yp3,yc3] at *;have:=hc k ok.1;have:=one ok.2 (lZ dp);lia
  | bin x a b=>simp only [yp4,yc4] at *;have:=one ok.1 (lZ (xRlZ dp));have:=one ok.2 (lZ (xRrZ dp));lia
  | cnd x a b=>simp only [yp5,yc5] at *;have:=one ok.1 (lZ (xRlZ dp));have:=one ok.2.1 (lZ (xRlZ (xRrZ dp)));have:=one ok.2.2 (lZ (xRrZ (xRrZ dp)));lia
  | ext a b=>simp only [yp6,yc6] at *;have:=one ok.1 (lZ (xRlZ dp));have:=one ok.2 (lZ (xRrZ dp));lia
theorem mx2 {a b c d m:Nat} (h1:a≤2*c+m) (h2:b≤2*d+m):max a b≤2*max c d+m:=
  Nat.max_le.mpr ⟨Nat.le_trans h1 (Nat.add_le_add_right (Nat.mul_le_mul_left 2 (Nat.le_max_left c d)) m),Nat.le_trans h2 (Nat.add_le_add_right (Nat.mul_le_mul_left 2 (Nat.le_max_right c d)) m)⟩
theorem m1 {a c k m:Nat} (h:a≤2*c+m) (hk:k≤2):k+a≤2*(1+c)+m:=lZ (aZ h hk)
theorem h_le {hc:Fin 2→Nat} {c hm:Nat} (hh:∀ k:Fin 2,k.val < c→hc k≤hm):∀ e:DE,e.ok c→e.h hc≤2*e.dp+hm
  | .con _ _,_=>Nat.zero_le _
  | .sig _,_=>Nat.zero_le _
  | .loc _,_=>Nat.zero_le _
  | .call k e,ok=>by have:=h_le hh e ok.2;have:=hh k ok.1;simp only [yh3,yp3];omega
  | .bin _ a b,ok=>m1 (mx2 (h_le hh a ok.1) (h_le hh b ok.2)) (Nat.le_of_ble_eq_true rfl)
  | .ext a b,ok=>m1 (mx2 (h_le hh a ok.1) (h_le hh b ok.2)) (Nat.le_of_ble_eq_true rfl)
  | .cnd c t f,ok=>m1 (mx2 (h_le hh c ok.1) (mx2 (h_le hh t ok.2.1) (h_le hh f ok.2.2))) (Nat.le_of_ble_eq_true rfl)
structure FnsFit (fns:Fin 2→Fn):Prop where
  a1:(fns 0).second.fit 0 1
  a2:(fns 0).result.fit 0 1
  b1:(fns 1).second.fit 1 1
  b2:(fns 1).result.fit 1 1
theorem FnsFit.ok {fns} (h:FnsFit fns):FnsOk fns:=⟨⟨h.a1.ok,h.a2.ok⟩,⟨h.b1.ok,h.b2.ok⟩⟩
noncomputable abbrev ccN:Fin 2→Nat:=ccM 3 9
noncomputable abbrev hcN:Fin 2→Nat:=ccM 20 40
theorem cc_lt {c:Nat} (k:Fin 2) (h:k.val < c) (hc:c≤1):ccN k≤3:=by
  have:k=0:=Fin.ext (by lia)
  subst this;exact Nat.le_refl _
theorem hc_lt {c:Nat} (k:Fin 2) (h:k.val < c) (hc:c≤1):hcN k≤20:=by
  have:k=0:=Fin.ext (by lia)
  subst this;exact Nat.le_refl _
theorem cc9 (k:Fin 2):ccN k≤9:=by match k with | 0=>decide | 1=>decide
theorem hc40 (k:Fin 2):hcN k≤40:=by match k with | 0=>decide | 1=>decide
theorem body0 {fns} (h:FnsFit fns):(fns 0).body.cost ccN≤3∧(fns 0).body.h hcN≤20∧(fns 0).body.ok 0∧(fns 0).body.dep < 64:=by
  have c1:(fns 0).second.cost ccN≤0:=cost1 (fun k hk=>absurd hk (by lia)) h.a1
  have c2:(fns 0).result.cost ccN≤0:=cost1 (fun k hk=>absurd hk (by lia)) h.a2
  have h1:(fns 0).second.h hcN≤2*_+0:=h_le (fun k hk=>absurd hk (by lia)) _ h.a1.ok
  have h2:(fns 0).result.h hcN≤2*_+0:=h_le (fun k hk=>absurd hk (by lia)) _ h.a2.ok
  have:=h.a1.dp;have:=h.a2.dp
  refine ⟨?_,?_,⟨⟨trivial,h.a1.ok⟩,⟨trivial,h.a2.ok⟩⟩,by show 1+max 0 0 < 64;decide⟩
  · dsimp only [Fn.body,yk0,yk1,yk2,yk3,yk4,yk5,yk6,yk7,DT.cost];exact lZ (aZ c1 c2)
  · dsimp only [Fn.body,yg0,yg1,yg2,yg3,yg4,yg5,yg6,yg7,DT.h];lia
theorem body1 {fns} (h:FnsFit fns):(fns 1).body.cost ccN≤9∧(fns 1).body.h hcN≤40∧(fns 1).body.ok 1∧(fns 1).body.dep < 64:=by
  have c1:(fns 1).second.cost ccN≤3:=cost1 (fun k hk=>cc_lt k hk (Nat.le_refl _)) h.b1
  have c2:(fns 1).result.cost ccN≤3:=cost1 (fun k hk=>cc_lt k hk (Nat.le_refl _)) h.b2
  have h1:(fns 1).second.h hcN≤2*_+20:=h_le (fun k hk=>hc_lt k hk (Nat.le_refl _)) _ h.b1.ok
  have h2:(fns 1).result.h hcN≤2*_+20:=h_le (fun k hk=>hc_lt k hk (Nat.le_refl _)) _ h.b2.ok
  have:=h.b1.dp;have:=h.b2.dp
  refine ⟨?_,?_,⟨⟨trivial,h.b1.ok⟩,⟨trivial,h.b2.ok⟩⟩,by show 1+max 0 0 < 64;decide⟩
  · dsimp only [Fn.body,yk0,yk1,yk2,yk3,yk4,yk5,yk6,yk7,DT.cost];exact lZ (aZ c1 c2)
  · dsimp only [Fn.body,yg0,yg1,yg2,yg3,yg4,yg5,yg6,yg7,DT.h];lia
theorem gd_of {fns} (ok:FnsOk fns) {c:Nat} {k:Fin 2} (hk:k.val=c) (hg:bL ccN c (calM fns)) (h1:(fns k).second.ok c) (h2:(fns k).result.ok c) (hc:(fns k).body.cost ccN≤ccN k) (v:Vc) (s:PS):Gd (ccN k) s (calM fns k v s).2:=by
  refine ag (calM_eq ok ..) ?_
  have:=runFn_gd hg h1 h2 v s
  refine this.mono ?_
  dsimp only [Fn.body,yk0,yk1,yk2,yk3,yk4,yk5,yk6,yk7,DT.cost] at hc;exact lZ hc
theorem gd0 {fns} (h:FnsFit fns):bL ccN 1 (calM fns):=fun k hk v s=>by
  have e:k=0:=Fin.ext (by lia)
  subst e
  exact gd_of h.ok (c:=0) rfl (fun k hk=>absurd hk (by lia)) h.a1.ok h.a2.ok (body0 h).1 v s
theorem gd2 {fns} (h:FnsFit fns):bL ccN 2 (calM fns):=fun k hk v s=>by
  refine f2 k ?_ ?_
  · exact gd0 h 0 (by decide) v s
  · exact gd_of h.ok (c:=1) rfl (gd0 h) h.b1.ok h.b2.ok (body1 h).1 v s
section
variable {fns:Fin 2→Fn} (hf:FnsFit fns)
include hf
section
variable {T:Tab} (hT:bz bE T) {H:Hd} (h900:T.fn 900=some (a0 (.lst [.obj (H.t 0),.obj (H.t 1)]))) (hgl:T.gl 0=.int 24)
include hT h900 hgl
theorem calOk2:CalOk T ⟨fns,H,calM fns,ccN,hcN⟩ 2:=by
  have x0:CalOk T ⟨fns,H,calM fns,ccN,hcN⟩ 0:=fun k hk=>absurd hk (by lia)
  have b0:=body0 hf
  have b1:=body1 hf
  have x1:CalOk T ⟨fns,H,calM fns,ccN,hcN⟩ 1:=fun k hk=>by
    have e:k=0:=Fin.ext (by lia)
    subst e
    exact call_ok (x:=⟨fns,H,calM fns,ccN,hcN⟩) hT h900 hgl 0 (st_ok hT (x:=⟨fns,H,calM fns,ccN,hcN⟩) (c:=0) x0 (fun k hk=>absurd hk (by lia)) _ b0.2.2.1 b0.2.2.2) (gd2 hf 0 (by decide)) b0.1 b0.2.1 (calM_eq hf.ok 0)
  intro k hk
  refine f2 k ?_ ?_
  · exact x1 0 (by decide)
  · exact call_ok (x:=⟨fns,H,calM fns,ccN,hcN⟩) hT h900 hgl 1 (st_ok hT (x:=⟨fns,H,calM fns,ccN,hcN⟩) (c:=1) x1 (gd0 hf) _ b1.2.2.1 b1.2.2.2) (gd2 hf 1 (by decide)) b1.1 b1.2.1 (calM_eq hf.ok 1)
end
theorem qcal2 {T:Tab} (hT:bz bE T) {q:Qd}:QCal T ⟨fns,q,calM fns,ccN,hcN⟩ 2:=by
  have x0:QCal T ⟨fns,q,calM fns,ccN,hcN⟩ 0:=fun k hk=>absurd hk (by lia)
  have b0:=body0 hf
  have b1:=body1 hf
  have x1:QCal T ⟨fns,q,calM fns,ccN,hcN⟩ 1:=fun k hk=>by
    have e:k=0:=Fin.ext (by lia)
    subst e
    exact mcall_ok (x:=⟨fns,q,calM fns,ccN,hcN⟩) hT 0 (dF hT (x:=⟨fns,q,calM fns,ccN,hcN⟩) (c:=0) x0 (fun k hk=>absurd hk (by lia)) _ b0.2.2.1) b0.1 b0.2.1 (calM_eq hf.ok 0)
  intro k hk
  refine f2 k ?_ ?_
  · exact x1 0 (by decide)
  · exact mcall_ok (x:=⟨fns,q,calM fns,ccN,hcN⟩) hT 1 (dF hT (x:=⟨fns,q,calM fns,ccN,hcN⟩) (c:=1) x1 (gd0 hf) _ b1.2.2.1) b1.1 b1.2.1 (calM_eq hf.ok 1)
end
noncomputable def DS.fit:Nat→DS→Prop
  | _,.none=>True
  | _,.set t e=>e.fit 2 2∧match t with | .loc i=>i=0 | .sig _=>True | .pick _ e _ _ _=>e.fit 2 1
  | d+1,.blk2 a b=>a.fit d∧b.fit d
  | d+1,.iff (.ex e) a b=>e.fit 2 2∧a.fit d∧b.fit d
  | d+1,.case _ e l1 l2 l3 a b c=>(e.fit 2 1∧l1.fit 2 1∧l2.fit 2 1∧l3.fit 2 1)∧a.fit d∧b.fit d∧c.fit d
  | d+1,.rep e _ b=>e.fit 2 1∧b.fit 0
  | d+2,.for _ b=>b.fit 0
  | _,_=>False
theorem fit0 {st:DS} (h:st.fit 0):st.ok 2∧st.flat∧st.cost ccN≤37∧st.h hcN≤58∧st.dep=0:=by
  cases st with
  | none=>exact ⟨trivial,trivial,Nat.zero_le _,Nat.zero_le _,rfl⟩
  | set t e=>
    obtain ⟨he,ht⟩:=h
    have c1:=cost2 (cc:=ccN) (c:=2) (cm:=9) (fun k zz=>cc9 k) he
    have h1:=h_le (hc:=hcN) (c:=2) (hm:=40) (fun k zz=>hc40 k) e he.ok
    have:=he.dp
    cases t with
    | loc i=>
      have:i=0:=ht
      clear ht;subst this
      exact ⟨⟨trivial,he.ok⟩,loc_ne,by dsimp only [yk0,yk1,yk2,yk3,yk4,yk5,yk6,yk7,DT.cost];exact lZ c1,by dsimp only [yg0,yg1,yg2,yg3,yg4,yg5,yg6,yg7,DT.h];exact gRZ (lZ (aZ h1 (aZ this this))) l0Z,rfl⟩
    | sig i=>exact ⟨⟨trivial,he.ok⟩,nofun,by dsimp only [yk0,yk1,yk2,yk3,yk4,yk5,yk6,yk7,DT.cost];exact lZ c1,by dsimp only [yg0,yg1,yg2,yg3,yg4,yg5,yg6,yg7,DT.h];exact gRZ (lZ (aZ h1 (aZ this this))) l0Z,rfl⟩
    | pick i y g o d=>
      have hy:y.fit 2 1:=ht
      have c2:=cost1 (cc:=ccN) (c:=2) (cm:=9) (fun k zz=>cc9 k) hy
      have h2:=h_le (hc:=hcN) (c:=2) (hm:=40) (fun k zz=>hc40 k) y hy.ok
      have:=hy.dp
      exact ⟨⟨hy.ok,he.ok⟩,by show (DT.pick i y g o d)≠.loc 1;simp,by dsimp only [yk0,yk1,yk2,yk3,yk4,yk5,yk6,yk7,DT.cost];exact lZ (aZ c1 c2),by dsimp only [yg0,yg1,yg2,yg3,yg4,yg5,yg6,yg7,DT.h];lia,rfl⟩
  | blk2=>exact h.elim
  | blk3=>exact h.elim
  | iff t a b=>cases t <;> exact h.elim
  | case=>exact h.elim
  | rep=>exact h.elim
  | «for»=>exact h.elim
theorem fitS {C Hh:Nat} {d:Nat} (ih:∀ {st:DS},st.fit d→st.ok 2∧st.cost ccN≤C∧st.h hcN≤Hh∧st.dep≤d) (hC:37≤C) (hH:58≤Hh) (hd:d≤1) {st:DS} (h:st.fit (d+1)):st.ok 2∧st.cost ccN≤max (2*C+1) (C+87)∧st.h hcN≤Hh+3∧st.dep≤d+1:=by
  have e1:∀ {e:DE},e.fit 2 1→e.cost ccN≤9∧e.h hcN≤42:=fun {e} he=>by
    have c1:=cost1 (cc:=ccN) (c:=2) (cm:=9) (fun k zz=>cc9 k) he
    have h1:=h_le (hc:=hcN) (c:=2) (hm:=40) (fun k zz=>hc40 k) e he.ok
    have:=he.dp
    exact ⟨c1,lZ (aZ h1 (aZ this this))⟩
  have z:∀ {b:DS},b.fit 0→b.ok 2∧b.flat∧b.cost ccN≤37∧b.h hcN≤58∧b.dep=0:=fun h=>fit0 h
  cases st with
  | none=>exact ⟨trivial,Nat.zero_le _,Nat.zero_le _,Nat.zero_le _⟩
  | set t e=>
    have h0:(DS.set t e).fit 0:=by cases d <;> exact h
    have:=z h0
    exact ⟨this.1,rrZ (lZ this.2.2.1),lZ (aZ hH this.2.2.2.1),by refine ag this.2.2.2.2 ?_;exact l0Z⟩
  | blk2 a b=>
    have ha:=ih h.1;have hb:=ih h.2
    exact ⟨⟨ha.1,hb.1⟩,by simp only [yk2];exact rlZ (lZ (aZ ha.2.1 hb.2.1)),by simp only [yg2];exact gRZ (lZ ha.2.2.1) (lZ hb.2.2.1),by simp only [yd2];exact gRZ (lZ ha.2.2.2) (lZ hb.2.2.2)⟩
  | blk3=>cases d <;> exact h.elim
  | iff t a b=>
    cases t with
    | ex e=>
      have ha:=ih h.2.1;have hb:=ih h.2.2
      have he:e.fit 2 2:=h.1
      have c1:=cost2 (cc:=ccN) (c:=2) (cm:=9) (fun k zz=>cc9 k) he
      have h1:=h_le (hc:=hcN) (c:=2) (hm:=40) (fun k zz=>hc40 k) e he.ok
      have:=he.dp
      exact ⟨⟨⟨he.ok,fun zz=>trivial⟩,ha.1,hb.1⟩,by simp only [yk4,DC.cost];exact gRZ (rrZ (lZ (aZ ha.2.1 c1))) (rrZ (lZ (aZ hb.2.1 c1))),by simp only [yg4,DC.h];exact gRZ (lZ (aZ hH (aZ h1 (aZ this this)))) (gRZ (lZ ha.2.2.1) (lZ hb.2.2.1)),by simp only [yd4];exact gRZ (lZ ha.2.2.2) (lZ hb.2.2.2)⟩
    | an=>cases d <;> exact h.elim
    | lt=>cases d <;> exact h.elim
  | case k e l1 l2 l3 a b c=>
    have ha:=ih h.2.1;have hb:=ih h.2.2.1;have hc:=ih h.2.2.2
    have q0:=e1 h.1.1;have q1:=e1 h.1.2.1;have q2:=e1 h.1.2.2.1;have q3:=e1 h.1.2.2.2
    exact ⟨⟨⟨h.1.1.ok,h.1.2.1.ok,h.1.2.2.1.ok,h.1.2.2.2.ok⟩,ha.1,hb.1,hc.1⟩,by simp only [yk5];lia,by simp only [yg5];exact gRZ (gRRZ (gRRZ (lZ (aZ hH q0.2)) (lZ (aZ hH q1.2))) (gRRZ (lZ (aZ hH q2.2)) (lZ (aZ hH q3.2)))) (gRZ (lZ ha.2.2.1) (gRZ (lZ hb.2.2.1) (lZ hc.2.2.1))),by simp only [yd5];exact gRZ (lZ ha.2.2.2) (gRZ (lZ hb.2.2.2) (lZ hc.2.2.2))⟩
  | rep e g b=>
    have hb:=z h.2
    have q0:=e1 h.1
    exact ⟨⟨h.1.ok,hb.1⟩,by simp only [yk6];lia,by simp only [yg6];exact gRZ (lZ (aZ hH q0.2)) (lZ (aZ hH hb.2.2.2.1)),by simp only [yd6];exact lZ (Nat.le_of_eq hb.2.2.2.2)⟩
  | «for» k b=>
    cases d with
    | zero=>exact h.elim
    | succ d=>
      have hb:=z h
      exact ⟨⟨hb.2.1,hb.1⟩,by simp only [yk7];exact rrZ (lZ (aZ hb.2.2.1 hb.2.2.1)),by simp only [yg7];exact gRZ (lZ hH) (lZ (aZ hH hb.2.2.2.1)),by simp only [yd7];exact lZ (Nat.le_of_eq hb.2.2.2.2)⟩
theorem fit2 {st:DS} (h:st.fit 2):st.ok 2∧st.cost ccN≤249∧st.h hcN≤64∧st.dep≤2:=by
  have s1:∀ {st:DS},st.fit 1→st.ok 2∧st.cost ccN≤124∧st.h hcN≤61∧st.dep≤1:=fun {st} h=>by
    have:=fitS (C:=37) (Hh:=58) (d:=0) (fun h=>⟨(fit0 h).1,(fit0 h).2.2.1,(fit0 h).2.2.2.1,by refine ag ((fit0 h).2.2.2.2) ?_;exact l0Z⟩) (by decide) (by decide) (by decide) h
    exact ⟨this.1,by have:=this.2.1;lia,this.2.2.1,this.2.2.2⟩
  have:=fitS (C:=124) (Hh:=61) (d:=1) s1 (by decide) (by decide) (by decide) h
  exact ⟨this.1,by have:=this.2.1;lia,this.2.2.1,this.2.2.2⟩
end
section
open PySem
noncomputable def BagR (σ:St) (bo:Nat):Prop:=∃ (a b:Int) (l:List Int),σ[bo]?=some (.lst (.int a :: .int b :: l.map .int))∧l.length≤20
noncomputable def ShopR (σ:St) (so:Nat):Prop:=∃ a b c:Int,σ[so]?=some (.lst [.int a,.int b,.int c])
theorem BagR.kp {σ σ':St} {bo:Nat} {X:List Nat} (h:BagR σ bo) (k:Kp X σ σ') (hn:bo∉X):BagR σ' bo:=by obtain ⟨a,b,l,e,hl⟩:=h;exact I3A2 a b l (k.2 _ _ hn e) hl
theorem ShopR.kp {σ σ':St} {so:Nat} {X:List Nat} (h:ShopR σ so) (k:Kp X σ σ') (hn:so∉X):ShopR σ' so:=by obtain ⟨a,b,c,e⟩:=h;exact ⟨a,b,c,k.2 _ _ hn e⟩
theorem small8 {k:Nat} (h:k≤8):small (k:Nat)=true:=by simp only [small,decide_eq_true_eq];omega
theorem fmod_lt (a:Int) {k:Nat} (h:0 < k):∃ g:Nat,a.fmod (k:Nat)=(g:Nat)∧g < k:=by
  have h1:=Int.fmod_nonneg_of_pos a (b:=(k:Int)) (by omega)
  have h2:=Int.fmod_lt_of_pos a (b:=(k:Int)) (by omega)
  exact aI ((a.fmod k).toNat) (by omega) (by omega)
section
variable {T:Tab} (hT:bz bE T)
include hT
theorem pull_ok {bo:Nat} {σ:St} (h:BagR σ bo) {k:Nat} (h0:0 < k) (h8:k≤8) {n:Nat} (hn:1≤n):
    ∃ σ' g,ab T n 101 [.obj bo,.int (k:Nat)] σ=some (iN g,σ')∧g < k∧BagR σ' bo∧Kp [bo] σ σ'∧σ'.length=σ.length:=by
  obtain ⟨n,rfl⟩:∃ m,n=m+1:=⟨n - 1,cI (lZ hn)⟩
  refine E3A2 h fun a b l hb hl=>?_
  clear h
  have sm:small (k:Nat)=true∧(((k:Nat):Int) !=0)=true:=⟨small8 h8,by rw [bne_iff_ne];lia⟩
  have tail:∀ {τ:St} {a b:Int} {l:List Int} {z:V},τ[bo]?=some (.lst (.int a :: .int b :: l.map .int))→l.length≤20→Kp [bo] σ τ→τ.length=σ.length→∃ σ' g,WS T (ab T n) (x__law_pull.body.drop 1) [.obj bo,.int (k:Nat),z,.ai] τ (bj fun v σ2=>v=iN g∧σ2=σ')∧g < k∧BagR σ' bo∧Kp [bo] σ σ'∧σ'.length=σ.length:=fun {τ a b l z} ht hl k1 e1=>by
    refine aq (fmod_lt a h0) fun g hg hlt=>?_
    refine I2A5 (τ.set bo (.lst (.int (a.fdiv (k:Nat)) :: .int b :: l.map .int))) g ?_ hlt (I3A2 _ _ l (get_set ht) hl) (k1.trans (.set (by simp) _)) (by simp [e1])
    refine ar (dt (w_blt (af (w_idx (.mk rfl (.mk rfl (i_obj ht rfl rfl (aP (.mk rfl (.mk rfl (b_mod sm ⟨aa rfl,?_⟩)))))))))))
    rw [hg]
    exact dE (dt (w_idx (.mk rfl (.mk rfl (i_obj ht rfl rfl (.mk rfl (b_div sm (.mk rfl (.mk rfl (p_lst ht (by decide) (by simp only [List.length_cons];lia) (by simp only [List.length_cons,List.length_map];lia) (au rfl (.ret ⟨rfl,rfl⟩))))))))))))
  have wrap:∀ {σ':St} {g:Nat},WS T (ab T n) x__law_pull.body [.obj bo,.int (k:Nat),.ai,.ai] σ (bj fun v σ2=>v=iN g∧σ2=σ')→ab T (n+1) 101 [.obj bo,.int (k:Nat)] σ=some (iN g,σ'):=fun h=>
    WC.eq (aj (f:=x__law_pull) (ρ:=[.obj bo,.int (k:Nat),.ai,.ai]) (hT.fn _ _ rfl) rfl rfl h)
  have t0:ae T (ab T n) (.cmp .eq (.idx (.loc 0) (.int 0)) (.int 0)) [.obj bo,.int (k:Nat),.ai,.ai] σ=some (.bool (a ==0),σ):=
    (bT (Q:=fun v τ=>v=.bool (a ==0)∧τ=σ) (w_idx (.mk rfl (.mk rfl (i_obj hb rfl rfl (.mk rfl (.mk rfl ⟨rfl,rfl⟩))))))).ok.eq
  cases ha:(a ==0) with
  | false=>
    rw [ha] at t0
    refine dP (tail (z:=.ai) hb hl (.refl _ _) rfl) fun σ' g w r=>?_
    exact ⟨σ',g,wrap (s_false t0 w),r⟩
  | true=>
    rw [ha] at t0
    have t1:ae T (ab T n) (.cmp .gt (.blt .len [.loc 0]) (.int 2)) [.obj bo,.int (k:Nat),.ai,.ai] σ=some (.bool (decide ((2:Int) < (l.length+2:Nat))),σ):=by
      refine (bT (Q:=fun v τ=>v=.bool (decide ((2:Int) < (l.length+2:Nat)))∧τ=σ) (w_blt (af (.mk rfl (aP (.mk (v:=.int (l.length+2:Nat)) (σ':=σ) ?_ (.mk rfl (.mk rfl ⟨rfl,rfl⟩)))))))).ok.eq
      simp only [bltV,v1,lenB,bk,List.isEmpty,if_true,Option.bind,hb,List.length_cons,List.length_map]
      exact ag (if_pos (by exact lZ hl)) rfl
    cases l with
    | nil=>
      have q:decide ((2:Int) < (([]:List Int).length+2:Nat))=false:=by decide
      rw [q] at t1
      have hb2:(σ.set bo (.lst [.int a,.int ((b*69069+12345).fmod 4294967296)]))[bo]?=some (.lst [.int a,.int ((b*69069+12345).fmod 4294967296)]):=get_set hb
      refine dP (tail (z:=.ai) (a:=((b*69069+12345).fmod 4294967296).fdiv 16) (b:=(b*69069+12345).fmod 4294967296) (l:=[]) (get_set hb2) (by simp) ((Kp.set (by simp) _).trans (.set (by simp) _)) (by simp)) fun σ' g w r=>?_
      refine I2A2 σ' g (wrap (s_true t0 (s_false t1 ?_))) r
      refine dE<|dt<|dt<|dt<|w_idx<|.mk rfl<|.mk rfl<|i_obj hb rfl rfl<|.mk rfl<|b_mulR rfl<|.mk rfl<|b_add<|.mk rfl<|b_mod ⟨rfl,rfl⟩ ?_
      refine .mk rfl<|.mk rfl<|p_lst hb (by decide) (by simp) (aa rfl) ?_
      exact dE<|dt<|w_idx<|.mk rfl<|.mk rfl<|i_obj hb2 rfl rfl<|.mk rfl<|b_div ⟨rfl,rfl⟩<|.mk rfl<|.mk rfl<|p_lst hb2 (by decide) (by simp) (aa rfl) w
    | cons c l=>
      have q:decide ((2:Int) < ((c :: l).length+2:Nat))=true:=by simp only [List.length_cons,decide_eq_true_eq];lia
      rw [q] at t1
      have hb2:(σ.set bo (.lst (.int a :: .int b :: l.map .int)))[bo]?=some (.lst (.int a :: .int b :: l.map .int)):=get_set hb
      simp only [List.length_cons] at hl
      have pop:ae T (ab T n) (.aV (.loc 0) 1 [.int 2]) [.obj bo,.int (k:Nat),.ai,.ai] σ=some (.int c,σ.set bo (.lst (.int a :: .int b :: l.map .int))):=by
        refine (w_meth (Q:=fun v τ=>v=.int c∧τ=σ.set bo (.lst (.int a :: .int b :: l.map .int))) (.mk rfl (m_lst hb (.mk rfl (.mk (v:=.int c) (σ':=σ.set bo (.lst (.int a :: .int b :: l.map .int))) ?_ ⟨rfl,rfl⟩))))).ok.eq
        simp only [callF,lstMeth,hb,List.length_cons,List.length_map]
        refine ag (if_pos (by simp only [Bool.and_eq_true,decide_eq_true_eq];lia) ..) ?_
        rfl
      have fin:∀ (v:Int),ae T (ab T n) (.ite (.cmp .ge (.loc 2) (.int 0)) (.bin .mul (.int 2) (.loc 2)) (.bin .sub (.bin .mul (.neg (.int 2)) (.loc 2)) (.int 1))) [.obj bo,.int (k:Nat),.int c,.ai] (σ.set bo (.lst (.int a :: .int b :: l.map .int)))=some (.int v,σ.set bo (.lst (.int a :: .int b :: l.map .int)))→∃ σ' g,ab T (n+1) 101 [.obj bo,.int (k:Nat)] σ=some (iN g,σ')∧g < k∧BagR σ' bo∧Kp [bo] σ σ'∧σ'.length=σ.length:=fun v hv=>by
        refine dP (tail (z:=.int c) (a:=v) (b:=b) (l:=l) (get_set hb2) (lZ hl) ((Kp.set (by simp) _).trans (.set (by simp) _)) (by simp)) fun σ' g w r=>?_
        refine I2A2 σ' g (wrap (s_true t0 (s_true t1 ?_))) r
        exact ar<|.mk pop ⟨aa rfl,dE<|.mk hv<|.mk rfl<|.mk rfl<|p_lst hb2 (by decide) (by simp only [List.length_cons];lia) (by simp only [List.length_cons,List.length_map];exact lZ hl) w⟩
      cases hc:decide ((0:Int)≤c) with
      | true=>exact fin _ (w_ite (Q:=fun v τ=>v=.int (2*c)∧τ=σ.set bo (.lst (.int a :: .int b :: l.map .int))) (.mk (v:=.bool true) (by refine cw (hc ..) ?_;rfl) (.mk rfl (and_t rfl (dt (.mk rfl (.mk rfl (b_mulL rfl ⟨rfl,rfl⟩)))))))).ok.eq
      | false=>exact fin _ (w_ite (Q:=fun v τ=>v=.int (-2*c - 1)∧τ=σ.set bo (.lst (.int a :: .int b :: l.map .int))) (.mk (v:=.bool false) (by refine cw (hc ..) ?_;rfl) (.mk rfl (ct rfl (dt (dt (w_neg (.mk rfl (aI _ rfl (.mk rfl (b_mulL rfl (.mk rfl (b_sub ⟨rfl,rfl⟩))))))))))))).ok.eq
end
end
section
open PySem
structure Dr (bo so:Nat) (σ0 σ:St):Prop where
  b:BagR σ bo
  s:ShopR σ so
  k:Kp [bo,so] σ0 σ
theorem Dr.shop {bo so:Nat} {σ0 σ:St} (h:Dr bo so σ0 σ) (bc:bo≠so) {l:List V} (hs:σ[so]?=some (.lst l)) (a b c:Int):Dr bo so σ0 (σ.set so (.lst [.int a,.int b,.int c])):=
  have k1:Kp [so] σ (σ.set so (.lst [.int a,.int b,.int c])):=.set (.head _) _
  ⟨h.b.kp k1 (by simpa using bc),⟨a,b,c,get_set hs⟩,h.k.trans (k1.mono (by simp))⟩
theorem leaf {c d:Nat} {e:DE} (h:e.ok c) (h0:e.dp=0):e.fit c d:=⟨h,lZ (Nat.le_of_eq h0)⟩
section
variable {T:Tab} (hT:bz bE T) {bo so:Nat} (bc:bo≠so) {σ0 σ:St}
include hT bc
theorem cD {n:Nat} {Q:V→St→Prop} (k:Nat) (d:Dr bo so σ0 σ) (h0:0 < k) (h8:k≤8) (hn:1≤n) (q:∀ (g:Fin k) σ',Dr bo so σ0 σ'→Q (iN g) σ'):WC (ab T n) 101 [.obj bo,.int (k:Nat)] σ Q:=by
  refine E2A5 (pull_ok hT d.b h0 h8 hn) fun σ' g e hg b' kp zz=>?_
  exact .mk e (q ⟨g,hg⟩ σ' ⟨b',d.s.kp kp (by simpa using bc.symm),d.k.trans (kp.mono (by simp))⟩)
theorem con_w {n:Nat} {Q:V→St→Prop} (d:Dr bo so σ0 σ) (hn:2≤n) (q:∀ a b σ',Dr bo so σ0 σ'→Q (DE.con a b).v σ'):WC (ab T n) 102 [.obj bo] σ Q:=by
  obtain ⟨n,rfl⟩:∃ m,n=m+1:=⟨n - 1,cI (lZ hn)⟩
  refine aj (f:=x__law_constant) (ρ:=[.obj bo,.ai]) (hT.fn _ _ rfl) rfl rfl ?_
  have tail:∀ {τ:St} (b:Fin 8),Dr bo so σ0 τ→WS T (ab T n) (x__law_constant.body.drop 1) [.obj bo,iN b] τ (bj Q):=fun {τ} b dr=>by
    refine bI<|aX<|af<|.mk rfl<|af<|.mk rfl<|af<|aD<|.mk rfl<|cD hT bc 8 dr (by decide) (by decide) (lZ hn) fun a τ2 dr2=>?_
    exact af<|.mk rfl<|aP ⟨aa rfl,.ret (q a b _ dr2)⟩
  refine ar<|w_ite<|bT<|aD<|.mk rfl<|cD hT bc 5 d (by decide) (by decide) (lZ hn) fun g τ dr=>.mk rfl<|c_eqi<|truth_bool ⟨fun zz=>?_,fun zz=>?_⟩
  · exact aD<|.mk rfl<|cD hT bc 8 dr (by decide) (by decide) (lZ hn) fun b τ2 dr2=>⟨aa rfl,tail b dr2⟩
  · exact .mk rfl ⟨aa rfl,tail 0 dr⟩
noncomputable def ExW (T:Tab) (n:Nat) (bo so c:Nat) (σ0:St) (D:Int) (d:Nat):Prop:=∀ {σ:St} {Q:V→St→Prop},Dr bo so σ0 σ→(∀ e σ',DE.fit c d e→Dr bo so σ0 σ'→Q e.v σ')→WC (ab T n) 103 [.obj bo,.int D,.int (c:Nat),.obj so] σ Q
theorem expr_w {n c d:Nat} {D:Int} (c0:0 < c) (c2:c≤2) (hn:2≤n) (step:(D ==0)=true∨((D ==0)=false∧∃ d',d=d'+1∧ExW T n bo so c σ0 (D - 1) d')):ExW T (n+1) bo so c σ0 D d:=fun {σ Q} dr q=>by
  refine aj (f:=bD) (ρ:=[.obj bo,.int D,.int (c:Nat),.obj so,.ai,.ai,.ai,.ai]) (hT.fn _ _ rfl) rfl rfl ?_
  refine E3A1 dr.s fun a b s2 hs=>?_
  have t0:ae T (ab T n) (.cmp .eq (.idx (.loc 3) (.int 1)) (.int 0)) [.obj bo,.int D,.int (c:Nat),.obj so,.ai,.ai,.ai,.ai] σ=some (.bool (b ==0),σ):=
    (bT (Q:=fun v τ=>v=.bool (b ==0)∧τ=σ) (w_idx (.mk rfl (.mk rfl (i_obj hs rfl rfl (.mk rfl (.mk rfl ⟨rfl,rfl⟩))))))).ok.eq
  cases hb:(b ==0) with
  | true=>rw [hb] at t0;exact s_true t0 (au rfl (.ret (q (.loc 0) σ (leaf trivial rfl) dr)))
  | false=>
    rw [hb] at t0
    refine s_false t0<|s_augI<|.mk rfl<|.mk rfl<|i_obj hs rfl rfl<|.mk rfl<|a_sub<|p_lst hs (by decide) (show (1:Int) < 3 by decide) (aa rfl)<|?_
    have dr1:=dr.shop bc hs a (b - 1) s2
    refine ar<|aD<|.mk rfl<|cD hT bc 8 dr1 (by decide) (by decide) (lZ hn) fun g σ2 dr2=>⟨aa rfl,?_⟩
    have p0:∀ {τ:St} {z l},Dr bo so σ0 τ→WS T (ab T n) (.ret (.call 102 [.loc 0]) :: l) [.obj bo,.int D,.int (c:Nat),.obj so,z,.ai,.ai,.ai] τ (bj Q):=fun {τ z l} dr=>bI<|aD<|.mk rfl<|con_w hT bc dr (lZ hn) fun a b τ2 dr2=>.ret (q (.con a b) _ (leaf trivial rfl) dr2)
    have p1:∀ {τ:St} {z l},Dr bo so σ0 τ→WS T (ab T n) (.ret (.tup [.str 25,.int 3,.call 101 [.loc 0,.int 4]]) :: l) [.obj bo,.int D,.int (c:Nat),.obj so,z,.ai,.ai,.ai] τ (bj Q):=fun {τ z l} dr=>bI<|aX<|af<|.mk rfl<|af<|.mk rfl<|af<|aD<|.mk rfl<|cD hT bc 4 dr (by decide) (by decide) (lZ hn) fun g τ2 dr2=>aP ⟨aa rfl,.ret (q (.sig g) _ (leaf trivial rfl) dr2)⟩
    have p2:∀ {τ:St} {z l},Dr bo so σ0 τ→WS T (ab T n) (.ret (.tup [.str 26,.int 3,.call 101 [.loc 0,.int 2]]) :: l) [.obj bo,.int D,.int (c:Nat),.obj so,z,.ai,.ai,.ai] τ (bj Q):=fun {τ z l} dr=>bI<|aX<|af<|.mk rfl<|af<|.mk rfl<|af<|aD<|.mk rfl<|cD hT bc 2 dr (by decide) (by decide) (lZ hn) fun g τ2 dr2=>aP ⟨aa rfl,.ret (q (.loc g) _ (leaf trivial rfl) dr2)⟩
    have tD:ae T (ab T n) (.cmp .eq (.loc 1) (.int 0)) [.obj bo,.int D,.int (c:Nat),.obj so,iN g,.ai,.ai,.ai] σ2=some (.bool (D ==0),σ2):=rfl
    clear dr1 t0;rcases step with hD | ⟨hD,d',rfl,ih⟩
    · rw [hD] at tD
      refine s_true tD ?_
      have cut:∀ m:Fin 3,WS T (ab T n) (bD.body.drop 4) [.obj bo,.int D,.int (c:Nat),.obj so,iN m,.ai,.ai,.ai] σ2 (bj Q):=fun m=>by
        refine f3 m ?_ ?_ ?_
        · exact s_true rfl (p0 dr2)
        · exact ao 1 rfl (s_true rfl (p1 dr2))
        · exact ao 2 rfl (s_true rfl (p2 dr2))
      exact F8 g (ao 1 rfl (cut 0)) (ao 1 rfl (cut 1)) (ao 1 rfl (cut 2)) (ao 1 rfl (cut 0)) (ao 1 rfl (cut 1)) (ao 1 rfl (cut 2)) (ao 1 rfl (cut 0)) (ao 1 rfl (cut 1))
    · rw [hD] at tD
      refine s_false tD ?_
      have one:∀ {τ:St} {z x y:V} {Q:V→St→Prop},Dr bo so σ0 τ→(∀ e τ',DE.fit c d' e→Dr bo so σ0 τ'→Q e.v τ')→WE T (ab T n) (.call 103 [.loc 0,.bin .sub (.loc 1) (.int 1),.loc 2,.loc 3]) [.obj bo,.int D,.int (c:Nat),.obj so,z,.ai,x,y] τ Q:=fun {τ z x y Q} dr q=>aD<|.mk rfl<|ih dr q
      have call:∀ {τ:St} {m:Nat},Dr bo so σ0 τ→m < 5→WS T (ab T n) ([.aug (.idx (.loc 3) (.int 0)) .sub (.int 1),.asg (.loc 5) (.call 101 [.loc 0,.loc 2]),.ret (.tup [.str 36,.int 3,.loc 5,.tup [.call 103 [.loc 0,.bin .sub (.loc 1) (.int 1),.loc 2,.loc 3]]])]++bD.body.drop 8) [.obj bo,.int D,.int (c:Nat),.obj so,iN m,.ai,.ai,.ai] τ (bj Q):=fun {τ m} dr _=>by
        refine E3A1 dr.s fun a b s2 hs=>?_
        refine s_augI<|.mk rfl<|.mk rfl<|i_obj hs rfl rfl<|.mk rfl<|a_sub<|p_lst hs (by decide) (show (0:Int) < 3 by decide) (aa rfl)<|?_
        refine ar<|aD<|.mk rfl<|cD hT bc c (dr.shop bc hs (a - 1) b s2) c0 (lZ c2) (lZ hn) fun g σ3 dr3=>⟨aa rfl,?_⟩
        refine bI<|aX<|af<|.mk rfl<|af<|.mk rfl<|af<|.mk rfl<|af<|aX<|af<|aD<|.mk rfl<|ih dr3 fun e σ4 he dr4=>aP ⟨aa rfl,aP ⟨aa rfl,.ret ?_⟩⟩
        exact q (.call ⟨g.val,by lia⟩ e) _ ⟨⟨g.2,he.ok⟩,by have:=he.dp;simp only [yp3];exact lZ this⟩ dr4
      have low:∀ m:Nat,m=3∨m=4→WS T (ab T n) (bD.body.drop 6) [.obj bo,.int D,.int (c:Nat),.obj so,iN m,.ai,.ai,.ai] σ2 (bj Q):=fun m hm=>by
        refine E3A1 dr2.s fun x0 x1 x2 hx=>?_
        have tt:ae T (ab T n) (.or [.cmp .eq (.loc 4) (.int 2),.and [.cmp .lt (.loc 4) (.int 5),.cmp .eq (.idx (.loc 3) (.int 0)) (.int 0)]]) [.obj bo,.int D,.int (c:Nat),.obj so,iN m,.ai,.ai,.ai] σ2=some (.bool (x0 ==0),σ2):=by
          clear c2 c0 hn bc hT call one tD p2 p1 p0 dr2 g hs s2 a q dr σ;rcases hm with rfl | rfl <;> exact WE.ok (w_or (Q:=fun v τ=>v=.bool (x0 ==0)∧τ=σ2)<|w_or2<|.mk rfl<|.mk rfl<|ct rfl<|w_or1<|w_and<|w_and2<|.mk rfl<|.mk rfl<|and_t rfl<|w_and1<|bT<|w_idx<|.mk rfl<|.mk rfl<|i_obj hx rfl rfl<|.mk rfl<|.mk rfl ⟨rfl,rfl⟩) |>.eq
        refine s_bool tt (fun _=>p2 dr2) (fun _=>?_)
        clear c2 c0 hn bc hT tt one tD p2 p1 p0 hx x2 x1 g hs s2 a q dr σ;rcases hm with rfl | rfl
        · exact s_true rfl (call dr2 (by decide))
        · exact s_true rfl (call dr2 (by decide))
      have high:∀ m:Fin 3,WS T (ab T n) (bD.body.drop 8) [.obj bo,.int D,.int (c:Nat),.obj so,iN (5+m.val),.ai,.ai,.ai] σ2 (bj Q):=fun m=>by
        refine ar<|one dr2 fun e1 σ3 f1 dr3=>⟨aa rfl,ar<|one dr3 fun e2 σ4 f2 dr4=>⟨aa rfl,?_⟩⟩
        have d1:=f1.dp
        have d2:=f2.dp
        refine f3 m ?_ ?_ ?_
        · refine s_true rfl<|bI<|aX<|af<|.mk rfl<|af<|.mk rfl<|af<|w_idx<|.mk rfl<|aD<|.mk rfl<|cD hT bc 2 dr4 (by decide) (by decide) (lZ hn) fun g σ5 dr5=>?_
          refine Mine.f2 g ?_ ?_
          · exact i_tup rfl rfl<|af<|.mk (aC rfl e1.cb)<|af<|.mk (aC rfl e2.cb)<|af<|.mk rfl<|aP ⟨aa rfl,.ret (q (.bin false e1 e2) _ ⟨⟨f1.ok,f2.ok⟩,by simp only [yp4];exact gRZ (lZ d1) (lZ d2)⟩ dr5)⟩
          · exact i_tup rfl rfl<|af<|.mk (aC rfl e1.cb)<|af<|.mk (aC rfl e2.cb)<|af<|.mk rfl<|aP ⟨aa rfl,.ret (q (.bin true e1 e2) _ ⟨⟨f1.ok,f2.ok⟩,by simp only [yp4];exact gRZ (lZ d1) (lZ d2)⟩ dr5)⟩
        · refine ao 1 rfl<|s_true rfl<|bI<|aX<|af<|.mk rfl<|af<|.mk rfl<|af<|one dr4 fun e3 σ5 f3 dr5=>?_
          have d3:=f3.dp
          exact af<|.mk (aC rfl e1.cb)<|af<|.mk (aC rfl e2.cb)<|aP ⟨aa rfl,.ret (q (.cnd e3 e1 e2) _ ⟨⟨f3.ok,f1.ok,f2.ok⟩,by simp only [yp5];exact gRZ (lZ d3) (gRZ (lZ d1) (lZ d2))⟩ dr5)⟩
        · exact ao 2 rfl<|bI<|aX<|af<|.mk rfl<|af<|.mk rfl<|af<|aX<|af<|.mk rfl<|af<|.mk rfl<|af<|.mk rfl<|af<|.mk (aC rfl e1.cb)<|af<|.mk (aC rfl e2.cb)<|af<|.mk rfl<|aP ⟨aa rfl,af<|.mk rfl<|aP ⟨aa rfl,.ret (q (.ext e1 e2) _ ⟨⟨f1.ok,f2.ok⟩,by simp only [yp6];exact gRZ (lZ d1) (lZ d2)⟩ dr4)⟩⟩
      exact F8 g (s_true rfl (p0 dr2)) (ao 1 rfl (s_true rfl (p1 dr2))) (ao 2 rfl (s_true rfl (p2 dr2))) (ao 2 rfl (low 3 (.inl rfl))) (ao 2 rfl (low 4 (.inr rfl))) (ao 4 rfl (high 0)) (ao 4 rfl (high 1)) (ao 4 rfl (high 2))
theorem expr0_w {n c:Nat} (c0:0 < c) (c2:c≤2) (hn:3≤n):ExW T n bo so c σ0 0 0:=by
  obtain ⟨n,rfl⟩:∃ m,n=m+1:=⟨n - 1,cI (lZ hn)⟩
  exact expr_w hT bc c0 c2 (lZ hn) (.inl rfl)
theorem expr1_w {n c:Nat} (c0:0 < c) (c2:c≤2) (hn:4≤n):ExW T n bo so c σ0 1 1:=by
  obtain ⟨n,rfl⟩:∃ m,n=m+1:=⟨n - 1,cI (lZ hn)⟩
  exact expr_w hT bc c0 c2 (lZ hn) (.inr ⟨rfl,0,rfl,expr0_w hT bc c0 c2 (lZ hn)⟩)
theorem expr2_w {n c:Nat} (c0:0 < c) (c2:c≤2) (hn:5≤n):ExW T n bo so c σ0 2 2:=by
  obtain ⟨n,rfl⟩:∃ m,n=m+1:=⟨n - 1,cI (lZ hn)⟩
  exact expr_w hT bc c0 c2 (lZ hn) (.inr ⟨rfl,1,rfl,expr1_w hT bc c0 c2 (lZ hn)⟩)
end
end
section
open PySem
theorem ShopR.lt {σ:St} {so:Nat} (h:ShopR σ so):so < σ.length:=by
  refine E3A1 h fun a b c e=>?_
  clear h
  exact (List.getElem?_eq_some_iff.mp e).1
theorem BagR.lt {σ:St} {bo:Nat} (h:BagR σ bo):bo < σ.length:=by
  refine E3A2 h fun a b l e zz=>?_
  clear h
  exact (List.getElem?_eq_some_iff.mp e).1
theorem Dr.push {bo so:Nat} {σ0 τ:St} (d:Dr bo so σ0 τ) (a b c:Int):Dr bo τ.length (τ++[.lst [.int a,.int b,.int c]]) (τ++[.lst [.int a,.int b,.int c]]):=by
  refine ⟨?_,⟨a,b,c,bR⟩,.refl _ _⟩
  refine E3A2 d.b fun x y l e hl=>?_
  exact I3A2 x y l (aB e) hl
theorem Dr.pop {bo so:Nat} {σ0 τ τ2:St} {o:AO} (bc:bo≠so) (d:Dr bo so σ0 τ) (d2:Dr bo τ.length (τ++[o]) τ2):Dr bo so σ0 τ2:=by
  have keep:∀ n p,n≠bo→τ[n]?=some p→τ2[n]?=some p:=fun n p hn hp=>by
    have:=(List.getElem?_eq_some_iff.mp hp).1
    exact d2.k.2 n p (by simp only [List.mem_cons,List.not_mem_nil,or_false,not_or];lia) (aB hp)
  refine ⟨d2.b,?_,d.k.trans ⟨?_,fun n p hn hp=>keep n p (fun e=>hn (by simp [e])) hp⟩⟩
  · refine E3A1 d.s fun a b c e=>?_
    exact ⟨a,b,c,keep _ _ bc.symm e⟩
  · have:=d2.k.1
    simp only [List.length_append,List.length_singleton] at this;exact lZ this
theorem fit_none:∀ d,DS.none.fit d:=by intro d;cases d <;> trivial
theorem fit_up {st:DS} (h:st.fit 0):∀ d,st.fit d:=by
  intro d
  cases d with
  | zero=>exact h
  | succ d=>
    cases st with
    | none=>exact fit_none _
    | set t e=>cases d <;> exact h
    | blk2 a b=>exact h.elim
    | blk3 a b c=>exact h.elim
    | iff t a b=>cases t <;> exact h.elim
    | case k e l1 l2 l3 a b c=>exact h.elim
    | rep e g b=>exact h.elim
    | «for» k b=>exact h.elim
noncomputable def StW (T:Tab) (n:Nat) (bo so:Nat) (σ0:St) (D:Int) (d:Nat):Prop:=∀ {σ:St} {Q:V→St→Prop},Dr bo so σ0 σ→(∀ st σ',DS.fit d st→Dr bo so σ0 σ'→Q st.v σ')→WC (ab T n) 106 [.obj bo,.int D,.obj so] σ Q
section
variable {T:Tab} (hT:bz bE T)
include hT
theorem to_ok {n:Nat} {σ:St} {a:Nat} {i:Int} (h:1≤n):ab T n 104 [.str a,.int i] σ=some (.tup [.str 55,.int 3,.tup [part (.str a) (.int i) wAt]],σ):=by
  obtain ⟨n,rfl⟩:∃ m,n=m+1:=⟨n - 1,cI (lZ h)⟩
  exact WC.eq (aj (f:=x__law_to) (ρ:=[.str a,.int i]) (hT.fn _ _ rfl) rfl rfl (au rfl (.ret ⟨rfl,rfl⟩)))
variable {bo so:Nat} (bc:bo≠so) {σ0:St}
include bc
theorem store_w {n d:Nat} {σ:St} {Q:V→St→Prop} (hn:6≤n) (dr:Dr bo so σ0 σ) (q:∀ st σ',DS.fit 0 st→Dr bo so σ0 σ'→Q st.v σ'):WC (ab T n) 105 [.obj bo,.obj so] σ Q:=by
  obtain ⟨n,rfl⟩:∃ m,n=m+1:=⟨n - 1,cI (lZ hn)⟩
  refine aj (f:=x__law_store) (ρ:=[.obj bo,.obj so,.ai,.ai,.ai,.ai]) (hT.fn _ _ rfl) rfl rfl ?_
  refine ar<|aD<|.mk rfl<|expr2_w hT bc (c:=2) (by decide) (by decide) (lZ hn) dr fun e σ1 he dr1=>⟨aa rfl,?_⟩
  refine ar<|aD<|.mk rfl<|cD hT bc 3 dr1 (by decide) (by decide) (lZ hn) fun g σ2 dr2=>⟨aa rfl,?_⟩
  refine f3 g ?_ ?_ ?_
  · exact s_true rfl<|bI<|aX<|af<|.mk rfl<|af<|aD<|.mk rfl<|.mk (to_ok hT (lZ hn))<|af<|.mk (aC rfl e.cb)<|af<|.mk rfl<|aP ⟨aa rfl,.ret (q (.set (.loc 0) e) _ ⟨he,rfl⟩ dr2)⟩
  · exact ao 1 rfl<|s_true rfl<|bI<|aX<|af<|.mk rfl<|af<|aD<|af<|.mk rfl<|af<|aD<|.mk rfl<|cD hT bc 4 dr2 (by decide) (by decide) (lZ hn) fun g σ3 dr3=>aP<|.mk (to_ok hT (lZ hn))<|af<|.mk (aC rfl e.cb)<|af<|.mk rfl<|aP ⟨aa rfl,.ret (q (.set (.sig g) e) _ ⟨he,trivial⟩ dr3)⟩
  · refine ao 2 rfl<|ar<|aD<|.mk rfl<|expr1_w hT bc (c:=2) (by decide) (by decide) (lZ hn) dr2 fun i σ3 hi dr3=>⟨aa rfl,?_⟩
    refine ar<|aX<|af<|.mk rfl<|af<|.mk (aC rfl i.cb)<|af<|bT<|aD<|.mk rfl<|cD hT bc 2 dr3 (by decide) (by decide) (lZ hn) fun g4 σ4 dr4=>.mk rfl<|c_eqi ?_
    refine af<|aD<|.mk rfl<|cD hT bc 3 dr4 (by decide) (by decide) (lZ hn) fun g5 σ5 dr5=>?_
    refine af<|dt<|.mk rfl<|dt<|.mk rfl<|aD<|.mk rfl<|cD hT bc 2 dr5 (by decide) (by decide) (lZ hn) fun g6 σ6 dr6=>b_mulL rfl<|b_sub<|aP ⟨aa rfl,aa rfl,?_⟩
    refine bI<|aX<|af<|.mk rfl<|af<|aX<|af<|.mk rfl<|af<|.mk rfl<|af<|aX<|af<|aX<|af<|.mk rfl<|af<|.mk rfl<|af<|aD<|.mk rfl<|cD hT bc 4 dr6 (by decide) (by decide) (lZ hn) fun g7 σ7 dr7=>?_
    exact af<|.mk rfl<|af<|.mk rfl<|aP ⟨aa rfl,aP ⟨aa rfl,aP ⟨aa rfl,af<|.mk (aC rfl e.cb)<|af<|.mk rfl<|aP ⟨aa rfl,.ret (q (.set (.pick g7 i ((g4.val:Int) ==0) g5 g6) e) _ ⟨he,hi⟩ dr7)⟩⟩⟩⟩
theorem stat_w {n d:Nat} {D:Int} (hn:6≤n) (step:(D ==0)=true∨((D ==0)=false∧∃ d',d=d'+1∧StW T n bo so σ0 (D - 1) d'∧((D ==1)=true∨((D ==1)=false∧∃ d2,d'=d2+1∧StW T n bo so σ0 0 0)))):StW T (n+1) bo so σ0 D d:=fun {σ Q} dr q=>by
  refine aj (f:=cU) (ρ:=[.obj bo,.int D,.obj so,.ai,.ai,.ai,.ai,.ai,.ai,.ai,.ai,.ai,.ai]) (hT.fn _ _ rfl) rfl rfl ?_
  refine E3A1 dr.s fun a b c hs=>?_
  have t0:ae T (ab T n) (.cmp .eq (.idx (.loc 2) (.int 2)) (.int 0)) [.obj bo,.int D,.obj so,.ai,.ai,.ai,.ai,.ai,.ai,.ai,.ai,.ai,.ai] σ=some (.bool (c ==0),σ):=
    (bT (Q:=fun v τ=>v=.bool (c ==0)∧τ=σ) (w_idx (.mk rfl (.mk rfl (i_obj hs rfl rfl (.mk rfl (.mk rfl ⟨rfl,rfl⟩))))))).ok.eq
  cases hb:(c ==0) with
  | true=>rw [hb] at t0;exact s_true t0 (au rfl (.ret (q .none σ (fit_none _) dr)))
  | false=>
    rw [hb] at t0
    refine s_false t0<|s_augI<|.mk rfl<|.mk rfl<|i_obj hs rfl rfl<|.mk rfl<|a_sub<|p_lst hs (by decide) (show (2:Int) < 3 by decide) (aa rfl)<|?_
    refine ar<|aD<|.mk rfl<|cD hT bc 8 (dr.shop bc hs a b (c - 1)) (by decide) (by decide) (lZ hn) fun g σ2 dr2=>⟨aa rfl,?_⟩
    have tD:ae T (ab T n) (.cmp .eq (.loc 1) (.int 0)) [.obj bo,.int D,.obj so,iN g,.ai,.ai,.ai,.ai,.ai,.ai,.ai,.ai,.ai] σ2=some (.bool (D ==0),σ2):=rfl
    have leaf:∀ {m:Fin 8} {l},(∃ k:Bool,ae T (ab T n) (.cmp .eq (.loc 3) (.int 7)) [.obj bo,.int D,.obj so,iN m,.ai,.ai,.ai,.ai,.ai,.ai,.ai,.ai,.ai] σ2=some (.bool k,σ2))→WS T (ab T n) (.ret (.ite (.cmp .eq (.loc 3) (.int 7)) (.none) (.call 105 [.loc 0,.loc 2])) :: l) [.obj bo,.int D,.obj so,iN m,.ai,.ai,.ai,.ai,.ai,.ai,.ai,.ai,.ai] σ2 (bj Q):=fun {m l} ⟨k,hk⟩=>
      bI<|w_ite<|.mk hk<|truth_bool ⟨fun _=>.mk rfl (.ret (q .none _ (fit_none _) dr2)),fun _=>aD<|.mk rfl<|store_w hT bc (d:=d) (lZ hn) dr2 fun st τ hf dr3=>.ret (q st τ (fit_up hf d) dr3)⟩
    clear t0 hs a;rcases step with hD | ⟨hD,d',rfl,ih,more⟩
    · rw [hD] at tD
      refine s_true (WE.ok (w_or (Q:=fun v τ=>v=.bool true∧τ=σ2)<|w_or2<|.mk tD<|.mk rfl<|and_t rfl ⟨rfl,rfl⟩) |>.eq) (leaf ⟨_,rfl⟩)
    · rw [hD] at tD
      have tO:ae T (ab T n) (.or [.cmp .eq (.loc 1) (.int 0),.cmp .lt (.loc 3) (.int 2)]) [.obj bo,.int D,.obj so,iN g,.ai,.ai,.ai,.ai,.ai,.ai,.ai,.ai,.ai] σ2=some (.bool (decide ((g.val:Int) < 2)),σ2):=
        WE.ok (w_or (Q:=fun v τ=>v=.bool (decide ((g.val:Int) < 2))∧τ=σ2)<|w_or2<|.mk tD<|.mk rfl<|ct rfl<|w_or1<|.mk rfl ⟨rfl,rfl⟩) |>.eq
      have one:∀ {τ:St} {y3 y4 y5 y6 y7 y8 y9 y10 y11 y12:V} {Q:V→St→Prop},Dr bo so σ0 τ→(∀ st τ',DS.fit d' st→Dr bo so σ0 τ'→Q st.v τ')→WE T (ab T n) (.call 106 [.loc 0,.bin .sub (.loc 1) (.int 1),.loc 2]) [.obj bo,.int D,.obj so,y3,y4,y5,y6,y7,y8,y9,y10,y11,y12] τ Q:=fun {_ _ _ _ _ _ _ _ _ _ _ _} dr q=>aD<|.mk rfl<|ih dr q
      have x1:∀ {τ:St} {y1 y3 y4 y5 y6 y7 y8 y9 y10 y11 y12:V} {Q:V→St→Prop},Dr bo so σ0 τ→(∀ e τ',DE.fit 2 1 e→Dr bo so σ0 τ'→Q e.v τ')→WE T (ab T n) (.call 103 [.loc 0,.int 1,.int 2,.loc 2]) [.obj bo,y1,.obj so,y3,y4,y5,y6,y7,y8,y9,y10,y11,y12] τ Q:=fun {_ _ _ _ _ _ _ _ _ _ _ _ _} dr q=>aD<|.mk rfl<|expr1_w hT bc (c:=2) (by decide) (by decide) (lZ hn) dr q
      have pl:∀ {τ:St} {y1 y3 y4 y5 y6 y7 y8 y9 y10 y11 y12:V} {Q:V→St→Prop},Dr bo so σ0 τ→(∀ (g:Fin 2) τ',Dr bo so σ0 τ'→Q (iN g) τ')→WE T (ab T n) (.call 101 [.loc 0,.int 2]) [.obj bo,y1,.obj so,y3,y4,y5,y6,y7,y8,y9,y10,y11,y12] τ Q:=fun {_ _ _ _ _ _ _ _ _ _ _ _ _} dr q=>aD<|.mk rfl<|cD hT bc 2 dr (by decide) (by decide) (lZ hn) q
      have iff:∀ m:Fin 8,WS T (ab T n) ([.asg (.loc 5) (.call 103 [.loc 0,.int 2,.int 2,.loc 2]),.asg (.loc 4) (.call 106 [.loc 0,.bin .sub (.loc 1) (.int 1),.loc 2]),.ret (.tup [.str 39,.loc 5,.loc 4,.call 106 [.loc 0,.bin .sub (.loc 1) (.int 1),.loc 2]])]++cU.body.drop 6) [.obj bo,.int D,.obj so,iN m,.ai,.ai,.ai,.ai,.ai,.ai,.ai,.ai,.ai] σ2 (bj Q):=fun m=>by
        refine ar<|aD<|.mk rfl<|expr2_w hT bc (c:=2) (by decide) (by decide) (lZ hn) dr2 fun e σ3 he dr3=>⟨aa rfl,?_⟩
        refine ar<|one dr3 fun s1 σ4 f1 dr4=>⟨aa rfl,?_⟩
        refine bI<|aX<|af<|.mk rfl<|af<|.mk (aC rfl e.cb)<|af<|.mk (aC rfl s1.cb)<|af<|one dr4 fun s2 σ5 f2 dr5=>aP ⟨aa rfl,.ret (q (.iff (.ex e) s1 s2) _ ⟨he,f1,f2⟩ dr5)⟩
      have rep:∀ m:Fin 8,WS T (ab T n) ([.asg (.loc 5) (.tup [.str 30,.int 2,.call 103 [.loc 0,.int 1,.int 2,.loc 2],.int 0]),.ret (.tup [.str 45,.loc 5,.cmp .eq (.call 101 [.loc 0,.int 2]) (.int 0),.call 105 [.loc 0,.lst true [.int 0,.int 3,.int 0]]])]++cU.body.drop 8) [.obj bo,.int D,.obj so,iN m,.ai,.ai,.ai,.ai,.ai,.ai,.ai,.ai,.ai] σ2 (bj Q):=fun m=>by
        refine ar<|aX<|af<|.mk rfl<|af<|.mk rfl<|af<|x1 dr2 fun e σ3 he dr3=>af<|.mk rfl<|aP ⟨aa rfl,aa rfl,?_⟩
        refine bI<|aX<|af<|.mk rfl<|af<|.mk rfl<|af<|bT<|pl dr3 fun g4 σ4 dr4=>.mk rfl<|c_eqi ?_
        refine af<|aD<|.mk rfl ?_
        refine store_w hT (so:=σ4.length) (by have:=dr4.b.lt;exact Nat.ne_of_lt (lZ this)) (d:=d') (lZ hn) (dr4.push 0 3 0) fun st σ5 hf dr5=>?_
        exact aP ⟨aa rfl,.ret (q (.rep e ((g4.val:Int) ==0) st) _ ⟨he,hf⟩ (dr4.pop bc dr5))⟩
      revert tO
      refine F8 g ?_ ?_ ?_ ?_ ?_ ?_ ?_ ?_ <;> intro tO
      · exact s_true tO (leaf ⟨_,rfl⟩)
      · exact s_true tO (leaf ⟨_,rfl⟩)
      · refine s_false tO<|s_true rfl<|ar<|one dr2 fun s1 σ3 f1 dr3=>⟨aa rfl,?_⟩
        exact bI<|aX<|af<|.mk rfl<|af<|aX<|af<|.mk (aC rfl s1.cb)<|af<|one dr3 fun s2 σ4 f2 dr4=>aP ⟨aa rfl,af<|.mk rfl<|aP ⟨aa rfl,.ret (q (.blk2 s1 s2) _ ⟨f1,f2⟩ dr4)⟩⟩
      · exact s_false tO<|ao 1 rfl<|s_true rfl<|iff 3
      · exact s_false tO<|ao 1 rfl<|s_true rfl<|iff 4
      · refine s_false tO<|ao 2 rfl<|s_true rfl<|ar<|x1 dr2 fun e σ3 he dr3=>⟨aa rfl,?_⟩
        refine ar<|aX<|af<|x1 dr3 fun l1 σ4 h1 dr4=>af<|x1 dr4 fun l2 σ5 h2 dr5=>aP ⟨aa rfl,aa rfl,?_⟩
        refine ar<|aX<|af<|.mk rfl<|af<|one dr5 fun s1 σ6 f1 dr6=>aP ⟨aa rfl,aa rfl,?_⟩
        refine ar<|aX<|af<|aX<|af<|x1 dr6 fun l3 σ7 h3 dr7=>aP ⟨aa rfl,af<|one dr7 fun s3 σ8 f3 dr8=>aP ⟨aa rfl,aa rfl,?_⟩⟩
        refine ar<|aX<|af<|.mk rfl<|af<|aX<|af<|.mk rfl<|af<|one dr8 fun s2 σ9 f2 dr9=>aP ⟨aa rfl,af<|.mk rfl<|aP ⟨aa rfl,aa rfl,?_⟩⟩
        refine bI<|aX<|af<|.mk rfl<|af<|w_idx<|.mk rfl<|aD<|.mk rfl<|cD hT bc 3 dr9 (by decide) (by decide) (lZ hn) fun k σ10 dr10=>?_
        refine i_tup (v:=cj k) (Mine.f3 k rfl rfl rfl) (Mine.f3 k rfl rfl rfl) ?_
        exact af<|.mk (aC rfl e.cb)<|af<|.mk rfl<|aP ⟨aa rfl,.ret (q (.case k e l1 l2 l3 s1 s2 s3) _ ⟨⟨he,h1,h2,h3⟩,f1,f2,f3⟩ dr10)⟩
      · exact s_false tO<|ao 3 rfl<|s_true rfl<|rep 6
      · have t7:ae T (ab T n) (.or [.cmp .eq (.loc 3) (.int 6),.cmp .eq (.loc 1) (.int 1)]) [.obj bo,.int D,.obj so,iN 7,.ai,.ai,.ai,.ai,.ai,.ai,.ai,.ai,.ai] σ2=some (.bool (D ==1),σ2):=rfl
        clear bc iff x1 one leaf tD g b dr σ;rcases more with h1 | ⟨h1,d2,rfl,ih0⟩
        · rw [h1] at t7
          exact s_false tO<|ao 3 rfl<|s_true t7<|rep 7
        · rw [h1] at t7
          refine s_false tO<|ao 3 rfl<|s_false t7<|ao 1 rfl ?_
          refine ar<|aX<|af<|.mk rfl<|af<|.mk rfl<|af<|.mk rfl<|af<|.mk rfl<|af<|aX<|af<|.mk rfl<|af<|.mk rfl<|af<|dt<|.mk rfl<|pl dr2 fun k σ3 dr3=>b_add<|af<|.mk rfl<|aP ⟨aa rfl,af<|.mk rfl<|aP ⟨aa rfl,aa rfl,?_⟩⟩
          refine ar<|aX<|af<|.mk rfl<|af<|aD<|.mk rfl<|.mk (to_ok hT (lZ hn))<|.mk rfl ⟨aa rfl,aa rfl,?_⟩
          refine ar<|aX<|af<|.mk rfl<|af<|aD<|.mk rfl<|.mk (to_ok hT (lZ hn))<|.mk rfl ⟨aa rfl,aa rfl,?_⟩
          exact bI<|aX<|af<|.mk rfl<|af<|.mk rfl<|af<|.mk rfl<|af<|.mk rfl<|af<|aD<|.mk rfl<|ih0 dr3 fun st σ4 hf dr4=>aP ⟨aa rfl,.ret (q (.for k st) _ hf dr4)⟩
theorem stat0_w {n:Nat} (hn:7≤n):StW T n bo so σ0 0 0:=by
  obtain ⟨n,rfl⟩:∃ m,n=m+1:=⟨n - 1,cI (lZ hn)⟩
  exact stat_w hT bc (lZ hn) (.inl rfl)
theorem stat1_w {n:Nat} (hn:8≤n):StW T n bo so σ0 1 1:=by
  obtain ⟨n,rfl⟩:∃ m,n=m+1:=⟨n - 1,cI (lZ hn)⟩
  exact stat_w hT bc (lZ hn) (.inr ⟨rfl,0,rfl,stat0_w hT bc (lZ hn),.inl rfl⟩)
theorem stat2_w {n:Nat} (hn:9≤n):StW T n bo so σ0 2 2:=by
  obtain ⟨n,rfl⟩:∃ m,n=m+1:=⟨n - 1,cI (lZ hn)⟩
  exact stat_w hT bc (lZ hn) (.inr ⟨rfl,1,rfl,stat1_w hT bc (lZ hn),.inr ⟨rfl,0,rfl,stat0_w hT bc (lZ hn)⟩⟩)
end
end
section
open PySem
theorem set_app (σ τ:St) (x y:AO):(σ++x :: τ).set σ.length y=σ++y :: τ:=by simp
section
variable {T:Tab} {C:aw}
theorem bf {σ τ τ':St} {c a:Nat} {fs:List (Nat×V)} {v:V} {o e:XE} {l:List XS} {ρ:List V} {Q:Fl→List V→St→Prop} (he:ae T C e ρ (σ++.inst c fs :: τ)=some (v,σ++.inst c fs :: τ'))
    (ho:ae T C o ρ (σ++.inst c fs :: τ')=some (.obj σ.length,σ++.inst c fs :: τ')) (hf:T.fld c a=true) (hl:fs.length < 100) (h:WS T C l ρ (σ++.inst c (putF a v fs) :: τ') Q):WS T C (.asg (.attr o a) e :: l) ρ (σ++.inst c fs :: τ) Q:=
  s_asgA (.mk he (.mk ho (p_attr (by simp) hf hl (by refine ag (set_app ..) ?_;exact h))))
theorem dict0_ev {σ τ:St} {x:AO} {ρ:List V}:ae T C .dict0 ρ (σ++x :: τ)=some (.obj (σ.length+1+τ.length),σ++x :: (τ++[.cN []])):=by
  show some (V.obj (σ++x :: τ).length,(σ++x :: τ)++[.cN []])=_
  simp only [List.length_append,List.length_cons,List.append_assoc,List.cons_append]
  congr 3;exact e0Z
end
section
variable {T:Tab} (hT:bz bE T)
include hT
noncomputable def thF (a b c d e:V) (k:Nat):List (Nat×V):=[(36,a),(37,b),(38,c),(4,d),(26,e),(39,.lst []),(40,.lst []),(41,.int (-1)),(42,.obj k),(43,.bool false),(44,.none),(45,.int 0),(46,.bool false),(47,.bool false)]
theorem thread_ok {n:Nat} {σ:St} {a c p:Int} {s:Nat} (h:1≤n):ab T n 99 [.obj σ.length,.int a,.lst [],.int c,.lst [],.str s] (σ++[.inst 7 []])=some (.none,σ++[.inst 7 (thF (.int a) (.lst []) (.int c) (.lst []) (.str s) (σ.length+1)),.cN []]):=by
  obtain ⟨n,rfl⟩:∃ m,n=m+1:=⟨n - 1,cI (lZ h)⟩
  refine WC.eq (aj (f:=x_Thread___init__) (ρ:=[.obj σ.length,.int a,.lst [],.int c,.lst [],.str s]) (hT.fn _ _ rfl) rfl rfl ?_)
  refine bf rfl rfl (av hT rfl) (aa rfl)<|bf rfl rfl (av hT rfl) (aa rfl)<|bf rfl rfl (av hT rfl) (aa rfl)<|bf rfl rfl (av hT rfl) (aa rfl)<|bf rfl rfl (av hT rfl) (aa rfl)<|bf rfl rfl (av hT rfl) (aa rfl)<|bf rfl rfl (av hT rfl) (aa rfl)<|bf rfl rfl (av hT rfl) (aa rfl)<|?_
  refine bf dict0_ev rfl (av hT rfl) (aa rfl)<|bf rfl rfl (av hT rfl) (aa rfl)<|bf rfl rfl (av hT rfl) (aa rfl)<|bf rfl rfl (av hT rfl) (aa rfl)<|bf rfl rfl (av hT rfl) (aa rfl)<|bf rfl rfl (av hT rfl) (aa rfl)<|?_
  exact aU (.aL ⟨rfl,rfl⟩)
theorem init_ok {c k:Nat} (h:initTab c=some k):T.init c=some k:=by refine ag hT.init ?_;exact h
noncomputable def funF (f:Fn) (k:Nat):List (Nat×V):=thF (.int 0) (.lst []) (.int 0) (.lst []) (.str 56) k++[(21,.lst [.int 3,.int 3]),(22,.lst [f.du]),(20,f.body.v)]
theorem function_ok {n:Nat} {σ:St} (f:Fn) {p:Nat} {r:Int} (hp:f.du=.tup [.str 38,.int 3,.bool false,.str p,.int r]) (h:2≤n):
    ab T n 108 [.str p,.int r,iN f.first,f.second.v,f.result.v] σ=some (.obj σ.length,σ++[.inst 7 (funF f (σ.length+1)),.cN []]):=by
  obtain ⟨n,rfl⟩:∃ m,n=m+1:=⟨n - 1,cI (lZ h)⟩
  refine WC.eq (aj (f:=x__law_function) (ρ:=[.str p,.int r,iN f.first,f.second.v,f.result.v,.ai]) (hT.fn _ _ rfl) rfl rfl ?_)
  refine ar<|w_new (init_ok hT rfl)<|.mk rfl<|.mk (thread_ok hT (p:=0) (lZ h)) ⟨rfl,aa rfl,?_⟩
  refine bf rfl rfl (av hT rfl) (aa rfl)<|bf (v:=.lst [f.du]) (by refine ag hp ?_;rfl) rfl (av hT rfl) (aa rfl) ?_
  refine bf (v:=f.body.v) (WE.ok (T:=T) (C:=ab T n) (Q:=fun w s=>w=f.body.v∧s=_) ?_ |>.eq) rfl (av hT rfl) (aa rfl)<|au rfl (.ret ⟨rfl,rfl⟩)
  refine aX<|af<|.mk rfl<|af<|aX<|af<|aX<|af<|.mk rfl<|af<|aD<|.mk rfl<|.mk (to_ok hT (lZ h))<|af<|.mk (aC rfl f.second.cb)<|af<|.mk rfl<|aP ⟨aa rfl,?_⟩
  exact af<|aX<|af<|.mk rfl<|af<|aD<|.mk rfl<|.mk (to_ok hT (lZ h))<|af<|.mk (aC rfl f.result.cb)<|af<|.mk rfl<|aP ⟨aa rfl,aP ⟨aa rfl,af<|.mk rfl<|aP ⟨aa rfl,rfl,rfl⟩⟩⟩
noncomputable def fixD:DS:=.blk3 (.set (.sig 0) (.con 2 0)) (.iff (.an (.con 0 0) (.call 0 (.con 0 0))) .none .none) (.set (.sig 1) (.bin true (.sig 0) (.cnd (.con 2 2) (.call 0 (.con 0 0)) (.call 0 (.con 0 0)))))
theorem fixed_ok {n:Nat} {σ:St} (h:2≤n):ab T n 107 [] σ=some (fixD.v,σ):=by
  obtain ⟨n,rfl⟩:∃ m,n=m+1:=⟨n - 1,cI (lZ h)⟩
  refine WC.eq (aj (f:=x__law_fixed) (ρ:=[.ai,.ai]) (hT.fn _ _ rfl) rfl rfl ?_)
  refine ao 2 rfl<|bI<|aX<|af<|.mk rfl<|af<|aX<|af<|aX<|af<|.mk rfl<|af<|aD<|.mk rfl<|.mk (to_ok hT (lZ h))<|.mk rfl ⟨aa rfl,?_⟩
  exact af<|.mk rfl<|af<|aX<|af<|.mk rfl<|af<|aD<|.mk rfl<|.mk (to_ok hT (lZ h))<|.mk rfl ⟨aa rfl,aP ⟨aa rfl,.mk rfl ⟨aa rfl,.ret ⟨rfl,rfl⟩⟩⟩⟩
theorem signal_ok {n:Nat} {σ:St} {k:Int} (h:1≤n):∃ fs,ab T n 93 [.obj σ.length,.int k,.str 57,.str 58,.int 3,.bool false,.int 2,.int 0] (σ++[.inst 6 []])=some (.none,σ++[.inst 6 fs])∧cn 7 fs=some (.int 3)∧cn 27 fs=some (.str 58)∧cn 12 fs=none:=by
  obtain ⟨n,rfl⟩:∃ m,n=m+1:=⟨n - 1,cI (lZ h)⟩
  refine I1A4 ([(25,.int k),(26,.str 57),(27,.str 58),(7,.int 3),(28,.bool false),(29,.int 2),(30,.int 0),(31,.none),(32,.none),(33,.none),(34,.int (-1)),(35,.bool false)]) (WC.eq (aj (f:=x_Signal___init__) (ρ:=[.obj σ.length,.int k,.str 57,.str 58,.int 3,.bool false,.int 2,.int 0]) (hT.fn _ _ rfl) rfl rfl ?_)) rfl rfl rfl
  refine bf rfl rfl (av hT rfl) (aa rfl)<|bf rfl rfl (av hT rfl) (aa rfl)<|bf rfl rfl (av hT rfl) (aa rfl)<|bf rfl rfl (av hT rfl) (aa rfl)<|bf rfl rfl (av hT rfl) (aa rfl)<|bf rfl rfl (av hT rfl) (aa rfl)<|?_
  refine bf rfl rfl (av hT rfl) (aa rfl)<|bf rfl rfl (av hT rfl) (aa rfl)<|bf rfl rfl (av hT rfl) (aa rfl)<|bf rfl rfl (av hT rfl) (aa rfl)<|bf rfl rfl (av hT rfl) (aa rfl)<|bf rfl rfl (av hT rfl) (aa rfl)<|aU (.aL ⟨rfl,rfl⟩)
theorem store_ok1 {n:Nat} {σ:St} {l:List V} (h:1≤n):ab T n 72 [.obj σ.length,.lst l] (σ++[.inst 3 []])=some (.none,σ++[.inst 3 [(6,.lst l),(9,.obj (σ.length+1)),(10,.obj (σ.length+2)),(11,.int 1)],.cN [],.cN []]):=by
  obtain ⟨n,rfl⟩:∃ m,n=m+1:=⟨n - 1,cI (lZ h)⟩
  refine WC.eq (aj (f:=x_Store___init__) (ρ:=[.obj σ.length,.lst l]) (hT.fn _ _ rfl) rfl rfl ?_)
  exact bf rfl rfl (av hT rfl) (aa rfl)<|bf dict0_ev rfl (av hT rfl) (aa rfl)<|bf dict0_ev rfl (av hT rfl) (aa rfl)<|bf rfl rfl (av hT rfl) (aa rfl)<|aU (.aL ⟨rfl,rfl⟩)
theorem context_ok {n:Nat} {σ:St} {d s f:Nat} {fu:Int} (h:2≤n):ab T n 80 [.obj σ.length,.obj d,.obj s,.obj f,.int 0,.int fu] (σ++[.inst 5 []])=some (.none,σ++[.inst 5 [(3,.obj s),(4,.obj f),(13,.int 0),(14,.obj d),(15,.int fu),(16,.int 0),(17,.obj (σ.length+1))],.cN []]):=by
  obtain ⟨n,rfl⟩:∃ m,n=m+2:=⟨n - 2,n2Z (lZ h)⟩
  refine WC.eq (aj (f:=cO) (ρ:=[.obj σ.length,.obj d,.obj s,.obj f,.int 0,.int fu]) (hT.fn _ _ rfl) rfl rfl ?_)
  refine bH<|aD<|.mk rfl<|aj (f:=x_Context___init__) (ρ:=[.obj σ.length,.obj s,.obj f,.int 0]) (hT.fn _ _ rfl) rfl rfl ?_
  refine bf rfl rfl (av hT rfl) (aa rfl)<|bf rfl rfl (av hT rfl) (aa rfl)<|bf rfl rfl (av hT rfl) (aa rfl)<|aU (.aL ⟨.inl rfl,?_⟩)
  exact bf rfl rfl (av hT rfl) (aa rfl)<|bf rfl rfl (av hT rfl) (aa rfl)<|bf rfl rfl (av hT rfl) (aa rfl)<|bf dict0_ev rfl (av hT rfl) (aa rfl)<|aU (.aL ⟨rfl,rfl⟩)
end
end
section
open PySem
noncomputable def ThR (fns:Fin 2→Fn) (t:Fin 2→Nat) (σ:St):Prop:=∀ k,∃ fs,σ[t k]?=some (.inst 7 fs)∧cn 20 fs=some (fns k).body.v∧cn 21 fs=some (.lst [.int 3,.int 3])∧cn 22 fs=some (.lst [(fns k).du])
theorem ThR.kp {fns t} {σ σ':St} {X:List Nat} (h:ThR fns t σ) (k:Kp X σ σ') (hn:∀ i,t i∉X):ThR fns t σ':=fun i=>aq (h i) fun fs e r=>(aI fs (k.2 _ _ (hn i) e) r)
noncomputable def more:DE:=.bin false (.sig 0) (.con 1 0)
noncomputable def give:DE:=.bin true (.sig 0) (.loc 1)
noncomputable def fn0:Fn:=⟨none,0,more,give⟩
noncomputable def mkFns (p:Option (Fin 4)) (f:Fin 4) (a b:DE):Fin 2→Fn:=fun k=>if k=0 then fn0 else ⟨p,f,a,b⟩
theorem mk_fit {p f a b} (ha:DE.fit 1 1 a) (hb:DE.fit 1 1 b):FnsFit (mkFns p f a b):=⟨⟨⟨trivial,trivial⟩,show more.dp≤1 by decide⟩,⟨⟨trivial,trivial⟩,show give.dp≤1 by decide⟩,ha,hb⟩
theorem Dr.out {bo:Nat} {σ τ:St} {o:AO} (d:Dr bo σ.length (σ++[o]) τ):Kp [bo] σ τ:=
  ⟨by have:=d.k.1;simp only [List.length_append,List.length_singleton] at this;exact lZ this,fun n p hn hp=>by
    have:=(List.getElem?_eq_some_iff.mp hp).1
    simp only [List.mem_singleton] at hn
    exact d.k.2 n p (by simp only [List.mem_cons,List.not_mem_nil,or_false,not_or];lia) (aB hp)⟩
theorem get_len (σ:St) (x:AO) (τ:St):(σ++x :: τ)[σ.length]?=some x:=by simp
section
variable {T:Tab} (hT:bz bE T)
include hT
theorem functions_w {n:Nat} {bo:Nat} {σ:St} {Q:V→St→Prop} (hb:BagR σ bo) (hn:5≤n)
    (q:∀ fns t σ',FnsFit fns→ThR fns t σ'→(∀ k,σ.length≤t k)→BagR σ' bo→Kp [bo] σ σ'→Q (.lst [.obj (t 0),.obj (t 1)]) σ'):WC (ab T n) 109 [.obj bo] σ Q:=by
  obtain ⟨n,rfl⟩:∃ m,n=m+1:=⟨n - 1,cI (lZ hn)⟩
  refine aj (f:=x__law_functions) (ρ:=[.obj bo,.ai,.ai,.ai,.ai,.ai,.ai,.ai,.ai]) (hT.fn _ _ rfl) rfl rfl ?_
  have bc:bo≠σ.length:=by have:=hb.lt;exact Nat.ne_of_lt (lZ this)
  have dr:Dr bo σ.length (σ++[.lst [.int 1,.int 6,.int 0]]) (σ++[.lst [.int 1,.int 6,.int 0]]):=by
    refine E3A2 hb fun x y l e hl=>?_
    clear hb
    exact ⟨I3A2 x y l (aB e) hl,⟨1,6,0,bR⟩,.refl _ _⟩
  refine ar<|.mk (v:=more.v) rfl ⟨aa rfl,ar<|.mk (v:=give.v) rfl ⟨aa rfl,ar<|.mk rfl ⟨aa rfl,?_⟩⟩⟩
  refine ar<|aD<|.mk rfl<|cD hT bc 5 dr (by decide) (by decide) (lZ hn) fun g1 σ1 dr1=>⟨aa rfl,?_⟩
  refine ar<|aD<|.mk rfl<|cD hT bc 4 dr1 (by decide) (by decide) (lZ hn) fun g2 σ2 dr2=>⟨aa rfl,?_⟩
  refine ar<|aD<|.mk rfl<|expr1_w hT bc (c:=1) (by decide) (by decide) (lZ hn) dr2 fun a σ3 fa dr3=>⟨aa rfl,?_⟩
  refine ar<|aD<|.mk rfl<|expr1_w hT bc (c:=1) (by decide) (by decide) (lZ hn) dr3 fun b σ4 fb dr4=>⟨aa rfl,?_⟩
  have fin:∀ (p:Option (Fin 4)) (s:Nat) (r:Int),(⟨p,g2,a,b⟩:Fn).du=.tup [.str 38,.int 3,.bool false,.str s,.int r]→
      ae T (ab T n) (.ite (.cmp .eq (.loc 4) (.int 4)) (.str 26) (.str 25)) [.obj bo,more.v,give.v,.obj σ.length,iN g1,iN g2,a.v,b.v,.ai] σ4=some (.str s,σ4)→ae T (ab T n) (.ite (.cmp .eq (.loc 4) (.int 4)) (.int 1) (.loc 4)) [.obj bo,more.v,give.v,.obj σ.length,iN g1,iN g2,a.v,b.v,.ai] σ4=some (.int r,σ4)→
      WS T (ab T n) (x__law_functions.body.drop 7) [.obj bo,more.v,give.v,.obj σ.length,iN g1,iN g2,a.v,b.v,.ai] σ4 (bj Q):=fun p s r hp hx hy=>by
    have k4:=dr4.out
    refine ar<|aD<|.mk (cQ hx hy rfl (aC rfl a.cb) (aC rfl b.cb))<|.mk (function_ok hT ⟨p,g2,a,b⟩ hp (lZ hn)) ⟨aa rfl,?_⟩
    refine bI<|w_lstF<|af<|aD<|.mk rfl<|.mk (function_ok hT fn0 (p:=26) (r:=1) rfl (lZ hn))<|.mk rfl ⟨aa rfl,.ret ?_⟩
    have L1:(σ4++[AO.inst 7 (funF ⟨p,g2,a,b⟩ (σ4.length+1)),AO.cN []]).length=σ4.length+2:=by simp
    have hL:σ.length≤σ4.length:=k4.1
    refine q (mkFns p g2 a b) (fun k=>if k=0 then (σ4++[AO.inst 7 (funF ⟨p,g2,a,b⟩ (σ4.length+1)),AO.cN []]).length else σ4.length) _ (mk_fit fa fb) (fun k=>?_) (fun k=>?_) ?_ (k4.trans ((Kp.app _ _ _).trans (Kp.app _ _ _)))
    · refine f2 k ?_ ?_
      · exact I1A4 _ (get_len _ _ _) rfl rfl rfl
      · exact I1A4 _ (aB (get_len _ _ _)) rfl rfl rfl
    · refine f2 k ?_ ?_
      · show σ.length≤(σ4++_).length;refine ag L1 ?_;exact lZ hL
      · exact hL
    · refine E3A2 dr4.b fun x y l e hl=>?_
      exact I3A2 x y l (aB (aB e)) hl
  clear dr1 dr2 dr3 dr4 dr
  revert fin
  exact f5 g1 (fun fin=>fin (some 0) 25 0 rfl rfl rfl) (fun fin=>fin (some 1) 25 1 rfl rfl rfl) (fun fin=>fin (some 2) 25 2 rfl rfl rfl) (fun fin=>fin (some 3) 25 3 rfl rfl rfl) (fun fin=>fin none 26 1 rfl rfl rfl)
end
end
section
open PySem
section
variable {T:Tab} (hT:bz bE T)
noncomputable def bagB:List XS:=[.expr (.aV (.loc 1) 0 [.blt .int [.loc 2]]),.asg (.idx (.loc 1) (.int 1)) (.bin .mod (.bin .add (.bin .add (.bin .mul (.idx (.loc 1) (.int 1)) (.int 31)) (.bin .mod (.blt .int [.loc 2]) (.int 9973))) (.int 1)) (.int 1000003))]
theorem bag_loop {C:aw} {S:V} {L:List Int} {Q:Fl→List V→St→Prop} (hq:∀ b z,Q .aL [S,.obj 0,z] [.lst (.int 0 :: .int b :: L.map .int)]):∀ (r p:List Int) (f:Nat) (z:V) (b:Int),L=p++r→L.length≤20→r.length < f→
    Loop T C (.loc 2) bagB (.lst (L.map .int)) f p.length [S,.obj 0,z] [.lst (.int 0 :: .int b :: p.map .int)] Q
  | [],p,f,z,b,e,hl,hf=>by
    obtain ⟨f,rfl⟩:∃ g,f=g+1:=⟨f - 1,by simp only [List.length_nil] at hf;exact cI (lZ hf)⟩
    rw [List.append_nil] at e;subst e
    exact cM (by simp [a9]) (hq _ _)
  | c :: r,p,f,z,b,e,hl,hf=>by
    obtain ⟨f,rfl⟩:∃ g,f=g+1:=⟨f - 1,by simp only [List.length_cons] at hf;exact cI (lZ hf)⟩
    have hp:p.length < 20:=by rw [e] at hl;simp only [List.length_append,List.length_cons] at hl;exact lZ hl
    refine bO (v:=.int c) (by simp [a9,e]) (aa rfl) ?_
    have e1:ae T C (.aV (.loc 1) 0 [.blt .int [.loc 2]]) [S,.obj 0,.int c] [.lst (.int 0 :: .int b :: p.map .int)]=some (.none,[.lst (.int 0 :: .int b :: (p++[c]).map .int)]):=by
      refine ag (mv_app (d:=.int 0 :: .int b :: p.map .int) rfl rfl rfl rfl (by simp only [List.length_cons,List.length_map];exact lZ hp)) ?_
      simp
    refine bH<|.mk e1 ⟨.inl rfl,?_⟩
    refine dE<|dt<|dt<|dt<|dt<|w_idx<|.mk rfl<|.mk rfl<|i_obj rfl rfl rfl<|.mk rfl<|b_mulR rfl<|dt<|.mk rfl<|.mk rfl<|b_mod ⟨rfl,rfl⟩<|b_add<|.mk rfl<|b_add<|.mk rfl<|b_mod ⟨rfl,rfl⟩ ?_
    refine .mk rfl<|.mk rfl<|p_lst rfl (by decide) (by simp only [List.length_cons];lia) (by simp only [List.length_cons,List.length_map,List.length_append,List.length_nil];exact lZ hp)<|aU (.aL ?_)
    have:=bag_loop (C:=C) hq r (p++[c]) f (.int c) (((b*31+c.fmod 9973+1).fmod 1000003)) (by simp [e]) hl (by simp only [List.length_cons] at hf;exact lZ hf)
    rw [List.length_append,List.length_singleton] at this
    exact this
include hT
theorem bag_ok {n:Nat} {sc:List Int} (h:sc.length≤63) (hn:1≤n):∃ o,ab T n 100 [.lst (sc.map .int)] []=some (.obj 0,[o])∧BagR [o] 0:=by
  obtain ⟨n,rfl⟩:∃ m,n=m+1:=⟨n - 1,cI (lZ hn)⟩
  have run:WC (ab T (n+1)) 100 [.lst (sc.map .int)] [] fun v σ=>v=.obj 0∧∃ o,σ=[o]∧BagR [o] 0:=by
    refine aj (f:=x__law_bag) (ρ:=[.lst (sc.map .int),.ai,.ai]) (hT.fn _ _ rfl) rfl rfl ?_
    have el:ae T (ab T n) (.sliceTo false (.blt .list [.loc 0]) 20) [.lst (sc.map .int),.obj 0,.ai] [.lst [.int 0,.int 1]]=some (.lst ((sc.take 20).map .int),[.lst [.int 0,.int 1]]):=by
      refine WE.ok (w_sliceToF (Q:=fun v τ=>v=.lst ((sc.take 20).map .int)∧τ=[.lst [.int 0,.int 1]])<|w_blt<|.mk rfl<|.mk (v:=.lst (sc.map .int)) (σ':=[.lst [.int 0,.int 1]]) ?_ ⟨nofun,.mk (w:=sc.map .int) rfl ⟨?_,?_,rfl⟩⟩) |>.eq
      · simp only [bltV,v1,onL,List.isEmpty,if_true];rw [if_pos (by refine ag (List.length_map ..) ?_;exact lZ h)]
      · refine ag (List.length_map ..) ?_;exact lZ h
      · exact ag List.map_take rfl
    refine ar<|.mk rfl ⟨aa rfl,b6<|.mk el ⟨rfl,?_⟩⟩
    exact bag_loop (L:=sc.take 20) (fun b z=>.aL<|au rfl (.ret ⟨rfl,_,rfl,0,b,_,rfl,by refine ag List.length_take ?_;lia⟩)) _ [] 64 .ai 1 rfl (by refine ag List.length_take ?_;lia) (by refine ag List.length_take ?_;lia)
  obtain ⟨v,σ,e,rfl,o,rfl,hb⟩:=run
  exact ⟨o,e,hb⟩
noncomputable def row3 (a b c:Fin 4):Vc:=mk8 (a.val % 2+2*(b.val % 2)+4*(c.val % 2)) (a.val / 2+2*(b.val / 2)+4*(c.val / 2))
omit hT in
theorem row3_ok (a b c:Fin 4):(row3 a b c).r=.lst [iN a,iN b,iN c]:=by
  have key:∀ a b c:Fin 4,dg (row3 a b c) 0=a.val∧dg (row3 a b c) 1=b.val∧dg (row3 a b c) 2=c.val:=by decide
  refine dJ (key a b c) fun h0 h1 h2=>?_
  simp only [Vc.r,h0,h1,h2]
theorem pull_w1 {n bo:Nat} {σ:St} {Q:V→St→Prop} (k:Nat) (b:BagR σ bo) (h0:0 < k) (h8:k≤8) (hn:1≤n) (q:∀ (g:Fin k) σ',BagR σ' bo→Kp [bo] σ σ'→σ'.length=σ.length→Q (iN g) σ'):WC (ab T n) 101 [.obj bo,.int (k:Nat)] σ Q:=by
  refine E2A5 (pull_ok hT b h0 h8 hn) fun σ' g e hg b' kp hl=>?_
  exact .mk e (q ⟨g,hg⟩ σ' b' kp hl)
noncomputable def rowC:List XS:=[.asg (.loc 4) (.cmp .eq (.call 101 [.loc 1,.int 3]) (.int 0)),.expr (.aV (.loc 2) 0 [.comp false (.call 101 [.loc 1,.ite (.loc 4) (.int 4) (.int 2)]) (.blt .range [.int 3]) .none])]
theorem row_turn {n:Nat} {σ:St} {l:List V} {sc i z:V} {tl:List V} {Q:Fl→List V→St→Prop} (b:BagR σ 0) (h1:σ[1]?=some (.lst l)) (h2:σ.length=2) (hl:l.length < 10) (hn:1≤n)
    (q:∀ (u:Vc) σ' w,BagR σ' 0→σ'[1]?=some (.lst (l++[u.r]))→σ'.length=2→Q .aL (sc :: .obj 0 :: .obj 1 :: i :: w :: tl) σ'):WS T (ab T n) rowC (sc :: .obj 0 :: .obj 1 :: i :: z :: tl) σ Q:=by
  refine ar<|bT<|aD<|.mk rfl<|pull_w1 hT 3 b (by decide) (by decide) hn fun g σ1 b1 k1 e1=>.mk rfl<|c_eqi ⟨by simp only [List.length_cons];exact l0Z,?_⟩
  have h11:=k1.2 1 _ (by decide) h1
  generalize (((g.val:Nat):Int) ==0)=w
  have comp:∃ (u:Vc) (σ2:St),ae T (ab T n) (.comp false (.call 101 [.loc 1,.ite (.loc 4) (.int 4) (.int 2)]) (.blt .range [.int 3]) .none) (sc :: .obj 0 :: .obj 1 :: i :: .bool w :: tl) σ1=some (u.r,σ2)∧BagR σ2 0∧Kp [0] σ1 σ2∧σ2.length=σ1.length:=by
    have one:∀ {σ:St} {j:V} {Q:V→St→Prop},BagR σ 0→(∀ (g:Fin 4) σ',BagR σ' 0→Kp [0] σ σ'→σ'.length=σ.length→Q (iN g) σ')→WE T (ab T n) (.call 101 [.loc 1,.ite (.loc 4) (.int 4) (.int 2)]) ((sc :: .obj 0 :: .obj 1 :: i :: .bool w :: tl)++[j]) σ Q:=fun {σ j Q} b q=>by
      cases w
      · exact aD<|.mk (σ':=σ) (v:=[.obj 0,.int 2]) rfl<|pull_w1 hT 2 b (by decide) (by decide) hn fun g σ' b' k' e'=>q ⟨g.val,by lia⟩ σ' b' k' e'
      · exact aD<|.mk (σ':=σ) (v:=[.obj 0,.int 4]) rfl<|pull_w1 hT 4 b (by decide) (by decide) hn fun g σ' b' k' e'=>q g σ' b' k' e'
    have run:WE T (ab T n) (.comp false (.call 101 [.loc 1,.ite (.loc 4) (.int 4) (.int 2)]) (.blt .range [.int 3]) .none) (sc :: .obj 0 :: .obj 1 :: i :: .bool w :: tl) σ1 fun v σ2=>∃ u:Vc,v=u.r∧BagR σ2 0∧Kp [0] σ1 σ2∧σ2.length=σ1.length:=by
      refine w_compF<|.mk rfl ⟨rfl,aA rfl (aa rfl)<|one b1 fun g2 σ2 b2 k2 e2=>aA rfl (aa rfl)<|one b2 fun g3 σ3 b3 k3 e3=>aA rfl (aa rfl)<|one b3 fun g4 σ4 b4 k4 e4=>cB rfl ⟨aa rfl,row3 g2 g3 g4,(row3_ok _ _ _).symm,b4,(k2.trans k3).trans k4,Nat.le_antisymm (lZ (aZ (Nat.le_of_eq e2) (aZ (Nat.le_of_eq e3) (Nat.le_of_eq e4)))) (lZ (aZ (Nat.le_of_eq e2.symm) (aZ (Nat.le_of_eq e3.symm) (Nat.le_of_eq e4.symm))))⟩⟩
    obtain ⟨v,σ2,e,u,rfl,r⟩:=run
    exact I2A2 u σ2 e r
  refine E2A4 comp fun u σ2 e2 b2 k2 l2=>?_
  clear comp
  have h12:=k2.2 1 _ (by decide) h11
  refine bH<|.mk (mv_app rfl h11 (evs1 e2) h12 (lZ hl)) ⟨.inl rfl,aU (q u _ (.bool w) ?_ (get_set h12) (by simp [l2,e1,h2]))⟩
  exact b2.kp (Kp.set (X:=[1]) (by decide) _) (by decide)
theorem rows_ok {n:Nat} {o:AO} {sc z1 z2:V} {tl:List V} {l:List XS} {Q:Fl→List V→St→Prop} (b:BagR [o] 0) (hn:1≤n)
    (q:∀ (u:Fin 6→Vc) σ' w,BagR σ' 0→σ'[1]?=some (.lst [(u 0).r,(u 1).r,(u 2).r,(u 3).r,(u 4).r,(u 5).r])→σ'.length=2→WS T (ab T n) l (sc :: .obj 0 :: .obj 1 :: .int 5 :: w :: tl) σ' Q):
    WS T (ab T n) (.for (.loc 3) (.blt .range [.int 6]) rowC :: l) (sc :: .obj 0 :: .obj 1 :: z1 :: z2 :: tl) ([o]++[.lst []]) Q:=by
  have b0:BagR ([o]++[.lst []]) 0:=by obtain ⟨x,y,l,e,hl⟩:=b;exact I3A2 x y l (aB e) hl
  refine b6<|.mk rfl ⟨rfl,?_⟩
  refine bO rfl (by simp)<|row_turn hT (l:=[]) b0 rfl rfl (aa rfl) hn fun u0 σ0 w0 b0 h0 e0=>.aL ?_
  refine bO rfl (by simp)<|row_turn hT b0 h0 e0 (aa rfl) hn fun u1 σ1 w1 b1 h1 e1=>.aL ?_
  refine bO rfl (by simp)<|row_turn hT b1 h1 e1 (aa rfl) hn fun u2 σ2 w2 b2 h2 e2=>.aL ?_
  refine bO rfl (by simp)<|row_turn hT b2 h2 e2 (aa rfl) hn fun u3 σ3 w3 b3 h3 e3=>.aL ?_
  refine bO rfl (by simp)<|row_turn hT b3 h3 e3 (aa rfl) hn fun u4 σ4 w4 b4 h4 e4=>.aL ?_
  refine bO rfl (by simp)<|row_turn hT b4 h4 e4 (aa rfl) hn fun u5 σ5 w5 b5 h5 e5=>.aL ?_
  refine cM rfl (.aL ?_)
  exact q (fun i=>[u0,u1,u2,u3,u4,u5][i]) σ5 w5 b5 h5 e5
end
end
section
open PySem
noncomputable def up (sg:Fin 4→Vc) (i:Fin 4) (v:Vc):Fin 4→Vc:=fun j=>if j=i then v else sg j
theorem put_sg (s:PS) (i:Fin 4) (v:Vc):(s.put i v).sg=up s.sg i v:=by
  funext j
  unfold PS.put up
  split
  · rename_i h
    by_cases e:j=i
    · subst e;exact ag (if_pos rfl) (ag h rfl)
    · exact ag (if_neg e) rfl
  · rfl
theorem putP0 (h v:Vc):cg 0 h v=v:=by
  have key:allV (fun h=>allV fun v=>decide (cg 0 h v=v))=true:=by decide +kernel
  exact of_decide_eq_true (dC (f:=fun v=>decide (cg 0 h v=v)) (dC (f:=fun h=>allV fun v=>decide (cg 0 h v=v)) key h) v)
theorem up_all (u0 u1 u2 u3:Vc) (sg:Fin 4→Vc):up (up (up (up sg 0 u0) 1 u1) 2 u2) 3 u3=fun i=>match i with | 0=>u0 | 1=>u1 | 2=>u2 | 3=>u3:=by
  funext i
  match i with
  | 0=>rfl
  | 1=>rfl
  | 2=>rfl
  | 3=>rfl
structure L1 (fns:Fin 2→Fn) (H:Hd) (sg:Fin 4→Vc) (l:LL) (σ:St):Prop where
  th:ThR fns H.t σ
  S:SR H σ sg
  rows:σ[1]?=some (.lst [(sg 0).r,(sg 1).r,(sg 2).r,(sg 3).r,l.1.r,l.2.r])
noncomputable def rho1 (sc:List Int) (H:Hd) (a b:DS) (w s:V):List V:=[.lst (sc.map .int),.obj 0,.obj 1,.int 5,w,.lst [.obj (H.t 0),.obj (H.t 1)],s,a.v,(DS.blk3 fixD a b).v,.lst [.obj (H.g 0),.obj (H.g 1),.obj (H.g 2),.obj (H.g 3)],.obj H.st,.int 3,.ai,.ai,.ai,.ai,.ai,.ai,.ai]
section
variable {T:Tab} (hT:bz bE T)
include hT
noncomputable def setC:List XS:=[.expr (.aV (.loc 10) 8 [.loc 11,.none,.int 0,.call 119 [.idx (.loc 2) (.loc 11)]])]
theorem set_turn {n:Nat} {H:Hd} {σ:St} {sg:Fin 4→Vc} {L:List V} {ρ:List V} {u:Vc} {Q:Fl→List V→St→Prop} (S:SR H σ sg) (hr:σ[1]?=some (.lst L)) (h1:H.vals≠1) (i:Fin 4) (hL:idxL L (i.val:Nat)=some u.r)
    (e10:ρ[10]?=some (.obj H.st)) (e2:ρ[2]?=some (.obj 1)) (e11:ρ[11]?=some (iN i)) (hn:5≤n) (q:∀ σ',SR H σ' (up sg i u)→Kp [H.vals] σ σ'→Q .aL ρ σ'):WS T (ab T n) setC ρ σ Q:=by
  refine ay (setb_ok hT (s:=⟨sg,[],0⟩) S i (lo:=0) u (by decide) (by decide) (n:=n) (lZ hn)) fun σ' e S' k=>?_
  rw [putP0] at S'
  rw [put_sg] at S'
  have hs:bk σ (.obj 1)=some L:=by simp only [bk,hr]
  have hk:idxOk ((i.val:Nat):Int)=true:=by refine f4 i ?_ ?_ ?_ ?_ <;> rfl
  exact bH<|.mk (dj (aC e10 (nU rfl)) S.st rfl (b8 hT rfl) (evs4 (aC e11 (nU rfl)) rfl rfl (cv (evs1 (dw (aC e2 (nU rfl)) (aC e11 (nU rfl)) hs hk hL)) (lvec_ok hT (lZ hn)))) e) ⟨.inr ⟨_,rfl⟩,aU (q σ' S' k)⟩
omit hT in
theorem SR.start {σ:St} {g:Fin 4→Nat} {H:Hd} (hg:H.g=g) (hs:H.st=σ.length) (hv:H.vals=σ.length+1) (hm:H.mem=σ.length+2) (sig:∀ i,∃ fs,σ[g i]?=some (.inst 6 fs)∧cn 7 fs=some (.int 3)∧cn 27 fs=some (.str 58)∧cn 12 fs=none):
    SR H (σ++[.inst 3 [(6,.lst [.obj (g 0),.obj (g 1),.obj (g 2),.obj (g 3)]),(9,.obj (σ.length+1)),(10,.obj (σ.length+2)),(11,.int 1)],.cN [],.cN []]) (fun zz=>xX):=by
  refine ⟨?_,fun i=>?_,[],?_,.nil,fun i=>.inr ⟨rfl,rfl⟩⟩
  · refine ag hs (ag hg (ag hv (ag hm ?_)));exact get_len _ _ _
  · refine aq (sig i) fun fs e r=>?_
    refine ag hg ?_
    exact aI fs (aB e) r
  · refine ag hv ?_;simp
theorem law1_w {n:Nat} {sc:List Int} (h:sc.length≤63) (hn:9≤n) {Q:Fl→List V→St→Prop} (hQ:∀ fns H sg l a b w s σ,L1 fns H sg l σ→FnsFit fns→a.fit 2→b.fit 2→Q .aL (rho1 sc H a b w s) σ):WS T (ab T n) x_law1 (.lst (sc.map .int) :: List.replicate 18 .ai) [] Q:=by
  refine aq (bag_ok hT (n:=n) h (lZ hn)) fun o e0 b0=>?_
  refine ar<|aD<|.mk rfl<|.mk e0 ⟨aa rfl,ar<|.mk rfl ⟨aa rfl,?_⟩⟩
  refine rows_ok hT b0 (lZ hn) fun u σ1 w b1 hr1 l1=>?_
  refine ar<|aD<|.mk rfl<|functions_w hT b1 (lZ hn) fun fns t σ3 fit th ge b3 k3=>⟨aa rfl,?_⟩
  have hr3:=k3.2 1 _ (by decide) hr1
  have lt3:2≤σ3.length:=by have:=k3.1;exact lZ (aZ (Nat.le_of_eq l1.symm) this)
  have t0:∀ i,t i≠0:=fun i=>by have:=ge i;exact Nat.ne_of_gt (lZ (aZ (Nat.le_of_eq l1.symm) this))
  refine ar<|.mk rfl ⟨aa rfl,?_⟩
  have bc:0≠σ3.length:=Nat.ne_of_lt (lZ lt3)
  have dr:Dr 0 σ3.length (σ3++[.lst [.int 2,.int 10,.int 4]]) (σ3++[.lst [.int 2,.int 10,.int 4]]):=by
    refine E3A2 b3 fun x y l e hl=>?_
    clear b3
    exact ⟨I3A2 x y l (aB e) hl,⟨2,10,4,bR⟩,.refl _ _⟩
  refine ar<|aD<|.mk rfl<|stat2_w hT bc (lZ hn) dr fun a σ4 fa dr4=>⟨aa rfl,?_⟩
  refine ar<|aX<|af<|.mk rfl<|af<|aX<|af<|aD<|.mk rfl<|.mk (fixed_ok hT (lZ hn))<|af<|.mk (aC rfl a.cb)<|af<|aD<|.mk rfl<|stat2_w hT bc (lZ hn) dr4 fun b σ5 fb dr5=>aP ⟨aa rfl,af<|.mk rfl<|aP ⟨aa rfl,aa rfl,?_⟩⟩
  have k5:=dr5.out
  have hr5:=k5.2 1 _ (by decide) hr3
  have th5:=th.kp k5 (by simpa using t0)
  refine aq (signal_ok hT (n:=n) (σ:=σ5) (k:=0) (lZ hn)) fun f0 c0 p0=>?_
  refine aq (signal_ok hT (n:=n) (σ:=σ5++[.inst 6 f0]) (k:=1) (lZ hn)) fun f1 c1 p1=>?_
  refine aq (signal_ok hT (n:=n) (σ:=σ5++[.inst 6 f0]++[.inst 6 f1]) (k:=2) (lZ hn)) fun f2 c2 p2=>?_
  refine aq (signal_ok hT (n:=n) (σ:=σ5++[.inst 6 f0]++[.inst 6 f1]++[.inst 6 f2]) (k:=3) (lZ hn)) fun f3 c3 p3=>?_
  refine ar<|w_compF<|.mk rfl ⟨rfl,aA rfl (aa rfl)<|w_new (init_ok hT rfl)<|.mk rfl<|.mk c0 ⟨rfl,?_⟩⟩
  refine aA rfl (aa rfl)<|w_new (init_ok hT rfl)<|.mk rfl<|.mk c1 ⟨rfl,?_⟩
  refine aA rfl (aa rfl)<|w_new (init_ok hT rfl)<|.mk rfl<|.mk c2 ⟨rfl,?_⟩
  refine aA rfl (aa rfl)<|w_new (init_ok hT rfl)<|.mk rfl<|.mk c3 ⟨rfl,cB rfl ⟨aa rfl,aa rfl,?_⟩⟩
  let g:Fin 4→Nat:=fun i=>match i with | 0=>σ5.length | 1=>(σ5++[AO.inst 6 f0]).length | 2=>(σ5++[AO.inst 6 f0]++[AO.inst 6 f1]).length | 3=>(σ5++[AO.inst 6 f0]++[AO.inst 6 f1]++[AO.inst 6 f2]).length
  obtain ⟨σ9,h9⟩:∃ σ9,σ9=σ5++[.inst 6 f0]++[.inst 6 f1]++[.inst 6 f2]++[.inst 6 f3]:=⟨_,rfl⟩
  have sig:∀ i,∃ fs,σ9[g i]?=some (.inst 6 fs)∧cn 7 fs=some (.int 3)∧cn 27 fs=some (.str 58)∧cn 12 fs=none:=fun i=>by
    refine ag h9 ?_
    refine f4 i ?_ ?_ ?_ ?_
    · exact aI f0 (aB (aB (aB bR))) p0
    · exact aI f1 (aB (aB bR)) p1
    · exact aI f2 (aB bR) p2
    · exact aI f3 bR p3
  have k9:Kp [] σ5 σ9:=by refine ag h9 ?_;exact (((Kp.app _ _ _).trans (Kp.app _ _ _)).trans (Kp.app _ _ _)).trans (Kp.app _ _ _)
  have hr9:=k9.2 1 _ nofun hr5
  have th9:=th5.kp k9 nofun
  refine cw h9 ?_
  refine ar<|w_new (init_ok hT rfl)<|.mk rfl<|.mk (store_ok1 hT (lZ hn)) ⟨rfl,aa rfl,?_⟩
  let H:Hd:=⟨0,σ9.length,σ9.length+1,0,σ9.length+2,0,g,t⟩
  have S0:SR H _ (fun _=>xX):=SR.start (σ:=σ9) (g:=g) (H:=H) rfl rfl rfl rfl sig
  have hr10:(σ9++[AO.inst 3 [(6,.lst [.obj (g 0),.obj (g 1),.obj (g 2),.obj (g 3)]),(9,.obj (σ9.length+1)),(10,.obj (σ9.length+2)),(11,.int 1)],.cN [],.cN []])[1]?=_:=aB hr9
  have th10:ThR fns t (σ9++[AO.inst 3 [(6,.lst [.obj (g 0),.obj (g 1),.obj (g 2),.obj (g 3)]),(9,.obj (σ9.length+1)),(10,.obj (σ9.length+2)),(11,.int 1)],.cN [],.cN []]):=th9.kp (Kp.app [] _ _) nofun
  have hv1:H.vals≠1:=by have:=k9.1;have:=k5.1;show σ9.length+1≠1;lia
  have nm:1∉[H.vals]:=by simpa using hv1.symm
  refine b6<|.mk rfl ⟨rfl,?_⟩
  refine bO rfl (aa rfl)<|set_turn hT S0 hr10 hv1 0 (u:=u 0) rfl rfl rfl rfl (lZ hn) fun τ1 S1 q1=>.aL ?_
  refine bO rfl (aa rfl)<|set_turn hT S1 (q1.2 _ _ nm hr10) hv1 1 (u:=u 1) rfl rfl rfl rfl (lZ hn) fun τ2 S2 q2=>.aL ?_
  have q12:=q1.trans q2
  refine bO rfl (aa rfl)<|set_turn hT S2 (q12.2 _ _ nm hr10) hv1 2 (u:=u 2) rfl rfl rfl rfl (lZ hn) fun τ3 S3 q3=>.aL ?_
  have q13:=q12.trans q3
  refine bO rfl (aa rfl)<|set_turn hT S3 (q13.2 _ _ nm hr10) hv1 3 (u:=u 3) rfl rfl rfl rfl (lZ hn) fun τ4 S4 q4=>.aL ?_
  have q14:=q13.trans q4
  rw [up_all] at S4
  refine cM rfl (.aL (aU (hQ fns H _ (u 4,u 5) a b w (.obj σ3.length) _ ⟨th10.kp q14 fun i=>?_,S4,q14.2 _ _ nm hr10⟩ fit fa fb)))
  have:=ge i
  refine aq (th5 i) fun fs e _=>?_
  have:=(List.getElem?_eq_some_iff.mp e).1
  have:=k9.1
  show t i∉[σ9.length+1]
  simp only [List.mem_singleton];lia
end
end
section
open PySem
theorem eqL_refl {f:V→V→Bool}:∀ l:List V,(∀ v∈l,f v v=true)→eqL f l l=true
  | [],_=>rfl
  | a :: l,h=>by simp only [eqL,h a List.mem_cons_self,eqL_refl l fun v hv=>h v (List.mem_cons_of_mem _ hv),Bool.and_self]
theorem eqB_refl:∀ (n:Nat) (v:V),plain n v=true→eqB n v v=true
  | _,.none,_=>by unfold eqB;rfl
  | _,.int a,_=>by unfold eqB;exact beq_self_eq_true a
  | n+1,.tup l,h=>by unfold plain at h;unfold eqB;exact eqL_refl l fun v hv=>eqB_refl n v (List.all_eq_true.mp h v hv)
  | n+1,.lst l,h=>by unfold plain at h;unfold eqB;exact eqL_refl l fun v hv=>eqB_refl n v (List.all_eq_true.mp h v hv)
  | 0,.tup _,h=>nomatch h
  | 0,.lst _,h=>nomatch h
  | 0,.ai,h=>nomatch h
  | _+1,.ai,h=>nomatch h
  | 0,.bool _,h=>nomatch h
  | _+1,.bool _,h=>nomatch h
  | 0,.str _,h=>nomatch h
  | _+1,.str _,h=>nomatch h
  | 0,.obj _,h=>nomatch h
  | _+1,.obj _,h=>nomatch h
  | 0,.fn _,h=>nomatch h
  | _+1,.fn _,h=>nomatch h
  | 0,.rng _,h=>nomatch h
  | _+1,.rng _,h=>nomatch h
theorem eq_self {l:List V} (h:plain 4 (.lst l)=true):eqV (.lst l) (.lst l)=some true:=by
  simp only [eqV,onL,datEq,h,Bool.and_self,if_true,eqB_refl 4 _ h]
theorem ne_self {σ:St} {x y:V} {l:List V} (h:plain 4 (.lst l)=true) (hx:bF σ x=.lst l) (hy:bF σ y=.lst l):cmpV σ .ne x y=some false:=by
  simp only [cmpV,hx,hy,eq_self h,Option.map,Bool.not_true]
section
variable {T:Tab} {C:aw} {ρ:List V} {σ:St}
theorem comp4R {e:XE} {w:Fin 4→V} (h:∀ i:Fin 4,ae T C e (ρ++[iN i]) σ=some (w i,σ)):ae T C (.comp false e (.blt .range [.int 4]) .none) ρ σ=some (.lst [w 0,w 1,w 2,w 3],σ):=by
  have g:WE T C (.comp false e (.blt .range [.int 4]) .none) ρ σ fun v σ'=>v=.lst [w 0,w 1,w 2,w 3]∧σ'=σ:=
    w_compF (.mk rfl ⟨rfl,aA rfl (aa rfl) (.mk (h 0) (aA rfl (aa rfl) (.mk (h 1) (aA rfl (aa rfl) (.mk (h 2) (aA rfl (aa rfl) (.mk (h 3) (cB rfl ⟨aa rfl,rfl,rfl⟩))))))))⟩)
  exact g.ok.eq
theorem nx_obj {n:Nat} {l:List V} (h:σ[n]?=some (.lst l)) (i:Nat):a9 (.obj n) i σ=some l[i]?:=by simp only [a9,h]
theorem it_obj {n:Nat} {l:List V} (h:σ[n]?=some (.lst l)):cP (.obj n) σ=true:=by simp only [cP,a9,h,Option.isSome]
theorem comp4O {e it:XE} {n:Nat} {x0 x1 x2 x3:V} {w0 w1 w2 w3:V} (hi:ae T C it ρ σ=some (.obj n,σ)) (hn:σ[n]?=some (.lst [x0,x1,x2,x3])) (h0:ae T C e (ρ++[x0]) σ=some (w0,σ)) (h1:ae T C e (ρ++[x1]) σ=some (w1,σ)) (h2:ae T C e (ρ++[x2]) σ=some (w2,σ)) (h3:ae T C e (ρ++[x3]) σ=some (w3,σ)):
    ae T C (.comp false e it .none) ρ σ=some (.lst [w0,w1,w2,w3],σ):=by
  have g:WE T C (.comp false e it .none) ρ σ fun v σ'=>v=.lst [w0,w1,w2,w3]∧σ'=σ:=
    w_compF (.mk hi ⟨it_obj hn,aA (nx_obj hn 0) (aa rfl) (.mk h0 (aA (nx_obj hn 1) (aa rfl) (.mk h1 (aA (nx_obj hn 2) (aa rfl) (.mk h2 (aA (nx_obj hn 3) (aa rfl) (.mk h3 (cB (nx_obj hn 4) ⟨aa rfl,rfl,rfl⟩))))))))⟩)
  exact g.ok.eq
theorem comp2O {e it:XE} {n:Nat} {x0 x1:V} {w0 w1:V} (hi:ae T C it ρ σ=some (.obj n,σ)) (hn:σ[n]?=some (.lst [x0,x1])) (h0:ae T C e (ρ++[x0]) σ=some (w0,σ)) (h1:ae T C e (ρ++[x1]) σ=some (w1,σ)):
    ae T C (.comp false e it .none) ρ σ=some (.lst [w0,w1],σ):=by
  have g:WE T C (.comp false e it .none) ρ σ fun v σ'=>v=.lst [w0,w1]∧σ'=σ:=
    w_compF (.mk hi ⟨it_obj hn,aA (nx_obj hn 0) (aa rfl) (.mk h0 (aA (nx_obj hn 1) (aa rfl) (.mk h1 (cB (nx_obj hn 2) ⟨aa rfl,rfl,rfl⟩))))⟩)
  exact g.ok.eq
theorem w_comp_ifB {elt c:XE} {src:V} {f i:Nat} {acc:List V} {v w:V} {b:Bool} {Q:List V→St→Prop} (hn:a9 src i σ=some (some v)) (hl:acc.length < 1000) (hc:ae T C c (ρ++[v]) σ=some (.bool b,σ)) (he:ae T C elt (ρ++[v]) σ=some (w,σ))
    (h:Comp T C elt (some c) ρ src f (i+1) (acc++if b then [w] else []) σ Q):Comp T C elt (some c) ρ src (f+1) i acc σ Q:=by
  refine w_comp_if hn hl<|.mk hc<|truth_bool ⟨fun e=>.mk he ?_,fun e=>?_⟩
  · clear he hc hl hn v;subst e;exact h
  · clear he hc hl hn v;subst e;rw [if_neg Bool.false_ne_true,List.append_nil] at h;exact h
noncomputable def selV (b:Fin 4→Bool):List V:=[]++(if b 0 then [iN 0] else [])++(if b 1 then [iN 1] else [])++(if b 2 then [iN 2] else [])++(if b 3 then [iN 3] else [])
theorem sel_len (b:Fin 4→Bool):(selV b).length < 1000:=by
  unfold selV
  cases b 0 <;> cases b 1 <;> cases b 2 <;> cases b 3 <;> exact aa rfl
theorem comp4I {e c:XE} {b:Fin 4→Bool} (h:∀ i:Fin 4,ae T C e (ρ++[iN i]) σ=some (iN i,σ)) (hc:∀ i:Fin 4,ae T C c (ρ++[iN i]) σ=some (.bool (b i),σ)):ae T C (.comp false e (.blt .range [.int 4]) (some c)) ρ σ=some (.lst (selV b),σ):=by
  have l1:∀ (x:Bool) (acc:List V) (v:V),(acc++if x then [v] else []).length≤acc.length+1:=fun x acc v=>by cases x <;> simp
  have g:WE T C (.comp false e (.blt .range [.int 4]) (some c)) ρ σ fun v σ'=>v=.lst (selV b)∧σ'=σ:=by
    refine w_compF (.mk rfl ⟨rfl,w_comp_ifB rfl (aa rfl) (hc 0) (h 0)<|w_comp_ifB rfl ?_ (hc 1) (h 1)<|w_comp_ifB rfl ?_ (hc 2) (h 2)<|w_comp_ifB rfl ?_ (hc 3) (h 3)<|cB rfl ⟨sel_len b,rfl,rfl⟩⟩)
    · cases b 0 <;> exact aa rfl
    · cases b 0 <;> cases b 1 <;> exact aa rfl
    · cases b 0 <;> cases b 1 <;> cases b 2 <;> exact aa rfl
  exact g.ok.eq
end
theorem in_log (i:Nat):∀ log:List Nat,inL (iN i) (log.map iN)=some (decide (i∈log))
  | []=>by simp [inL]
  | a :: l=>by
    simp only [List.map_cons,inL,in_log i l,scal,onI,Option.bind_some,Option.map_some,Option.some.injEq]
    rw [Bool.eq_iff_iff]
    simp only [Bool.or_eq_true,beq_iff_eq,decide_eq_true_eq,List.mem_cons]
    constructor
    · rintro (h | h)
      · exact .inl (by lia)
      · exact .inr h
    · rintro (h | h)
      · exact .inl (by lia)
      · exact .inr h
noncomputable def selI (b:Fin 4→Bool):List Int:=(if b 0 then [0] else [])++(if b 1 then [1] else [])++(if b 2 then [2] else [])++(if b 3 then [3] else [])
theorem sel_map (b:Fin 4→Bool):(selI b).map V.int=selV b:=by
  unfold selI selV
  cases b 0 <;> cases b 1 <;> cases b 2 <;> cases b 3 <;> rfl
noncomputable def kI (i:Fin 4):Int:=(i.val:Nat)
theorem sort_fin:∀ kf:List (Fin 4),kf.Nodup→kf.length≤4→sortI (kf.map kI)=selI fun i=>decide (i∈kf)
  | [],_,_=>by decide
  | [a],_,_=>(by decide +kernel:∀ a:Fin 4,sortI ([a].map kI)=selI fun i=>decide (i∈[a])) a
  | [a,b],h,_=>(by decide +kernel:∀ a b:Fin 4,[a,b].Nodup→sortI ([a,b].map kI)=selI fun i=>decide (i∈[a,b])) a b h
  | [a,b,c],h,_=>(by decide +kernel:∀ a b c:Fin 4,[a,b,c].Nodup→sortI ([a,b,c].map kI)=selI fun i=>decide (i∈[a,b,c])) a b c h
  | [a,b,c,d],h,_=>(by decide +kernel:∀ a b c d:Fin 4,[a,b,c,d].Nodup→sortI ([a,b,c,d].map kI)=selI fun i=>decide (i∈[a,b,c,d])) a b c d h
  | _ :: _ :: _ :: _ :: _ :: _,_,h=>by simp only [List.length_cons] at h;lia
theorem to_fin:∀ l:List Int,(∀ k∈l,0≤k∧k < 4)→∃ kf:List (Fin 4),l=kf.map kI
  | [],_=>⟨[],rfl⟩
  | k :: l,h=>by
    refine aN (to_fin l fun j hj=>h j (List.mem_cons_of_mem _ hj)) fun kf e=>?_
    have:=h k List.mem_cons_self
    exact ⟨⟨k.toNat,by lia⟩ :: kf,by refine ag List.map_cons (cw e ?_);congr 1;show k=((k.toNat:Nat):Int);lia⟩
theorem keys_sorted {d:List (Int×V)} {log:List Nat} (h:Keys d) (hm:∀ k:Nat,(k:Int)∈d.map (·.1) ↔ k∈log):(sortI (d.map (·.1))).map V.int=selV fun i=>decide (i.val∈log):=by
  refine aN (to_fin _ h.lt) fun kf e=>?_
  have hl:kf.length≤4:=by have:=h.len;have:=congrArg List.length e;simp only [List.length_map] at this;exact lZ (aZ (by assumption) (Nat.le_of_eq this.symm))
  have nd:kf.Nodup:=by
    have:=h.nd
    rw [e] at this
    exact (List.pairwise_map.mp this).imp fun h e=>h (by exact ag e rfl)
  refine ag (e ..) (ag (sort_fin kf nd hl ..) (ag (sel_map ..) ?_))
  congr 1
  funext i
  rw [decide_eq_decide,← hm i.val,e]
  constructor
  · intro q;exact List.mem_map.mpr ⟨i,q,rfl⟩
  · intro q
    refine aq (List.mem_map.mp q) fun j hj hi=>?_
    have:j=i:=Fin.ext (by simp only [kI] at hi;lia)
    exact this▸hj
theorem sel_plain (b:Fin 4→Bool):plain 4 (.lst (selV b))=true:=by
  unfold selV
  cases b 0 <;> cases b 1 <;> cases b 2 <;> cases b 3 <;> rfl
end
section
open PySem
theorem vec_plain (l:List Vc):plain 4 (.lst (l.map Vc.v))=true:=by
  show (l.map Vc.v).all (plain 3)=true
  rw [List.all_map,List.all_eq_true]
  intro u _
  rfl
theorem vec4_plain (a b c d:Vc):plain 4 (.lst [a.v,b.v,c.v,d.v])=true:=vec_plain [a,b,c,d]
theorem vec2_plain (a b:Vc):plain 4 (.lst [a.v,b.v])=true:=vec_plain [a,b]
section
variable {T:Tab} (hT:bz bE T)
include hT
theorem law_tail {n:Nat} (hn:4≤n) {fns:Fin 2→Fn} {H:Hd} {q:Qd} {τ:St} {fr fr2:Nat} {l:LL} {s:PS} (m:MR fns H τ fr l s 0) (qr:QR fns q τ fr2 l s) (hlog:s.log.length≤900)
    {z0 z1 z2 z3 z4 z5 z6 z7 z8 z9 z11 z12 z13:V}:
    WS T (ab T n) (x_law2.drop 8) [z0,z1,z2,z3,z4,z5,z6,z7,z8,z9,.obj H.st,z11,z12,z13,.obj H.ctx,.none,.obj q.sg,.obj fr2,.obj q.told] τ (fun fl ρ σ'=>fl=.ret (.bool true)):=by
  obtain ⟨ρ,hρ⟩:∃ ρ,ρ=[z0,z1,z2,z3,z4,z5,z6,z7,z8,z9,.obj H.st,z11,z12,z13,.obj H.ctx,.none,.obj q.sg,.obj fr2,.obj q.told]:=⟨_,rfl⟩
  have told:bk τ (.obj q.told)=some (iN s.n :: s.log.map iN):=by simp only [bk,qr.told]
  have ctx:∀ {x:List V},ae T (ab T n) (.loc 14) (ρ++x) τ=some (.obj H.ctx,τ):=fun {x}=>by rw [hρ];rfl
  have e8:ae T (ab T n) (.or [.cmp .isn (.loc 15) (.none),.cmp .ne (.attr (.loc 14) 16) (.int 0),.cmp .ne (.attr (.loc 14) 15) (.bin .sub (.int 5000) (.idx (.loc 18) (.int 0)))]) ρ τ=some (.bool false,τ):=by
    rw [hρ]
    refine WE.ok (w_or (Q:=fun v σ=>v=.bool false∧σ=τ)<|w_or2<|.mk rfl<|.mk rfl<|ct rfl<|w_or2<|bT<|.mk (bK rfl m.ctx (av hT rfl) rfl)<|.mk rfl<|c_nei<|truth_bool<|ct rfl<|w_or1<|bT<|.mk (bK rfl m.ctx (av hT rfl) rfl)<|dt<|.mk rfl<|.mk (dw rfl rfl told rfl rfl)<|b_sub<|c_nei ⟨?_,rfl⟩) |>.eq
    rw [beq_self_eq_true];rfl
  have e9:ae T (ab T n) (.cmp .ne (.comp false (.aV (.loc 10) 2 [.loc 19]) (.blt .range [.int 4]) .none) (.comp false (.call 119 [.loc 19]) (.loc 16) .none)) ρ τ=some (.bool false,τ):=by
    rw [hρ]
    have a:=comp4R (T:=T) (C:=ab T n) (ρ:=[z0,z1,z2,z3,z4,z5,z6,z7,z8,z9,.obj H.st,z11,z12,z13,.obj H.ctx,.none,.obj q.sg,.obj fr2,.obj q.told]) (σ:=τ) (e:=.aV (.loc 10) 2 [.loc 19]) (w:=fun i=>(s.sg i).v) fun i=>dj rfl m.S.st rfl (b8 hT rfl) (evs1 rfl) (get_ok hT m.S i (lZ hn))
    have b:=comp4O (T:=T) (C:=ab T n) (ρ:=[z0,z1,z2,z3,z4,z5,z6,z7,z8,z9,.obj H.st,z11,z12,z13,.obj H.ctx,.none,.obj q.sg,.obj fr2,.obj q.told]) (σ:=τ) (e:=.call 119 [.loc 19]) (it:=.loc 16) rfl qr.sg (cv rfl (lvec_ok hT (lZ hn))) (cv rfl (lvec_ok hT (lZ hn))) (cv rfl (lvec_ok hT (lZ hn))) (cv rfl (lvec_ok hT (lZ hn)))
    exact WE.ok (bT (Q:=fun v σ=>v=.bool false∧σ=τ)<|.mk a<|.mk b<|.mk (ne_self (vec4_plain _ _ _ _) rfl rfl) ⟨rfl,rfl⟩) |>.eq
  have e10:ae T (ab T n) (.cmp .ne (.attr (.loc 14) 4) (.comp false (.call 119 [.loc 19]) (.loc 17) .none)) ρ τ=some (.bool false,τ):=by
    rw [hρ]
    have b:=comp2O (T:=T) (C:=ab T n) (ρ:=[z0,z1,z2,z3,z4,z5,z6,z7,z8,z9,.obj H.st,z11,z12,z13,.obj H.ctx,.none,.obj q.sg,.obj fr2,.obj q.told]) (σ:=τ) (e:=.call 119 [.loc 19]) (it:=.loc 17) rfl qr.fr (cv rfl (lvec_ok hT (lZ hn))) (cv rfl (lvec_ok hT (lZ hn)))
    have hx:bF τ (.obj fr)=.lst [l.1.v,l.2.v]:=by simp only [bF,m.fr]
    exact WE.ok (bT (Q:=fun v σ=>v=.bool false∧σ=τ)<|.mk (bK rfl m.ctx (av hT rfl) rfl)<|.mk b<|.mk (ne_self (vec2_plain _ _) hx rfl) ⟨rfl,rfl⟩) |>.eq
  refine ay m.wr fun d hd kd hm=>?_
  have e11:ae T (ab T n) (.cmp .eq (.blt .sorted [.attr (.loc 14) 17]) (.comp false (.loc 19) (.blt .range [.int 4]) (some (.cmp .isin (.loc 19) (.sliceFrom false (.loc 18) 1))))) ρ τ=some (.bool true,τ):=by
    rw [hρ]
    have a:ae T (ab T n) (.blt .sorted [.attr (.loc 14) 17]) [z0,z1,z2,z3,z4,z5,z6,z7,z8,z9,.obj H.st,z11,z12,z13,.obj H.ctx,.none,.obj q.sg,.obj fr2,.obj q.told] τ=some (.lst (selV fun i=>decide (i.val∈s.log)),τ):=by
      refine WE.ok (w_blt (Q:=fun v σ=>v=.lst (selV fun i=>decide (i.val∈s.log))∧σ=τ)<|.mk (evs1 (bK rfl m.ctx (av hT rfl) rfl))<|.mk (v:=.lst (selV fun i=>decide (i.val∈s.log))) (σ':=τ) ?_ ⟨rfl,rfl⟩) |>.eq
      simp only [bltV,v1,onO,sortB,List.isEmpty,if_true,hd]
      exact ag (if_pos (by have:=kd.len;exact lZ this)) (ag (keys_sorted kd hm) rfl)
    have b:=comp4I (T:=T) (C:=ab T n) (ρ:=[z0,z1,z2,z3,z4,z5,z6,z7,z8,z9,.obj H.st,z11,z12,z13,.obj H.ctx,.none,.obj q.sg,.obj fr2,.obj q.told]) (σ:=τ) (e:=.loc 19) (c:=.cmp .isin (.loc 19) (.sliceFrom false (.loc 18) 1)) (b:=fun i=>decide (i.val∈s.log)) (fun i=>rfl) fun i=>by
      refine WE.ok (bT (Q:=fun v σ=>v=.bool (decide (i.val∈s.log))∧σ=τ)<|.mk rfl<|w_sliceFromF<|.mk (v:=.obj q.told) (σ':=τ) rfl ⟨nofun,.mk told ⟨?_,.mk (w:=decide (i.val∈s.log)) ?_ ⟨rfl,rfl⟩⟩⟩) |>.eq
      · simp only [List.length_cons,List.length_map];exact lZ hlog
      · exact in_log i.val s.log
    have c:cmpV τ .eq (.lst (selV fun i=>decide (i.val∈s.log))) (.lst (selV fun i=>decide (i.val∈s.log)))=some true:=eq_self (sel_plain _)
    exact WE.ok (bT (Q:=fun v σ=>v=.bool true∧σ=τ)<|.mk a<|.mk b<|.mk c ⟨rfl,rfl⟩) |>.eq
  rw [hρ] at e8 e9 e10 e11
  exact s_false e8<|s_false e9<|s_false e10<|au e11 rfl
end
theorem fix_ok:fixD.ok 2∧fixD.cost ccN≤20∧fixD.h hcN≤64∧fixD.dep≤2:=by
  have z:(0:Fin 2).val < 2:=by decide
  exact ⟨⟨⟨trivial,trivial⟩,⟨⟨⟨trivial,z,trivial⟩,fun zz=>trivial⟩,trivial,trivial⟩,trivial,trivial,trivial,⟨z,trivial⟩,z,trivial⟩,by decide,by decide,by decide⟩
end
section
open PySem
theorem lt_of {σ:St} {a:Nat} {o:AO} (h:σ[a]?=some o):a < σ.length:=(List.getElem?_eq_some_iff.mp h).1
theorem get_len1 (σ:St) (x y:AO) (τ:St):(σ++x :: y :: τ)[σ.length+1]?=some y:=by simp
noncomputable def sgA (sg:Fin 4→Vc) (l:LL):List V:=[(sg 0).r,(sg 1).r,(sg 2).r,(sg 3).r,l.1.r,l.2.r]
noncomputable def sgB (sg:Fin 4→Vc):List V:=[(sg 0).r,(sg 1).r,(sg 2).r,(sg 3).r]
noncomputable def sgV (l:LL):List V:=[l.1.v,l.2.v]
section
variable {T:Tab} (hT:bz bE T)
include hT
theorem law2_w {fns:Fin 2→Fn} {H:Hd} {sg:Fin 4→Vc} {l:LL} {a b:DS} {w s:V} {sc:List Int} {σ1:St} (h900:T.fn 900=some (a0 (.lst [.obj (H.t 0),.obj (H.t 1)]))) (hgl:T.gl 0=.int 24)
    (L:L1 fns H sg l σ1) (hf:FnsFit fns) (fa:a.fit 2) (fb:b.fit 2) {n:Nat} (hn:140≤n):
    WS T (ab T n) x_law2 ((rho1 sc H a b w s).set 12 (.fn 900)) σ1 (fun fl ρ σ'=>fl=.ret (.bool true)):=by
  refine E0A4 (fit2 fa) fun a1 a2 a3 a4=>?_
  refine E0A4 (fit2 fb) fun b1 b2 b3 b4=>?_
  obtain ⟨c1,c2,c3,c4⟩:=fix_ok
  obtain ⟨st,hst⟩:∃ st,st=DS.blk3 fixD a b:=⟨_,rfl⟩
  have ok:st.ok 2:=by refine ag hst ?_;exact ⟨c1,a1,b1⟩
  have cost:st.cost ccN≤519:=by refine ag hst ?_;simp only [yk3];exact lZ (aZ a2 (aZ b2 c2))
  have hh:st.h hcN≤68:=by refine ag hst ?_;simp only [yg3];exact gRZ (lZ c3) (gRZ (lZ a3) (lZ b3))
  have dep:st.dep < 64:=by refine ag hst ?_;simp only [yd3];lia
  have e0:=thread_ok hT (n:=n) (σ:=σ1) (a:=0) (c:=0) (p:=0) (s:=59) (lZ hn)
  refine ar<|w_new (init_ok hT rfl)<|.mk rfl<|.mk e0 ⟨rfl,aa rfl,?_⟩
  refine bf (v:=.fn 900) rfl rfl (av hT rfl) (aa rfl) ?_
  obtain ⟨fs,hfs⟩:∃ fs,fs=putF 18 (.fn 900) (thF (.int 0) (.lst []) (.int 0) (.lst []) (.str 59) (σ1.length+1)):=⟨_,rfl⟩
  have g18:cn 18 fs=some (.fn 900):=by refine ag hfs ?_;rfl
  refine cw hfs ?_
  obtain ⟨σ2,h2⟩:∃ σ2,σ2=σ1++[.inst 7 fs,.cN []]:=⟨_,rfl⟩
  have ds2:σ2[σ1.length]?=some (.inst 7 fs):=by refine ag h2 ?_;exact get_len _ _ _
  have k2:Kp [] σ1 σ2:=by refine ag h2 ?_;exact .app _ _ _
  refine cw h2 ?_
  have r2:σ2[1]?=some (.lst (sgA sg l)):=k2.2 _ _ nofun L.rows
  have sr2:bk σ2 (.obj 1)=some (sgA sg l):=by simp only [bk,r2]
  have e1:=context_ok hT (n:=n) (σ:=σ2++[.lst (sgV l)]) (d:=σ1.length) (s:=H.st) (f:=σ2.length) (fu:=5000) (lZ hn)
  refine ar<|w_new (init_ok hT rfl)<|af<|.mk rfl<|af<|.mk rfl<|af<|w_lstT<|af<|.mk (cv (evs1 (dw rfl rfl sr2 rfl rfl)) (lvec_ok hT (lZ hn)))<|af<|.mk (cv (evs1 (dw rfl rfl sr2 rfl rfl)) (lvec_ok hT (lZ hn)))<|aP ⟨aa rfl,.mk rfl<|.mk e1 ⟨rfl,aa rfl,?_⟩⟩
  let H2:Hd:=⟨(σ2++[AO.lst (sgV l)]).length,H.st,H.vals,(σ2++[AO.lst (sgV l)]).length+1,H.mem,σ1.length,H.g,H.t⟩
  have m3:MR fns H2 (σ2++[.lst (sgV l)]++[.inst 5 (ctxF H2 σ2.length 0 0),.cN []]) σ2.length l ⟨sg,[],0⟩ 0:=by
    have k3:Kp [] σ1 (σ2++[.lst (sgV l)]++[.inst 5 (ctxF H2 σ2.length 0 0),.cN []]):=(k2.trans (.app _ _ _)).trans (.app _ _ _)
    refine ⟨?_,get_len _ _ _,⟨fs,aB (aB ds2),g18⟩,L.th.kp k3 nofun,aB bR,⟨[],?_,.nil,fun k=>⟨nofun,nofun⟩⟩,?_⟩
    · have S:=L.S.kp k3 nofun nofun nofun
      exact ⟨S.st,S.sig,S.vals⟩
    · exact get_len1 _ _ _ _
    · refine aq L.S.vals fun d hd zz=>?_
      have:=lt_of hd
      have:=k2.1
      show H.vals≠(σ2++[AO.lst (sgV l)]).length+1
      refine ag List.length_append ?_;lia
  obtain ⟨σ3,h3⟩:∃ σ3,σ3=σ2++[.lst (sgV l)]++[.inst 5 (ctxF H2 σ2.length 0 0),.cN []]:=⟨_,rfl⟩
  have r3:σ3[1]?=some (.lst (sgA sg l)):=by refine ag h3 ?_;exact aB (aB r2)
  replace m3:=(Eq.symm h3)▸m3
  have h3':σ2++[.lst (sgV l)]++[AO.inst 5 [(3,.obj H.st),(4,.obj σ2.length),(13,.int 0),(14,.obj σ1.length),(15,.int 5000),(16,.int 0),(17,.obj ((σ2++[AO.lst (sgV l)]).length+1))],.cN []]=σ3:=by refine ag h3 ?_;rfl
  refine ag h3' ?_
  refine ay (st_ok hT (x:=⟨fns,H2,calM fns,ccN,hcN⟩) (c:=2) (calOk2 hf hT h900 hgl) (gd2 hf) st ok dep σ3 σ2.length l ⟨sg,[],0⟩ 0 m3 (by show 0+st.cost ccN≤4900;exact lZ cost) (by decide) n (by show st.h hcN+2≤n;exact lZ (aZ hn hh))) fun σ4 e4 m4 k4=>?_
  have gd:=cG (gd2 hf) st ok l ⟨sg,[],0⟩
  obtain ⟨l',hl'⟩:∃ x,x=(ex (calM fns) st l ⟨sg,[],0⟩).1:=⟨_,rfl⟩
  obtain ⟨s',hs'⟩:∃ x,x=(ex (calM fns) st l ⟨sg,[],0⟩).2:=⟨_,rfl⟩
  have m4':MR fns H2 σ4 σ2.length l' s' 0:=by refine ag hl' (ag hs' ?_);exact m4
  replace gd:=(Eq.symm hs')▸gd
  have r4:σ4[1]?=some (.lst (sgA sg l)):=by
    refine k4.2 1 _ ?_ r3
    refine aq m3.S.vals fun d hd zz=>?_
    refine aq m3.wr fun d' hd' zz=>?_
    have n2:σ2.length≠1:=by have:=lt_of r2;exact Nat.ne_of_gt (lZ this)
    simp only [List.mem_cons,List.not_mem_nil,or_false,not_or]
    exact ⟨cy r3 m3.ctx rfl,cy r3 hd rfl,cy r3 hd' rfl,n2.symm⟩
  refine ar<|.mk (cv (bB (aC (v:=st.v) (hst▸rfl) st.cb) rfl) e4) ⟨aa rfl,?_⟩
  refine ar<|w_sliceToT<|.mk (v:=.obj 1) (σ':=σ4) rfl ⟨nofun,.mk (w:=(sgA sg l)) (by simp only [bk,r4]) ⟨aa rfl,aa rfl,?_⟩⟩
  have r5:(σ4++[AO.lst (sgB sg)])[1]?=some (.lst (sgA sg l)):=aB r4
  refine ar<|w_sliceFromT<|.mk (v:=.obj 1) (σ':=σ4++[AO.lst (sgB sg)]) rfl ⟨nofun,.mk (w:=(sgA sg l)) (by simp only [bk,r5]) ⟨aa rfl,aa rfl,?_⟩⟩
  refine ar<|.mk rfl ⟨aa rfl,?_⟩
  obtain ⟨σ5,h5⟩:∃ σ5,σ5=σ4++[AO.lst (sgB sg)]++[AO.lst [l.1.r,l.2.r]]++[AO.lst [.int 0]]:=⟨_,rfl⟩
  have h5':σ4++[AO.lst (sgB sg)]++[AO.lst (List.drop 4 (sgA sg l))]++[AO.lst [.int 0]]=σ5:=by refine ag h5 ?_;rfl
  let q:Qd:=⟨σ4.length,(σ4++[AO.lst (sgB sg)]++[AO.lst [l.1.r,l.2.r]]).length,H.t⟩
  have m5:MR fns H2 σ5 σ2.length l' s' 0:=by refine ag h5 ?_;exact ((m4'.app _).app _).app _
  have q5:QR fns q σ5 (σ4++[AO.lst (sgB sg)]).length l ⟨sg,[],0⟩:=by
    refine ⟨?_,?_,?_,?_,?_,fun k=>?_,?_⟩
    · show σ4.length≠(σ4++[AO.lst _]).length;simp
    · show (σ4++[AO.lst _]++[AO.lst _]).length≠(σ4++[AO.lst _]).length;simp
    · refine ag h5 ?_;exact aB (aB bR)
    · refine ag h5 ?_;exact aB bR
    · refine ag h5 ?_;exact bR
    · refine E1A4 (m5.th k) fun fs e x1 x2 x3=>?_
      exact ⟨fs,e,x1,x3⟩
    · show σ4.length≠(σ4++[AO.lst _]++[AO.lst _]).length;simp
  refine ag h5' ?_
  refine ay (dF hT (x:=⟨fns,q,calM fns,ccN,hcN⟩) (c:=2) (qcal2 hf hT) (gd2 hf) st ok σ5 (σ4++[AO.lst (sgB sg)]).length l ⟨sg,[],0⟩ q5 (by show (0:Nat)≤0+1;exact l0Z) (by show 0+st.cost ccN≤900;exact lZ cost) n (by show 2*st.h hcN+4≤n;exact lZ (aZ hn (aZ hh hh)))) fun σ6 e6 q6 k6=>?_
  have q6':QR fns q σ6 (σ4++[AO.lst (sgB sg)]).length l' s':=by refine ag hl' (ag hs' ?_);exact q6
  have off:∀ {a:Nat} {o:AO},σ4[a]?=some o→a∉XM3 q (σ4++[AO.lst (sgB sg)]).length:=fun {a o} h=>by
    have:=lt_of h
    simp only [List.mem_cons,List.not_mem_nil,or_false,not_or]
    refine ⟨?_,?_,?_⟩
    · show a≠σ4.length;exact Nat.ne_of_lt (lZ this)
    · show a≠(σ4++[AO.lst _]++[AO.lst _]).length;simp only [List.length_append];exact Nat.ne_of_lt (lZ this)
    · simp only [List.length_append];exact Nat.ne_of_lt (lZ this)
  have m6:MR fns H2 σ6 σ2.length l' s' 0:=by
    refine aq m4'.S.vals fun d hd zz=>?_
    refine aq m4'.wr fun d' hd' zz=>?_
    refine aq m4'.ds fun d3 hd3 zz=>?_
    exact m5.kp k6 (off m4'.S.st) (fun i=>(m4'.S.sig i).elim fun _ e=>off e.1) (off hd) (off m4'.ctx) (off hd3) (fun i=>(m4'.th i).elim fun _ e=>off e.1) (off hd') (k6.2 _ _ (off m4'.fr) m5.fr)
  refine bH<|.mk (cv (cQ (aC (v:=st.v) (hst▸rfl) st.cb) rfl rfl rfl rfl) e6) ⟨.inl rfl,?_⟩
  have hlog:s'.log.length≤900:=by
    have:=gd.log;have:=gd.n
    have e0:(⟨sg,[],0⟩:PS).log.length=0:=rfl
    have e1:(⟨sg,[],0⟩:PS).n=0:=rfl
    have e2:st.cost ccN≤519:=cost
    lia
  exact law_tail hT (lZ hn) m6 q6' hlog
end
theorem law_plain {n:Nat} (hn:140≤n) {sc:List Int} (h:sc.length≤63):∃ ρ1 ρ2 σ1 σ2 t0 t1,aE bE (ab bE n) x_law1 (.lst (sc.map .int) :: List.replicate 18 .ai) []=some (.aL,ρ1,σ1)∧bU ρ1 5=some (.lst [.obj t0,.obj t1])∧
    aE (tab2 (.lst [.obj t0,.obj t1])) (ab (tab2 (.lst [.obj t0,.obj t1])) n) x_law2 (ρ1.set 12 (.fn 900)) σ1=some (.ret (.bool true),ρ2,σ2):=by
  have k:=(law1_w tab11 (n:=n) h (lZ hn) (Q:=fun fl ρ1 σ1=>fl=.aL∧∃ ρ2 σ2 t0 t1,bU ρ1 5=some (.lst [.obj t0,.obj t1])∧aE (tab2 (.lst [.obj t0,.obj t1])) (ab (tab2 (.lst [.obj t0,.obj t1])) n) x_law2 (ρ1.set 12 (.fn 900)) σ1=some (.ret (.bool true),ρ2,σ2)) fun fns H sg l a b w s σ L hf fa fb=>⟨rfl,by
    obtain ⟨fl,ρ2,σ2,e2,rfl⟩:=(law2_w (tab12 (.lst [.obj (H.t 0),.obj (H.t 1)])) (sc:=sc) (w:=w) (s:=s) rfl rfl L hf fa fb hn).ok
    exact ⟨ρ2,σ2,_,_,rfl,e2⟩⟩).ok
  clear hn h
  obtain ⟨fl,ρ1,σ1,e1,rfl,ρ2,σ2,t0,t1,e,e2⟩:=k
  exact ⟨ρ1,ρ2,σ1,σ2,t0,t1,e1,e,e2⟩
end
section
open PySem PySem.W PySem.Calls PyProof.Rows
theorem ints_rep {fa:Nat→Option Addr} {h:Heap} {μ:Mu}:∀ {vs:List Value} {ns:List Int},IntsAre vs ns→aG fa h μ vs (ns.map .int)
  | _,_,.nil=>.nil
  | _,_,.cons n t r=>.cons (.int n t) (ints_rep r)
theorem base_g {h:Heap} (hT:TabsAt [(957,955)] h):BaseOk (ghostOf h [(957,955)]) [] h ⟨[],[955]⟩:=
  ⟨fun a o e=>of_hideAll _ e,(fun a o e hm=>by
    have:a=955:=by simpa [aM] using hm
    rw [this,hideAll_none _ (by decide)] at e;cases e),(fun a hm=>by
    have:a=955:=by simpa [aM] using hm
    refine ag this ?_;decide),[],rfl⟩
set_option tactic.hygienic true in
theorem call_g:WalkO qv lo (fun zz zz=>True) YG PySem.Challenge.rw_sj0065_01.row.toRowW lawD [] fun f vs=>PySem.call f vs:=by
  intro w s₀ s₁ mg mb G Y fa o pm cd doc dV kV ho hd hcd hD hmg hg args vals as hpre hlay hrd hwl hlo
  have KX:=kP_in (live_g w.params) Y
  refine Ground.open G ?_
  intro T B D TE TW
  have hT9:TabsAt [(957,955)] s₁.heap:=List.forall_mem_cons.mpr ⟨⟨codeHd_of_K (c:=957) (P:=955) KX (tabs_g _),Y 955 _ (t955_g _)⟩,fun zz h=>nomatch h⟩
  have he9:cd=PySem.Value.ref 957:=law_code (x:=lawD.name) (c:=957) (P:=955) KX T.g (law_g _) hmg ho hd
  clear TW TE D B hmg Y G;subst he9
  wrow_args hpre hlay hrd hwl hlo
  rename_i zs _ _ _ _ _ _ _ L lv _ hL _ hWl _ hI _ hcond _
  have hlen:zs.length≤63:=by omega
  have h955:=(hT9 (957,955) List.mem_cons_self).2
  have ne:∀ {a:Addr} {p:Obj},s₁.heap.get? a=some p→p≠tabObj #[]→a≠955:=fun {a p} e hn q=>by
    clear hlen hT9 KX hcond hI hWl hL T hg hD hcd hd ho kV dV doc pm o fa mb mg w;subst q;replace e:=h955▸e;exact hn (Option.some.inj e).symm
  have gh:∀ {a:Addr} {p:Obj},s₁.heap.get? a=some p→p≠tabObj #[]→(ghostOf s₁.heap [(957,955)]).get? a=some p:=fun e hn=>ghost_get hT9 e hn
  refine enter_call ?_
  refine kn_post hT9 (fun zz zz=>rfl) ?_
  have dW:(KP w.params).In (ghostOf s₁.heap [(957,955)]):=fun a p e=>ghost_ne (KX a p e) (by have:=numF_ne _ _ e;simpa using this)
  have g:=ghost_ns hT9 T.g
  have b:=ghost_ns hT9 T.b
  have lim:(ghostOf s₁.heap [(957,955)]).NoLimit:=aq T.nolimit fun mc a r=>(aI mc (ghost_ns hT9 a) r)
  have bmain:∃ bm ob,mg "__builtins__" = some (.ref bm)∧bm≠builtinsNs∧(ghostOf s₁.heap [(957,955)]).get? bm=some ob∧ob.cls=.type "module" ∧ ob.dict=some builtinsNs∧ob.data=.plain:=
    let ⟨bm,ob,q1,q2,q3,q4,q5,q6⟩:=T.bmain
    (I2A6 bm ob q1 q2 (gh q3 (fun q=>by replace q4:=q▸q4;clear lim b g dW gh ne h955 hlen hT9 KX q3 q2 q1 bm hcond hI hWl hL T hg hD hcd hd ho kV dV doc pm o fa mb mg w q;cases q4)) q4 q5 q6)
  have hdV:dV=.none:=by
    clear bmain lim b g dW gh ne h955 hlen hT9 KX hcond hI hWl hL T hg hcd hd ho doc pm o fa mb w;rcases hD.pos with q | q
    · exact q.2
    · exact absurd dfl_g q.1
  clear KX hcond hD;obtain ⟨c1,hc1⟩:∃ c1,c1=mkCx pw w (KP w.params) (ghostOf s₁.heap [(957,955)]) [] mg mb bE faTab tabs1 (fun zz zz h=>h) dW g b lim T.builtins (allK_g _):=⟨_,rfl⟩
  have hh0:c1.h0=ghostOf s₁.heap [(957,955)]:=by refine ag hc1 ?_;rfl
  have hcp:c1.prog=pw:=by refine ag hc1 ?_;rfl
  have hcw:c1.w=w:=by refine ag hc1 ?_;rfl
  have hr:c1.Rel s₁.heap ⟨[],[955]⟩ []:=by
    refine ⟨by refine ag hh0 (ag hc1 ?_);exact base_g hT9,rfl,by simp [aM],fun a hm=>?_,fun i p o e=>nomatch e⟩
    have:a=955:=by simpa using hm
    clear hcw hcp hh0 hdV bmain gh ne hlen hT9 hc1 c1 hI hWl hL T hg hcd hd ho kV dV doc pm fa o hm;subst this;exact ⟨_,h955⟩
  have hLne:L≠955:=by
    refine ay hL fun p e hc zz=>?_
    clear hL
    exact ne e fun q=>by replace hc:=q▸hc;clear hr hcw hcp hh0 hdV bmain gh ne h955 hlen hT9 hc1 c1 hI hWl T hg hcd hd ho kV dV doc pm fa o q e zz;cases hc
  refine E6A3 (law_plain (n:=140) (Nat.le_refl _) hlen) fun ρ1 ρ2 σ1 σ2 t0 t1 run1 hfs run2=>?_
  have rep:aG c1.fa s₁.heap ⟨[],[955]⟩ [.ref L] [V.lst (zs.map .int)]:=by
    clear hr hcw hcp hh0 hdV bmain gh ne h955 hlen hT9 hc1 T hg hcd hd ho kV dV doc pm fa run2 hfs run1 t1 t0 σ2 σ1 ρ2 ρ1 o;obtain ⟨p,e,hp,n,hdt⟩:=hL
    have hw:∃ vs:List Value,s₁.heap.get? L=some { cls:=.type "list",data:=.seq vs.toArray }:=by
      have hW2:Well w.params s₁.heap (.ref L) (.list (ofPys (List.map PyData.int zs))):=by
        have e9:ofPy (PyData.list (List.map PyData.int zs))=.list (ofPys (List.map PyData.int zs)):=by simp only [ofPy]
        refine cw e9 ?_;exact hWl
      clear hLne lim g dW hdt n hp c1 hI hWl mg e p;cases hW2 with
      | list a b=>exact ⟨_,a⟩
    refine aN hw fun vs hw=>?_
    rename_i zz;clear zz
    replace hw:=e▸hw
    clear lim b g dW hp hWl mb mg w;cases hw
    have hv:vs=lv:=by
      have:vs.toArray=lv.toArray:=by
        have:=hdt
        simp only [Data.seq.injEq] at this
        exact this.1
      simpa using this
    clear hdt n;subst hv
    exact .cons (.lst (e:=0) e (by simpa [aM] using hLne) (ints_rep hI)) .nil
  have hdef:=hcd
  refine E4A4 hcd fun c' oc vs' t' hc' hoc hdc hvc=>?_
  clear hcd
  clear hdef hLne ne hlen hI hWl hL;cases hc'
  have hcd':c1.h0.CodeRec (.ref 957) lawD.name:=⟨957,oc,vs',t',rfl,by refine ag hh0 ?_;exact ghost_ne hoc (by decide),hdc,hvc⟩
  show codeAny (model pw w) callerA _ _ _
  refine cw hcp (cw hcw ?_)
  refine fn_enter (c:=c1) (np:=1) (bG:=19) (slots:=lawSl) (body:=lawD.body) (by refine ag hh0 ?_;exact gh ho (fun q=>by replace hd:=q▸hd;clear hh0 gh ho fa hvc hdc hoc t' vs' oc q;cases hd)) hd rfl (ent_g _ _ _ _) rfl (fun p hp=>by
    have h9:=List.all_eq_true.mp free_g p hp
    show lawD.scope.names.lookup p.1≠some .free
    simpa using h9) (.inl hdV) hcd' (by decide) hr rep rfl fun env h1 bh keep zat r1 ecode zz E=>?_
  refine ag body_g ?_
  have rm:Room (callerA.deeper env) (4*140+5) (16*140+213):=⟨rfl,by show 1+claimMargin+1+_≤_;decide,by show 4+3+_≤_;decide⟩
  refine ag hcp (ag hcw ?_)
  refine law_walk dW g b lim T.builtins (allK_g _) bmain rm (s:={ s₁ with heap:=h1,toks:=bh }) hc1 r1 (show At c1 k1 env h1 ⟨[],[955]⟩ (V.lst (zs.map .int) :: List.replicate 18 .ai) from zat) (keep _ _ h955) ecode (ghost_code hT9).1 rfl ck1_g ck2_g ckR_g hd0_g hk0_g (ha_g env) hF1_g hF2_g hsc_g hck_g hnc_g hyf_g (of_decide_eq_true hyp_g) run1 hfs rfl run2 fun h' tk k0 hP=>?_
  refine ⟨⟨.inl (I3A5 (.bool true) (.bool true) ([]) rfl (fun zz=>rfl) (.bool true) ?_ (fun zz=>⟨.nil,nofun⟩)),k0,rfl,hg⟩,hP,trivial⟩
  kernel_rfl
end
end Mine
open PySem PySem.W PyProof.Rows
theorem PySem.Challenge.cw_sj0065_01_holds : PySem.Challenge.rw_sj0065_01.Holds := by
  exact Mine.holds_of Mine.call_g
