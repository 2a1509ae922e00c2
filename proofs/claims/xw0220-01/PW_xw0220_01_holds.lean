import PyProof.Rows.All
import KE.KLam
import KE.KIsAll
import KE.KPairTest
import KE.KRevSl
import KE.KPairComp
import KE.KNest
import OpenK.XOpen
import OpenK.KMake
import OpenK.KGet
import OpenK.KMore
import OpenK.KCls
import OpenK.KCell
import OpenK.KCall
import OpenK.KWalk
import OpenK.Peek
import OpenK.ZHead
import Open.FastT9
import Open.FastRun
import Open.FastLooks
import Open.Boot
import Open.Claim
import Open.Line
import Open.Row
import Open.Tree
import Wide.Ends
import ObjForm.Claim3
import PySem.Challenge.RW_xw0220_01
set_option Elab.async false
set_option maxRecDepth 100000
set_option linter.all false
set_option genSizeOf false
set_option genInjectivity false
set_option bootstrap.genMatcherCode false
set_option tactic.hygienic false
noncomputable section
section
namespace Mine
section
protected def rf : Lean.Syntax := .node .none `Lean.Parser.Tactic.tacticSeq #[.node .none `Lean.Parser.Tactic.tacticSeq1Indented #[.node .none `null #[.node .none `Lean.Parser.Tactic.tacticRfl #[Lean.mkAtom "rfl"]]]]
protected def inj (l : Array Lean.Syntax) : Lean.Syntax := .node .none `Lean.Parser.Tactic.tacticSeq #[.node .none `Lean.Parser.Tactic.tacticSeq1Indented #[.node .none `null #[.node .none `Lean.Parser.Tactic.intro #[Lean.mkAtom "intro", .node .none `null l], Lean.mkAtom ";", .node .none `Lean.Parser.Tactic.injection #[Lean.mkAtom "injection", .ident .none "h".toRawSubstring `h [], .node .none `null #[]]]]]
protected def nj : Lean.Syntax := Mine.inj #[.ident .none "h".toRawSubstring `h []]
protected def nk : Lean.Syntax := Mine.inj #[.ident .none "o".toRawSubstring `o [], .ident .none "h".toRawSubstring `h []]
theorem orE {a b r : Prop} (k1 : a → r) (k2 : b → r) (h : a ∨ b) : r := h.elim k1 k2
theorem orF {a b r : Prop} (k1 : b → r) (k2 : a → r) (h : a ∨ b) : r := h.elim k2 k1
theorem bE (b : Bool) {r : Prop} (k0 : b = false → r) (k1 : b = true → r) : r := Bool.rec (motive := fun t => b = t → r) k0 k1 b rfl
theorem nJ (b : Bool) {r : Prop} (k1 : b = true → r) (k0 : b = false → r) : r := bE b k0 k1
theorem oE {α : Type} (b : Option α) {r : Prop} (k0 : b = none → r) (k1 : ∀ x, b = some x → r) : r := Option.rec (motive := fun t => b = t → r) k0 k1 b rfl
theorem jZ {α : Type} (b : Option α) {r : Prop} (k1 : ∀ x, b = some x → r) (k0 : b = none → r) : r := oE b k0 k1
@[elab_as_elim] theorem qJ (b : Bool) {motive : Bool → Prop} (k0 : b = false → motive false) (k1 : b = true → motive true) : motive b := bE b (fun h => h ▸ k0 h) (fun h => h ▸ k1 h)
@[elab_as_elim] theorem cZ (b : Bool) {motive : Bool → Prop} (k1 : b = true → motive true) (k0 : b = false → motive false) : motive b := qJ b k0 k1
@[elab_as_elim] theorem gE {α : Type} (b : Option α) {motive : Option α → Prop} (k0 : b = none → motive none) (k1 : ∀ x, b = some x → motive (some x)) : motive b := oE b (fun h => h ▸ k0 h) (fun x h => h ▸ k1 x h)
@[elab_as_elim] theorem gOption10 {α : Type} (b : Option α) {motive : Option α → Prop} (k1 : ∀ x, b = some x → motive (some x)) (k0 : b = none → motive none) : motive b := gE b k0 k1
variable {A B C D E F G H I J K L : Type} {r : Prop}
theorem xdp {p q : Prop} (k : q → r) (h : p ∧ q) : r := k h.2
theorem xpd {p q : Prop} (k : p → r) (h : p ∧ q) : r := k h.1
theorem xpp {p q : Prop} (k : p → q → r) (h : p ∧ q) : r := k h.1 h.2
theorem xvp {p : A → Prop} (k : ∀ a, p a → r) (h : ∃ a, p a) : r := h.elim fun a h0 => k a h0
theorem xddp {p q s : Prop} (k : s → r) (h : p ∧ q ∧ s) : r := k h.2.2
theorem xdpp {p q s : Prop} (k : q → s → r) (h : p ∧ q ∧ s) : r := k h.2.1 h.2.2
theorem xdvp {p : Prop} {q : A → Prop} (k : ∀ a, q a → r) (h : p ∧ ∃ a, q a) : r := h.2.elim fun a h0 => k a h0
theorem xppp {p q s : Prop} (k : p → q → s → r) (h : p ∧ q ∧ s) : r := k h.1 h.2.1 h.2.2
theorem xpvp {p : Prop} {q : A → Prop} (k : p → ∀ a, q a → r) (h : p ∧ ∃ a, q a) : r := h.2.elim fun a h0 => k h.1 a h0
theorem xvdp {p q : A → Prop} (k : ∀ a, q a → r) (h : ∃ a, p a ∧ q a) : r := h.elim fun a h0 => k a h0.2
theorem xvpd {p q : A → Prop} (k : ∀ a, p a → r) (h : ∃ a, p a ∧ q a) : r := h.elim fun a h0 => k a h0.1
theorem aQ {p q : A → Prop} (k : ∀ a, p a → q a → r) (h : ∃ a, p a ∧ q a) : r := h.elim fun a h0 => k a h0.1 h0.2
theorem xvvp {p : A → B → Prop} (k : ∀ a b, p a b → r) (h : ∃ a b, p a b) : r := h.elim fun a h0 => h0.elim fun b h1 => k a b h1
theorem xpppp {p q s t : Prop} (k : p → q → s → t → r) (h : p ∧ q ∧ s ∧ t) : r := k h.1 h.2.1 h.2.2.1 h.2.2.2
theorem xpvpp {p : Prop} {q s : A → Prop} (k : p → ∀ a, q a → s a → r) (h : p ∧ ∃ a, q a ∧ s a) : r := h.2.elim fun a h0 => k h.1 a h0.1 h0.2
theorem xvddp {p q s : A → Prop} (k : ∀ a, s a → r) (h : ∃ a, p a ∧ q a ∧ s a) : r := h.elim fun a h0 => k a h0.2.2
theorem xvppd {p q s : A → Prop} (k : ∀ a, p a → q a → r) (h : ∃ a, p a ∧ q a ∧ s a) : r := h.elim fun a h0 => k a h0.1 h0.2.1
theorem xvppp {p q s : A → Prop} (k : ∀ a, p a → q a → s a → r) (h : ∃ a, p a ∧ q a ∧ s a) : r := h.elim fun a h0 => k a h0.1 h0.2.1 h0.2.2
theorem xvpr0 {p : A → Prop} {T0 : A} (k : p T0 → r) (h : ∃ a, p a ∧ a = T0) : r := h.elim fun a h0 => k (h0.2 ▸ h0.1)
theorem xvvdp {p q : A → B → Prop} (k : ∀ a b, q a b → r) (h : ∃ a b, p a b ∧ q a b) : r := h.elim fun a h0 => h0.elim fun b h1 => k a b h1.2
theorem xvvpd {p q : A → B → Prop} (k : ∀ a b, p a b → r) (h : ∃ a b, p a b ∧ q a b) : r := h.elim fun a h0 => h0.elim fun b h1 => k a b h1.1
theorem xvvpp {p q : A → B → Prop} (k : ∀ a b, p a b → q a b → r) (h : ∃ a b, p a b ∧ q a b) : r := h.elim fun a h0 => h0.elim fun b h1 => k a b h1.1 h1.2
theorem xvvvp {p : A → B → C → Prop} (k : ∀ a b c, p a b c → r) (h : ∃ a b c, p a b c) : r := h.elim fun a h0 => h0.elim fun b h1 => h1.elim fun c h2 => k a b c h2
theorem xdvvpp {p : Prop} {q s : A → B → Prop} (k : ∀ a b, q a b → s a b → r) (h : p ∧ ∃ a b, q a b ∧ s a b) : r := h.2.elim fun a h0 => h0.elim fun b h1 => k a b h1.1 h1.2
theorem xppppp {p q s t u : Prop} (k : p → q → s → t → u → r) (h : p ∧ q ∧ s ∧ t ∧ u) : r := k h.1 h.2.1 h.2.2.1 h.2.2.2.1 h.2.2.2.2
theorem xppvpp {p q : Prop} {s t : A → Prop} (k : p → q → ∀ a, s a → t a → r) (h : p ∧ q ∧ ∃ a, s a ∧ t a) : r := h.2.2.elim fun a h0 => k h.1 h.2.1 a h0.1 h0.2
theorem xppvvp {p q : Prop} {s : A → B → Prop} (k : p → q → ∀ a b, s a b → r) (h : p ∧ q ∧ ∃ a b, s a b) : r := h.2.2.elim fun a h0 => h0.elim fun b h1 => k h.1 h.2.1 a b h1
theorem xpvvpp {p : Prop} {q s : A → B → Prop} (k : p → ∀ a b, q a b → s a b → r) (h : p ∧ ∃ a b, q a b ∧ s a b) : r := h.2.elim fun a h0 => h0.elim fun b h1 => k h.1 a b h1.1 h1.2
theorem xvpddp {p q s t : A → Prop} (k : ∀ a, p a → t a → r) (h : ∃ a, p a ∧ q a ∧ s a ∧ t a) : r := h.elim fun a h0 => k a h0.1 h0.2.2.2
theorem xvpdpd {p q s t : A → Prop} (k : ∀ a, p a → s a → r) (h : ∃ a, p a ∧ q a ∧ s a ∧ t a) : r := h.elim fun a h0 => k a h0.1 h0.2.2.1
theorem xvpppp {p q s t : A → Prop} (k : ∀ a, p a → q a → s a → t a → r) (h : ∃ a, p a ∧ q a ∧ s a ∧ t a) : r := h.elim fun a h0 => k a h0.1 h0.2.1 h0.2.2.1 h0.2.2.2
theorem xvpvpd {p : A → Prop} {q s : A → B → Prop} (k : ∀ a, p a → ∀ b, q a b → r) (h : ∃ a, p a ∧ ∃ b, q a b ∧ s a b) : r := h.elim fun a h0 => h0.2.elim fun b h1 => k a h0.1 b h1.1
theorem xvpvpp {p : A → Prop} {q s : A → B → Prop} (k : ∀ a, p a → ∀ b, q a b → s a b → r) (h : ∃ a, p a ∧ ∃ b, q a b ∧ s a b) : r := h.elim fun a h0 => h0.2.elim fun b h1 => k a h0.1 b h1.1 h1.2
theorem xvpvr0 {p : A → Prop} {T0 : B → A} (k : ∀ b, p (T0 b) → r) (h : ∃ a, p a ∧ ∃ b, a = T0 b) : r := h.elim fun a h0 => h0.2.elim fun b h1 => k b (h1 ▸ h0.1)
theorem xvvdpd {p q s : A → B → Prop} (k : ∀ a b, q a b → r) (h : ∃ a b, p a b ∧ q a b ∧ s a b) : r := h.elim fun a h0 => h0.elim fun b h1 => k a b h1.2.1
theorem xvvdpp {p q s : A → B → Prop} (k : ∀ a b, q a b → s a b → r) (h : ∃ a b, p a b ∧ q a b ∧ s a b) : r := h.elim fun a h0 => h0.elim fun b h1 => k a b h1.2.1 h1.2.2
theorem oQ {p q s : A → B → Prop} (k : ∀ a b, p a b → q a b → s a b → r) (h : ∃ a b, p a b ∧ q a b ∧ s a b) : r := h.elim fun a h0 => h0.elim fun b h1 => k a b h1.1 h1.2.1 h1.2.2
theorem xvvvpd {p q : A → B → C → Prop} (k : ∀ a b c, p a b c → r) (h : ∃ a b c, p a b c ∧ q a b c) : r := h.elim fun a h0 => h0.elim fun b h1 => h1.elim fun c h2 => k a b c h2.1
theorem xvvvvp {p : A → B → C → D → Prop} (k : ∀ a b c d, p a b c d → r) (h : ∃ a b c d, p a b c d) : r := h.elim fun a h0 => h0.elim fun b h1 => h1.elim fun c h2 => h2.elim fun d h3 => k a b c d h3
theorem xddvvpd {p q : Prop} {s t : A → B → Prop} (k : ∀ a b, s a b → r) (h : p ∧ q ∧ ∃ a b, s a b ∧ t a b) : r := h.2.2.elim fun a h0 => h0.elim fun b h1 => k a b h1.1
theorem xdvvppp {p : Prop} {q s t : A → B → Prop} (k : ∀ a b, q a b → s a b → t a b → r) (h : p ∧ ∃ a b, q a b ∧ s a b ∧ t a b) : r := h.2.elim fun a h0 => h0.elim fun b h1 => k a b h1.1 h1.2.1 h1.2.2
theorem xpppppp {p q s t u v : Prop} (k : p → q → s → t → u → v → r) (h : p ∧ q ∧ s ∧ t ∧ u ∧ v) : r := k h.1 h.2.1 h.2.2.1 h.2.2.2.1 h.2.2.2.2.1 h.2.2.2.2.2
theorem xpvvppp {p : Prop} {q s t : A → B → Prop} (k : p → ∀ a b, q a b → s a b → t a b → r) (h : p ∧ ∃ a b, q a b ∧ s a b ∧ t a b) : r := h.2.elim fun a h0 => h0.elim fun b h1 => k h.1 a b h1.1 h1.2.1 h1.2.2
theorem xvpvppp {p : A → Prop} {q s t : A → B → Prop} (k : ∀ a, p a → ∀ b, q a b → s a b → t a b → r) (h : ∃ a, p a ∧ ∃ b, q a b ∧ s a b ∧ t a b) : r := h.elim fun a h0 => h0.2.elim fun b h1 => k a h0.1 b h1.1 h1.2.1 h1.2.2
theorem xvpvpr0 {p : A → Prop} {q : A → B → Prop} {T0 : B → A} (k : ∀ b, p (T0 b) → q (T0 b) b → r) (h : ∃ a, p a ∧ ∃ b, q a b ∧ a = T0 b) : r := h.elim fun a h0 => h0.2.elim fun b h1 => k b (h1.2 ▸ h0.1) (h1.2 ▸ h1.1)
theorem xvpvr0d {p : A → Prop} {T0 : B → A} {q : A → B → Prop} (k : ∀ b, p (T0 b) → r) (h : ∃ a, p a ∧ ∃ b, a = T0 b ∧ q a b) : r := h.elim fun a h0 => h0.2.elim fun b h1 => k b (h1.1 ▸ h0.1)
theorem xvpvr0p {p : A → Prop} {T0 : B → A} {q : A → B → Prop} (k : ∀ b, p (T0 b) → q (T0 b) b → r) (h : ∃ a, p a ∧ ∃ b, a = T0 b ∧ q a b) : r := h.elim fun a h0 => h0.2.elim fun b h1 => k b (h1.1 ▸ h0.1) (h1.1 ▸ h1.2)
theorem xvpvvpd {p : A → Prop} {q s : A → B → C → Prop} (k : ∀ a, p a → ∀ b c, q a b c → r) (h : ∃ a, p a ∧ ∃ b c, q a b c ∧ s a b c) : r := h.elim fun a h0 => h0.2.elim fun b h1 => h1.elim fun c h2 => k a h0.1 b c h2.1
theorem xvvpppd {p q s t : A → B → Prop} (k : ∀ a b, p a b → q a b → s a b → r) (h : ∃ a b, p a b ∧ q a b ∧ s a b ∧ t a b) : r := h.elim fun a h0 => h0.elim fun b h1 => k a b h1.1 h1.2.1 h1.2.2.1
theorem xvvpppp {p q s t : A → B → Prop} (k : ∀ a b, p a b → q a b → s a b → t a b → r) (h : ∃ a b, p a b ∧ q a b ∧ s a b ∧ t a b) : r := h.elim fun a h0 => h0.elim fun b h1 => k a b h1.1 h1.2.1 h1.2.2.1 h1.2.2.2
theorem xvvvppd {p q s : A → B → C → Prop} (k : ∀ a b c, p a b c → q a b c → r) (h : ∃ a b c, p a b c ∧ q a b c ∧ s a b c) : r := h.elim fun a h0 => h0.elim fun b h1 => h1.elim fun c h2 => k a b c h2.1 h2.2.1
theorem xQ {p q s : A → B → C → Prop} (k : ∀ a b c, p a b c → q a b c → s a b c → r) (h : ∃ a b c, p a b c ∧ q a b c ∧ s a b c) : r := h.elim fun a h0 => h0.elim fun b h1 => h1.elim fun c h2 => k a b c h2.1 h2.2.1 h2.2.2
theorem xvvvvpp {p q : A → B → C → D → Prop} (k : ∀ a b c d, p a b c d → q a b c d → r) (h : ∃ a b c d, p a b c d ∧ q a b c d) : r := h.elim fun a h0 => h0.elim fun b h1 => h1.elim fun c h2 => h2.elim fun d h3 => k a b c d h3.1 h3.2
theorem xppvvppp {p q : Prop} {s t u : A → B → Prop} (k : p → q → ∀ a b, s a b → t a b → u a b → r) (h : p ∧ q ∧ ∃ a b, s a b ∧ t a b ∧ u a b) : r := h.2.2.elim fun a h0 => h0.elim fun b h1 => k h.1 h.2.1 a b h1.1 h1.2.1 h1.2.2
theorem xvpddvpd {p q s : A → Prop} {t u : A → B → Prop} (k : ∀ a, p a → ∀ b, t a b → r) (h : ∃ a, p a ∧ q a ∧ s a ∧ ∃ b, t a b ∧ u a b) : r := h.elim fun a h0 => h0.2.2.2.elim fun b h1 => k a h0.1 b h1.1
theorem xvpddvpp {p q s : A → Prop} {t u : A → B → Prop} (k : ∀ a, p a → ∀ b, t a b → u a b → r) (h : ∃ a, p a ∧ q a ∧ s a ∧ ∃ b, t a b ∧ u a b) : r := h.elim fun a h0 => h0.2.2.2.elim fun b h1 => k a h0.1 b h1.1 h1.2
theorem xvpvpppp {p : A → Prop} {q s t u : A → B → Prop} (k : ∀ a, p a → ∀ b, q a b → s a b → t a b → u a b → r) (h : ∃ a, p a ∧ ∃ b, q a b ∧ s a b ∧ t a b ∧ u a b) : r := h.elim fun a h0 => h0.2.elim fun b h1 => k a h0.1 b h1.1 h1.2.1 h1.2.2.1 h1.2.2.2
theorem xvpvvdr0 {p : A → Prop} {q : A → B → C → Prop} {T0 : B → C → A} (k : ∀ b c, p (T0 b c) → r) (h : ∃ a, p a ∧ ∃ b c, q a b c ∧ a = T0 b c) : r := h.elim fun a h0 => h0.2.elim fun b h1 => h1.elim fun c h2 => k b c (h2.2 ▸ h0.1)
theorem xvpvvppp {p : A → Prop} {q s t : A → B → C → Prop} (k : ∀ a, p a → ∀ b c, q a b c → s a b c → t a b c → r) (h : ∃ a, p a ∧ ∃ b c, q a b c ∧ s a b c ∧ t a b c) : r := h.elim fun a h0 => h0.2.elim fun b h1 => h1.elim fun c h2 => k a h0.1 b c h2.1 h2.2.1 h2.2.2
theorem xvpvvpr0 {p : A → Prop} {q : A → B → C → Prop} {T0 : B → C → A} (k : ∀ b c, p (T0 b c) → q (T0 b c) b c → r) (h : ∃ a, p a ∧ ∃ b c, q a b c ∧ a = T0 b c) : r := h.elim fun a h0 => h0.2.elim fun b h1 => h1.elim fun c h2 => k b c (h2.2 ▸ h0.1) (h2.2 ▸ h2.1)
theorem xvpvvr0d {p : A → Prop} {T0 : B → C → A} {q : A → B → C → Prop} (k : ∀ b c, p (T0 b c) → r) (h : ∃ a, p a ∧ ∃ b c, a = T0 b c ∧ q a b c) : r := h.elim fun a h0 => h0.2.elim fun b h1 => h1.elim fun c h2 => k b c (h2.1 ▸ h0.1)
theorem kQ {p : A → Prop} {T0 : B → C → A} {q : A → B → C → Prop} (k : ∀ b c, p (T0 b c) → q (T0 b c) b c → r) (h : ∃ a, p a ∧ ∃ b c, a = T0 b c ∧ q a b c) : r := h.elim fun a h0 => h0.2.elim fun b h1 => h1.elim fun c h2 => k b c (h2.1 ▸ h0.1) (h2.1 ▸ h2.2)
theorem xvpvvvr0 {p : A → Prop} {T0 : B → C → D → A} (k : ∀ b c d, p (T0 b c d) → r) (h : ∃ a, p a ∧ ∃ b c d, a = T0 b c d) : r := h.elim fun a h0 => h0.2.elim fun b h1 => h1.elim fun c h2 => h2.elim fun d h3 => k b c d (h3 ▸ h0.1)
theorem xvvpppdd {p q s t u : A → B → Prop} (k : ∀ a b, p a b → q a b → s a b → r) (h : ∃ a b, p a b ∧ q a b ∧ s a b ∧ t a b ∧ u a b) : r := h.elim fun a h0 => h0.elim fun b h1 => k a b h1.1 h1.2.1 h1.2.2.1
theorem xvvppppp {p q s t u : A → B → Prop} (k : ∀ a b, p a b → q a b → s a b → t a b → u a b → r) (h : ∃ a b, p a b ∧ q a b ∧ s a b ∧ t a b ∧ u a b) : r := h.elim fun a h0 => h0.elim fun b h1 => k a b h1.1 h1.2.1 h1.2.2.1 h1.2.2.2.1 h1.2.2.2.2
theorem xvvppvr1 {p q : A → B → Prop} {T1 : A → C → B} (k : ∀ a c, p a (T1 a c) → q a (T1 a c) → r) (h : ∃ a b, p a b ∧ q a b ∧ ∃ c, b = T1 a c) : r := h.elim fun a h0 => h0.elim fun b h1 => h1.2.2.elim fun c h2 => k a c (h2 ▸ h1.1) (h2 ▸ h1.2.1)
theorem xvvvpppp {p q s t : A → B → C → Prop} (k : ∀ a b c, p a b c → q a b c → s a b c → t a b c → r) (h : ∃ a b c, p a b c ∧ q a b c ∧ s a b c ∧ t a b c) : r := h.elim fun a h0 => h0.elim fun b h1 => h1.elim fun c h2 => k a b c h2.1 h2.2.1 h2.2.2.1 h2.2.2.2
theorem xvvvvppd {p q s : A → B → C → D → Prop} (k : ∀ a b c d, p a b c d → q a b c d → r) (h : ∃ a b c d, p a b c d ∧ q a b c d ∧ s a b c d) : r := h.elim fun a h0 => h0.elim fun b h1 => h1.elim fun c h2 => h2.elim fun d h3 => k a b c d h3.1 h3.2.1
theorem xvvvvppp {p q s : A → B → C → D → Prop} (k : ∀ a b c d, p a b c d → q a b c d → s a b c d → r) (h : ∃ a b c d, p a b c d ∧ q a b c d ∧ s a b c d) : r := h.elim fun a h0 => h0.elim fun b h1 => h1.elim fun c h2 => h2.elim fun d h3 => k a b c d h3.1 h3.2.1 h3.2.2
theorem xppvvvppp {p q : Prop} {s t u : A → B → C → Prop} (k : p → q → ∀ a b c, s a b c → t a b c → u a b c → r) (h : p ∧ q ∧ ∃ a b c, s a b c ∧ t a b c ∧ u a b c) : r := h.2.2.elim fun a h0 => h0.elim fun b h1 => h1.elim fun c h2 => k h.1 h.2.1 a b c h2.1 h2.2.1 h2.2.2
theorem xvpvvpppp {p : A → Prop} {q s t u : A → B → C → Prop} (k : ∀ a, p a → ∀ b c, q a b c → s a b c → t a b c → u a b c → r) (h : ∃ a, p a ∧ ∃ b c, q a b c ∧ s a b c ∧ t a b c ∧ u a b c) : r := h.elim fun a h0 => h0.2.elim fun b h1 => h1.elim fun c h2 => k a h0.1 b c h2.1 h2.2.1 h2.2.2.1 h2.2.2.2
theorem xvvpppppp {p q s t u v : A → B → Prop} (k : ∀ a b, p a b → q a b → s a b → t a b → u a b → v a b → r) (h : ∃ a b, p a b ∧ q a b ∧ s a b ∧ t a b ∧ u a b ∧ v a b) : r := h.elim fun a h0 => h0.elim fun b h1 => k a b h1.1 h1.2.1 h1.2.2.1 h1.2.2.2.1 h1.2.2.2.2.1 h1.2.2.2.2.2
theorem xvvppvpr1 {p q : A → B → Prop} {s : A → B → C → Prop} {T1 : A → C → B} (k : ∀ a c, p a (T1 a c) → q a (T1 a c) → s a (T1 a c) c → r) (h : ∃ a b, p a b ∧ q a b ∧ ∃ c, s a b c ∧ b = T1 a c) : r := h.elim fun a h0 => h0.elim fun b h1 => h1.2.2.elim fun c h2 => k a c (h2.2 ▸ h1.1) (h2.2 ▸ h1.2.1) (h2.2 ▸ h2.1)
theorem xvvvvpppp {p q s t : A → B → C → D → Prop} (k : ∀ a b c d, p a b c d → q a b c d → s a b c d → t a b c d → r) (h : ∃ a b c d, p a b c d ∧ q a b c d ∧ s a b c d ∧ t a b c d) : r := h.elim fun a h0 => h0.elim fun b h1 => h1.elim fun c h2 => h2.elim fun d h3 => k a b c d h3.1 h3.2.1 h3.2.2.1 h3.2.2.2
theorem xpppvvvppp {p q s : Prop} {t u v : A → B → C → Prop} (k : p → q → s → ∀ a b c, t a b c → u a b c → v a b c → r) (h : p ∧ q ∧ s ∧ ∃ a b c, t a b c ∧ u a b c ∧ v a b c) : r := h.2.2.2.elim fun a h0 => h0.elim fun b h1 => h1.elim fun c h2 => k h.1 h.2.1 h.2.2.1 a b c h2.1 h2.2.1 h2.2.2
theorem xvppdvvppp {p q s : A → Prop} {t u v : A → B → C → Prop} (k : ∀ a, p a → q a → ∀ b c, t a b c → u a b c → v a b c → r) (h : ∃ a, p a ∧ q a ∧ s a ∧ ∃ b c, t a b c ∧ u a b c ∧ v a b c) : r := h.elim fun a h0 => h0.2.2.2.elim fun b h1 => h1.elim fun c h2 => k a h0.1 h0.2.1 b c h2.1 h2.2.1 h2.2.2
theorem xvpppvvppp {p q s : A → Prop} {t u v : A → B → C → Prop} (k : ∀ a, p a → q a → s a → ∀ b c, t a b c → u a b c → v a b c → r) (h : ∃ a, p a ∧ q a ∧ s a ∧ ∃ b c, t a b c ∧ u a b c ∧ v a b c) : r := h.elim fun a h0 => h0.2.2.2.elim fun b h1 => h1.elim fun c h2 => k a h0.1 h0.2.1 h0.2.2.1 b c h2.1 h2.2.1 h2.2.2
theorem xvvvpppppp {p q s t u v : A → B → C → Prop} (k : ∀ a b c, p a b c → q a b c → s a b c → t a b c → u a b c → v a b c → r) (h : ∃ a b c, p a b c ∧ q a b c ∧ s a b c ∧ t a b c ∧ u a b c ∧ v a b c) : r := h.elim fun a h0 => h0.elim fun b h1 => h1.elim fun c h2 => k a b c h2.1 h2.2.1 h2.2.2.1 h2.2.2.2.1 h2.2.2.2.2.1 h2.2.2.2.2.2
theorem xvvvvppppp {p q s t u : A → B → C → D → Prop} (k : ∀ a b c d, p a b c d → q a b c d → s a b c d → t a b c d → u a b c d → r) (h : ∃ a b c d, p a b c d ∧ q a b c d ∧ s a b c d ∧ t a b c d ∧ u a b c d) : r := h.elim fun a h0 => h0.elim fun b h1 => h1.elim fun c h2 => h2.elim fun d h3 => k a b c d h3.1 h3.2.1 h3.2.2.1 h3.2.2.2.1 h3.2.2.2.2
theorem xvvvvvpppp {p q s t : A → B → C → D → E → Prop} (k : ∀ a b c d e, p a b c d e → q a b c d e → s a b c d e → t a b c d e → r) (h : ∃ a b c d e, p a b c d e ∧ q a b c d e ∧ s a b c d e ∧ t a b c d e) : r := h.elim fun a h0 => h0.elim fun b h1 => h1.elim fun c h2 => h2.elim fun d h3 => h3.elim fun e h4 => k a b c d e h4.1 h4.2.1 h4.2.2.1 h4.2.2.2
theorem xddvvvppppd {p q : Prop} {s t u v w : A → B → C → Prop} (k : ∀ a b c, s a b c → t a b c → u a b c → v a b c → r) (h : p ∧ q ∧ ∃ a b c, s a b c ∧ t a b c ∧ u a b c ∧ v a b c ∧ w a b c) : r := h.2.2.elim fun a h0 => h0.elim fun b h1 => h1.elim fun c h2 => k a b c h2.1 h2.2.1 h2.2.2.1 h2.2.2.2.1
theorem xvvvppppppp {p q s t u v w : A → B → C → Prop} (k : ∀ a b c, p a b c → q a b c → s a b c → t a b c → u a b c → v a b c → w a b c → r) (h : ∃ a b c, p a b c ∧ q a b c ∧ s a b c ∧ t a b c ∧ u a b c ∧ v a b c ∧ w a b c) : r := h.elim fun a h0 => h0.elim fun b h1 => h1.elim fun c h2 => k a b c h2.1 h2.2.1 h2.2.2.1 h2.2.2.2.1 h2.2.2.2.2.1 h2.2.2.2.2.2.1 h2.2.2.2.2.2.2
theorem xvvvvvppppp {p q s t u : A → B → C → D → E → Prop} (k : ∀ a b c d e, p a b c d e → q a b c d e → s a b c d e → t a b c d e → u a b c d e → r) (h : ∃ a b c d e, p a b c d e ∧ q a b c d e ∧ s a b c d e ∧ t a b c d e ∧ u a b c d e) : r := h.elim fun a h0 => h0.elim fun b h1 => h1.elim fun c h2 => h2.elim fun d h3 => h3.elim fun e h4 => k a b c d e h4.1 h4.2.1 h4.2.2.1 h4.2.2.2.1 h4.2.2.2.2
theorem xvvvvppppppp {p q s t u v w : A → B → C → D → Prop} (k : ∀ a b c d, p a b c d → q a b c d → s a b c d → t a b c d → u a b c d → v a b c d → w a b c d → r) (h : ∃ a b c d, p a b c d ∧ q a b c d ∧ s a b c d ∧ t a b c d ∧ u a b c d ∧ v a b c d ∧ w a b c d) : r := h.elim fun a h0 => h0.elim fun b h1 => h1.elim fun c h2 => h2.elim fun d h3 => k a b c d h3.1 h3.2.1 h3.2.2.1 h3.2.2.2.1 h3.2.2.2.2.1 h3.2.2.2.2.2.1 h3.2.2.2.2.2.2
theorem xdddvvvvvppppd {p q s : Prop} {t u v w y : A → B → C → D → E → Prop} (k : ∀ a b c d e, t a b c d e → u a b c d e → v a b c d e → w a b c d e → r) (h : p ∧ q ∧ s ∧ ∃ a b c d e, t a b c d e ∧ u a b c d e ∧ v a b c d e ∧ w a b c d e ∧ y a b c d e) : r := h.2.2.2.elim fun a h0 => h0.elim fun b h1 => h1.elim fun c h2 => h2.elim fun d h3 => h3.elim fun e h4 => k a b c d e h4.1 h4.2.1 h4.2.2.1 h4.2.2.2.1
theorem xpppppppppppppppp {p q s t u v w y z α β γ δ ε ζ η : Prop} (k : p → q → s → t → u → v → w → y → z → α → β → γ → δ → ε → ζ → η → r) (h : p ∧ q ∧ s ∧ t ∧ u ∧ v ∧ w ∧ y ∧ z ∧ α ∧ β ∧ γ ∧ δ ∧ ε ∧ ζ ∧ η) : r := k h.1 h.2.1 h.2.2.1 h.2.2.2.1 h.2.2.2.2.1 h.2.2.2.2.2.1 h.2.2.2.2.2.2.1 h.2.2.2.2.2.2.2.1 h.2.2.2.2.2.2.2.2.1 h.2.2.2.2.2.2.2.2.2.1 h.2.2.2.2.2.2.2.2.2.2.1 h.2.2.2.2.2.2.2.2.2.2.2.1 h.2.2.2.2.2.2.2.2.2.2.2.2.1 h.2.2.2.2.2.2.2.2.2.2.2.2.2.1 h.2.2.2.2.2.2.2.2.2.2.2.2.2.2.1 h.2.2.2.2.2.2.2.2.2.2.2.2.2.2.2
theorem xpppvvvvvppppppppp {p q s : Prop} {t u v w y z α β γ : A → B → C → D → E → Prop} (k : p → q → s → ∀ a b c d e, t a b c d e → u a b c d e → v a b c d e → w a b c d e → y a b c d e → z a b c d e → α a b c d e → β a b c d e → γ a b c d e → r) (h : p ∧ q ∧ s ∧ ∃ a b c d e, t a b c d e ∧ u a b c d e ∧ v a b c d e ∧ w a b c d e ∧ y a b c d e ∧ z a b c d e ∧ α a b c d e ∧ β a b c d e ∧ γ a b c d e) : r := h.2.2.2.elim fun a h0 => h0.elim fun b h1 => h1.elim fun c h2 => h2.elim fun d h3 => h3.elim fun e h4 => k h.1 h.2.1 h.2.2.1 a b c d e h4.1 h4.2.1 h4.2.2.1 h4.2.2.2.1 h4.2.2.2.2.1 h4.2.2.2.2.2.1 h4.2.2.2.2.2.2.1 h4.2.2.2.2.2.2.2.1 h4.2.2.2.2.2.2.2.2
theorem xddvvvdddddvvvvvppd {p q : Prop} {s t u v w : A → B → C → Prop} {y z α : A → B → C → D → E → F → G → H → Prop} (k : ∀ a b c, ∀ d e f g i, y a b c d e f g i → z a b c d e f g i → r) (h : p ∧ q ∧ ∃ a b c, s a b c ∧ t a b c ∧ u a b c ∧ v a b c ∧ w a b c ∧ ∃ d e f g i, y a b c d e f g i ∧ z a b c d e f g i ∧ α a b c d e f g i) : r := h.2.2.elim fun a h0 => h0.elim fun b h1 => h1.elim fun c h2 => h2.2.2.2.2.2.elim fun d h3 => h3.elim fun e h4 => h4.elim fun f h5 => h5.elim fun g h6 => h6.elim fun i h7 => k a b c d e f g i h7.1 h7.2.1
theorem xvvdpvvvvvvvvvppppd {p q : A → B → Prop} {s t u v w : A → B → C → D → E → F → G → H → I → J → K → Prop} (k : ∀ a b, q a b → ∀ c d e f g i j l m, s a b c d e f g i j l m → t a b c d e f g i j l m → u a b c d e f g i j l m → v a b c d e f g i j l m → r) (h : ∃ a b, p a b ∧ q a b ∧ ∃ c d e f g i j l m, s a b c d e f g i j l m ∧ t a b c d e f g i j l m ∧ u a b c d e f g i j l m ∧ v a b c d e f g i j l m ∧ w a b c d e f g i j l m) : r := h.elim fun a h0 => h0.elim fun b h1 => h1.2.2.elim fun c h2 => h2.elim fun d h3 => h3.elim fun e h4 => h4.elim fun f h5 => h5.elim fun g h6 => h6.elim fun i h7 => h7.elim fun j h8 => h8.elim fun l h9 => h9.elim fun m h10 => k a b h1.2.1 c d e f g i j l m h10.1 h10.2.1 h10.2.2.1 h10.2.2.2.1
theorem xvvvvvvvvvpppppppppppp {p q s t u v w y z α β γ : A → B → C → D → E → F → G → H → I → Prop} (k : ∀ a b c d e f g i j, p a b c d e f g i j → q a b c d e f g i j → s a b c d e f g i j → t a b c d e f g i j → u a b c d e f g i j → v a b c d e f g i j → w a b c d e f g i j → y a b c d e f g i j → z a b c d e f g i j → α a b c d e f g i j → β a b c d e f g i j → γ a b c d e f g i j → r) (h : ∃ a b c d e f g i j, p a b c d e f g i j ∧ q a b c d e f g i j ∧ s a b c d e f g i j ∧ t a b c d e f g i j ∧ u a b c d e f g i j ∧ v a b c d e f g i j ∧ w a b c d e f g i j ∧ y a b c d e f g i j ∧ z a b c d e f g i j ∧ α a b c d e f g i j ∧ β a b c d e f g i j ∧ γ a b c d e f g i j) : r := h.elim fun a h0 => h0.elim fun b h1 => h1.elim fun c h2 => h2.elim fun d h3 => h3.elim fun e h4 => h4.elim fun f h5 => h5.elim fun g h6 => h6.elim fun i h7 => h7.elim fun j h8 => k a b c d e f g i j h8.1 h8.2.1 h8.2.2.1 h8.2.2.2.1 h8.2.2.2.2.1 h8.2.2.2.2.2.1 h8.2.2.2.2.2.2.1 h8.2.2.2.2.2.2.2.1 h8.2.2.2.2.2.2.2.2.1 h8.2.2.2.2.2.2.2.2.2.1 h8.2.2.2.2.2.2.2.2.2.2.1 h8.2.2.2.2.2.2.2.2.2.2.2
theorem xppvvvpppppvvvvvppppppppp {p q : Prop} {s t u v w : A → B → C → Prop} {y z α β γ δ ε ζ η : A → B → C → D → E → F → G → H → Prop} (k : p → q → ∀ a b c, s a b c → t a b c → u a b c → v a b c → w a b c → ∀ d e f g i, y a b c d e f g i → z a b c d e f g i → α a b c d e f g i → β a b c d e f g i → γ a b c d e f g i → δ a b c d e f g i → ε a b c d e f g i → ζ a b c d e f g i → η a b c d e f g i → r) (h : p ∧ q ∧ ∃ a b c, s a b c ∧ t a b c ∧ u a b c ∧ v a b c ∧ w a b c ∧ ∃ d e f g i, y a b c d e f g i ∧ z a b c d e f g i ∧ α a b c d e f g i ∧ β a b c d e f g i ∧ γ a b c d e f g i ∧ δ a b c d e f g i ∧ ε a b c d e f g i ∧ ζ a b c d e f g i ∧ η a b c d e f g i) : r := h.2.2.elim fun a h0 => h0.elim fun b h1 => h1.elim fun c h2 => h2.2.2.2.2.2.elim fun d h3 => h3.elim fun e h4 => h4.elim fun f h5 => h5.elim fun g h6 => h6.elim fun i h7 => k h.1 h.2.1 a b c h2.1 h2.2.1 h2.2.2.1 h2.2.2.2.1 h2.2.2.2.2.1 d e f g i h7.1 h7.2.1 h7.2.2.1 h7.2.2.2.1 h7.2.2.2.2.1 h7.2.2.2.2.2.1 h7.2.2.2.2.2.2.1 h7.2.2.2.2.2.2.2.1 h7.2.2.2.2.2.2.2.2
theorem nE {a b : Nat} (h : Nat.beq a b = true) : a = b := Nat.eq_of_beq_eq_true h
theorem nL {a b : Nat} (h : Nat.ble a b = true) : a ≤ b := Nat.le_of_ble_eq_true h
theorem aN {a b : Bool} {p : Prop} (k : a = true → b = true → p) (h : (a && b) = true) : p := k (Bool.and_eq_true_iff.mp h).1 (Bool.and_eq_true_iff.mp h).2
end
end Mine
end
section
open PySem PySem.W PySem.Calls PyProof.Rows
namespace Mine
section
inductive Ty where
 | none | bool | int | str | type | bt | list | tup | dict | fn | range | enum | exc | unk
 deriving DecidableEq, Inhabited
inductive Bt where
 | len | abs | max | isinstance
 deriving DecidableEq, Inhabited
noncomputable def Ty.name : Ty → String
 | .none => "NoneType" | .bool => "bool" | .int => "int" | .str => "str" | .type => "type" | .bt => "builtin_function_or_method" | .list => "list" | .tup => "tuple" | .dict => "dict" | .fn => "function" | .range => "range" | .enum => "enumerate" | .exc => "Exception" | .unk => "?"
noncomputable def Bt.name : Bt → String
 | .len => "len" | .abs => "abs" | .max => "max" | .isinstance => "isinstance"
inductive V where
 | none | bool (b : Bool) | int (i : Int) | str (s : Str) | ty (t : Ty) | bt (b : Bt) | old (a : Nat) | new (n : Nat) | sym (t : List Nat) | any
 deriving Inhabited
structure Fn where
 params : Arguments
 body : FuncBody
 scope : Scope
 cl : List (Str × Nat)
 tab : Option Nat
 qual : Str
 deriving Inhabited
inductive O : Type where
 | ns (m : List (Str × V)) | list (xs : List V) | tup (xs : List V) | dict (es : List (Str × V)) | inst (C : Nat) (d : Nat) | at (m : List (Str × V)) | cell (v : Option V) | fn (f : Fn) | rng (n : Nat)
 | tab (made : List ((Nat × Nat) × Str)) | iter (l : Bool) (v : V) (i : Nat) | rit (i k : Nat) | enm (j i : Nat) | junk | exo (F : Nat) (d : Bool) | atR (m : List (Str × V)) | mk (t : List Nat) | ro (o : O)
 deriving Inhabited
noncomputable def code (a : Str) : Nat := a.cps.toList.foldl (fun n c => Nat.add (Nat.mul n 2097152) c) 1
noncomputable def eqL0 : List Nat → List Nat → Bool
 | [], [] => true
 | x :: xs, y :: ys => bif Nat.beq x y then eqL0 xs ys else false
 | _, _ => false
theorem rJ : ∀ {a b : List Nat}, eqL0 a b = true ↔ a = b
 | [], [] => by simp [eqL0]
 | [], _ :: _ => by simp [eqL0]
 | _ :: _, [] => by simp [eqL0]
 | x :: xs, y :: ys => by
  unfold eqL0
  refine qJ (Nat.beq x y) (fun h => ?_) (fun h => ?_)
  ·simp; intro q; rw [q, Nat.beq_refl] at h; injection h
  ·rw [cond_true, rJ, nE h]; simp
noncomputable def okS (a : Str) : Bool := a.cps.toList.all fun c => Nat.blt c 2097152
noncomputable def key (a : Str) : Nat := bif okS a then code a else 0
noncomputable def eqS (a b : Str) : Bool := Bool.casesOn (Nat.beq (key a) (key b)) false (Bool.casesOn (Nat.beq (key a) 0) true (eqL0 a.cps.toList b.cps.toList))
theorem fold_bounds : ∀ (l : List Nat) (n : Nat), (l.all fun c => Nat.blt c 2097152) = true → n * 2097152 ^ l.length ≤ l.foldl (fun n c => Nat.add (Nat.mul n 2097152) c) n ∧ l.foldl (fun n c => Nat.add (Nat.mul n 2097152) c) n < (n + 1) * 2097152 ^ l.length
 | [], n, _ => by simp
 | c :: l, n, h => by
  rw [List.all_cons] at h
  refine aN (fun h1 h2 => ?_) h
  have h1 : c < 2097152 := by unfold Nat.blt at h1; rw [Nat.ble_eq] at h1; exact h1
  refine xpp (fun a1 a2 => ?_) (fold_bounds l (Nat.add (Nat.mul n 2097152) c) h2)
  have e : Nat.add (Nat.mul n 2097152) c = n * 2097152 + c := rfl
  rw [List.foldl_cons, List.length_cons, Nat.pow_succ]
  rw [e] at a1 a2 ⊢
  have hp : 0 < 2097152 ^ l.length := Nat.pow_pos (by decide)
  constructor
  ·refine Nat.le_trans ?_ a1
   rw [Nat.mul_comm (2097152 ^ l.length), ← Nat.mul_assoc]
   exact Nat.mul_le_mul_right _ (by omega)
  ·refine Nat.lt_of_lt_of_le a2 ?_
   rw [Nat.mul_comm (2097152 ^ l.length), ← Nat.mul_assoc]
   exact Nat.mul_le_mul_right _ (by omega)
theorem fold_inj : ∀ (l l' : List Nat) (n n' : Nat), l.length = l'.length → (l.all fun c => Nat.blt c 2097152) = true → (l'.all fun c => Nat.blt c 2097152) = true →
  l.foldl (fun n c => Nat.add (Nat.mul n 2097152) c) n = l'.foldl (fun n c => Nat.add (Nat.mul n 2097152) c) n' → n = n' ∧ l = l'
 | [], [], n, n', _, _, _, h => ⟨h, rfl⟩
 | c :: l, c' :: l', n, n', hl, h, h', e => by
  rw [List.all_cons] at h h'
  refine aN (fun h1 h2 => ?_) h
  refine aN (fun h1' h2' => ?_) h'
  have h1 : c < 2097152 := by unfold Nat.blt at h1; rw [Nat.ble_eq] at h1; exact h1
  have h1' : c' < 2097152 := by unfold Nat.blt at h1'; rw [Nat.ble_eq] at h1'; exact h1'
  refine xpp (fun e1 e2 => ?_) (fold_inj l l' _ _ (by simpa using hl) h2 h2' e)
  have e1 : n * 2097152 + c = n' * 2097152 + c' := e1
  have : n = n' := by omega
  have : c = c' := by omega
  clear hl h' e h1' e1; subst this
  exact ⟨by omega, by rw [e2]⟩
 | [], _ :: _, _, _, h, _, _, _ => by injection h
 | _ :: _, [], _, _, h, _, _, _ => by injection h
theorem key_inj {a b : Str} (h : key a = key b) (h0 : key a ≠ 0) : a = b := by
 unfold key at h h0
 refine bE (okS a) (fun ha => ?_) (fun ha => ?_)
 ·rw [ha] at h0; exact (h0 rfl).elim
 ·
  rw [ha, cond_true] at h h0
  refine bE (okS b) (fun hb => ?_) (fun hb => ?_)
  ·rw [hb] at h; exact (h0 h).elim
  ·
   rw [hb, cond_true] at h
   unfold code at h
   unfold okS at ha hb
   have a1 := fold_bounds _ 1 ha
   have b1 := fold_bounds _ 1 hb
   have hlen : a.cps.toList.length = b.cps.toList.length := by
    rw [h] at a1
    have pm : ∀ {x y : Nat}, x < y → 2 * 2097152 ^ x ≤ 2097152 ^ y := fun {x y} hxy => by
     have : 2097152 ^ (x + 1) ≤ 2097152 ^ y := Nat.pow_le_pow_right (by decide) hxy
     rw [Nat.pow_succ] at this
     omega
    rcases Nat.lt_trichotomy a.cps.toList.length b.cps.toList.length with q | q | q
    ·have := pm q; omega
    ·exact q
    ·have := pm q; omega
   have := (fold_inj _ _ 1 1 hlen ha hb h).2
   rw [Array.toList_inj] at this
   cases a; cases b; exact congrArg Str.mk this
theorem eI {a b : Str} : eqS a b = true ↔ a = b := by
 unfold eqS
 constructor
 ·intro h
  refine bE (Nat.beq (key a) (key b)) (fun q => ?_) (fun q => ?_)
  ·rw [q] at h; injection h
  ·
   rw [q] at h
   change (Bool.casesOn (Nat.beq (key a) 0) true (eqL0 a.cps.toList b.cps.toList) : Bool) = true at h
   refine bE (Nat.beq (key a) 0) (fun z => ?_) (fun z => ?_)
   ·exact key_inj (nE q) fun y => by rw [y] at z; injection z
   ·
    rw [z] at h
    change eqL0 _ _ = true at h
    rw [rJ, Array.toList_inj] at h
    cases a; cases b; exact congrArg Str.mk h
 ·rintro rfl
  rw [Nat.beq_refl]
  change (Bool.casesOn (Nat.beq (key a) 0) true (eqL0 a.cps.toList a.cps.toList) : Bool) = true
  cases Nat.beq (key a) 0 with
  | false => rfl
  | true => exact rJ.mpr rfl
noncomputable def lookI {α : Type} : List (Str × α) → Str → Option α
 | [], _ => none
 | (k, v) :: r, x => bif eqS k x then some v else lookI r x
noncomputable def putI {α : Type} : List (Str × α) → Str → α → List (Str × α)
 | [], x, v => [(x, v)]
 | (k, w) :: r, x, v => bif eqS k x then (k, v) :: r else (k, w) :: putI r x v
noncomputable def look {α : Type} (m : List (Str × α)) (x : Str) : Option α := List.rec (motive := fun _ => Option α) none (fun p _ ih => Prod.casesOn p fun k v => Bool.casesOn (eqS k x) ih (some v)) m
theorem look_nil {α : Type} (x : Str) : look ([] : List (Str × α)) x = none := rfl
theorem look_cons {α : Type} (k : Str) (v : α) (r : List (Str × α)) (x : Str) : look ((k, v) :: r) x = bif eqS k x then some v else look r x := by
 show (Bool.casesOn (eqS k x) (look r x) (some v) : Option α) = _
 cases eqS k x <;> rfl
noncomputable def put {α : Type} (m : List (Str × α)) (x : Str) (v : α) : List (Str × α) := List.rec (motive := fun _ => List (Str × α)) [(x, v)] (fun p r ih => Prod.casesOn p fun k w => Bool.casesOn (eqS k x) ((k, w) :: ih) ((k, v) :: r)) m
theorem put_nil {α : Type} (x : Str) (v : α) : put [] x v = [(x, v)] := rfl
theorem put_cons {α : Type} (k : Str) (w : α) (r : List (Str × α)) (x : Str) (v : α) : put ((k, w) :: r) x v = bif eqS k x then (k, v) :: r else (k, w) :: put r x v := by
 show (Bool.casesOn (eqS k x) ((k, w) :: put r x v) ((k, v) :: r) : List (Str × α)) = _
 cases eqS k x <;> rfl
theorem look_put {α : Type} (x : Str) (v : α) (y : Str) : ∀ m : List (Str × α), look (put m x v) y = if y = x then some v else look m y
 | [] => by
  by_cases h : y = x
  ·subst h; simp [put_nil, look_nil, look_cons, eI.mpr]
  ·have : eqS x y = false := Bool.eq_false_iff.mpr fun q => h (eI.mp q).symm
   simp [put_nil, look_nil, look_cons, this, h]
 | (k, w) :: r => by
  rw [put_cons]
  by_cases hk : eqS k x = true
  ·rw [hk, cond_true]
   have hk' := eI.mp hk
   by_cases h : y = x
   ·subst h; simp [look_cons, hk]
   ·have : eqS k y = false := Bool.eq_false_iff.mpr fun q => h ((eI.mp q).symm.trans hk')
    simp [look_cons, this, h]
  ·rw [Bool.eq_false_iff.mpr hk, cond_false]
   rw [look_cons, look_cons]
   by_cases hy : eqS k y = true
   ·rw [hy, cond_true, cond_true]
    have : ¬ y = x := fun q => hk (q ▸ hy)
    rw [if_neg this]
   ·rw [Bool.eq_false_iff.mpr hy, cond_false, cond_false, look_put x v y r]
inductive Tr : Type where
 | nil | node (v : Option O) (l r : Tr)
 deriving Inhabited
noncomputable def Tr.lft : Tr → Tr
 | .node _ l _ => l
 | _ => .nil
noncomputable def Tr.rgt : Tr → Tr
 | .node _ _ r => r
 | _ => .nil
noncomputable def Tr.val : Tr → Option O
 | .node v _ _ => v
 | _ => none
noncomputable def getPI : Nat → Tr → Nat → Option O
 | 0, _, _ => none
 | _, .nil, _ => none
 | _ + 1, .node v _ _, 0 => v
 | k + 1, .node _ l r, q + 1 => bif Nat.beq (q % 2) 0 then getPI k l (q / 2) else getPI k r (q / 2)
noncomputable def getPN (t : Tr) (n : Nat) : Option O := getPI 100 t n
noncomputable def getP (t : Tr) : Nat → Option O := Tr.rec (motive := fun _ => Nat → Option O) (fun _ => none)
 (fun v _ _ ihl ihr n => Nat.rec (motive := fun _ => Option O) v (fun q _ => Nat.rec (motive := fun _ => Option O) (ihl (Nat.div q 2)) (fun _ _ => ihr (Nat.div q 2)) (Nat.mod q 2)) n) t
theorem rec2 {α : Type} (q : Nat) (a b : α) : Nat.rec (motive := fun _ => α) a (fun _ _ => b) (q % 2) = bif Nat.beq (q % 2) 0 then a else b := by
 refine orE (fun h => ?_) (fun h => ?_) (Nat.mod_two_eq_zero_or_one q) <;> rw [h] <;> rfl
theorem getP_nil (n : Nat) : getP .nil n = none := rfl
theorem getP_zero (t : Tr) : getP t 0 = t.val := by cases t <;> rfl
theorem getP_succ (t : Tr) (q : Nat) : getP t (q + 1) = bif Nat.beq (q % 2) 0 then getP t.lft (q / 2) else getP t.rgt (q / 2) := by
 cases t with
 | nil => show none = bif _ then none else none; cases Nat.beq (q % 2) 0 <;> rfl
 | node v l r => exact rec2 q _ _
noncomputable def setP : Nat → Tr → Nat → O → Tr
 | 0, t, _, _ => t
 | _ + 1, t, 0, o => .node (some o) t.lft t.rgt
 | d + 1, t, q + 1, o => bif Nat.beq (q % 2) 0 then .node t.val (setP d t.lft (q / 2) o) t.rgt else .node t.val t.lft (setP d t.rgt (q / 2) o)
theorem getP_setP (o : O) : ∀ (d : Nat) (t : Tr) (n m : Nat), n + 1 < 2 ^ d → getP (setP d t n o) m = if m = n then some o else getP t m
 | 0, t, n, m, hn => by simp at hn
 | d + 1, t, 0, m, hn => by
  show getP (.node (some o) t.lft t.rgt) m = _
  cases m with
  | zero => rw [getP_zero, if_pos rfl]; rfl
  | succ q => rw [getP_succ, if_neg (by omega), getP_succ]; rfl
 | d + 1, t, p + 1, m, hn => by
  rw [Nat.pow_succ] at hn
  have ih := fun (t' : Tr) (m : Nat) => getP_setP o d t' (p / 2) m (by omega)
  have hb : ∀ k : Nat, Nat.beq (k % 2) 0 = decide (k % 2 = 0) := fun k => by
   refine cZ (Nat.beq (k % 2) 0) (fun q => ?_) (fun q => ?_)
   ·exact (decide_eq_true (nE q)).symm
   ·exact (decide_eq_false (fun z => by rw [z] at q; injection q)).symm
  unfold setP
  cases m with
  | zero =>
   rw [if_neg (by omega), getP_zero]
   cases Nat.beq (p % 2) 0 <;> (rw [getP_zero]; rfl)
  | succ q =>
   rw [getP_succ t]
   have yes : ∀ {k : Nat}, Nat.beq (k % 2) 0 = true → k % 2 = 0 := fun h => nE h
   have no : ∀ {k : Nat}, Nat.beq (k % 2) 0 = false → k % 2 = 1 := fun {k} h => by
    refine orE (fun q => ?_) (fun q => ?_) (Nat.mod_two_eq_zero_or_one k)
    ·rw [q] at h; injection h
    ·exact q
   cases h1 : Nat.beq (p % 2) 0 <;> cases h2 : Nat.beq (q % 2) 0 <;> rw [getP_succ, h2] <;> simp only [cond_true, cond_false, Tr.lft, Tr.rgt]
   ·have := no h1; have := no h2
    show getP (setP d t.rgt (p / 2) o) (q / 2) = if q + 1 = p + 1 then some o else getP t.rgt (q / 2)
    rw [ih]
    by_cases z : q + 1 = p + 1
    ·rw [if_pos z, if_pos (by omega)]
    ·rw [if_neg z, if_neg (by omega)]
   ·have := no h1; have := yes h2
    rw [if_neg (by omega)]
   ·have := yes h1; have := no h2
    rw [if_neg (by omega)]
   ·have := yes h1; have := yes h2
    show getP (setP d t.lft (p / 2) o) (q / 2) = if q + 1 = p + 1 then some o else getP t.lft (q / 2)
    rw [ih]
    by_cases z : q + 1 = p + 1
    ·rw [if_pos z, if_pos (by omega)]
    ·rw [if_neg z, if_neg (by omega)]
structure St where
 size : Nat
 t : Tr
 deriving Inhabited
noncomputable def St.get (σ : St) (n : Nat) : Option O := St.casesOn σ fun z t => Bool.casesOn (Nat.ble (Nat.succ n) z) none (getP t n)
theorem St.get_def (σ : St) (n : Nat) : σ.get n = bif Nat.blt n σ.size then getP σ.t n else none := by
 show (Bool.casesOn (Nat.blt n σ.size) none (getP σ.t n) : Option O) = _
 cases Nat.blt n σ.size <;> rfl
noncomputable def St.set (σ : St) (n : Nat) (o : O) : St := ⟨σ.size, setP 13 σ.t n o⟩
noncomputable def St.push (σ : St) (o : O) : St := ⟨σ.size + 1, setP 13 σ.t σ.size o⟩
theorem bI {a b : Nat} : Nat.blt a b = true ↔ a < b := by unfold Nat.blt; rw [Nat.ble_eq]; exact Iff.rfl
theorem blt_false {a b : Nat} (h : ¬ a < b) : Nat.blt a b = false := Bool.eq_false_iff.mpr fun q => h (bI.mp q)
noncomputable def rd : Option O → Option O
 | some (.ro o) => some o
 | x => x
theorem rd_some {x : Option O} {o : O} (h : rd x = some o) : x = some o ∨ x = some (.ro o) := by
 unfold rd at h
 split at h
 ·injection h with q1; subst q1; exact .inr rfl
 ·exact .inl h
theorem St.get_lt {σ : St} {n : Nat} {o : O} (h : σ.get n = some o) : n < σ.size := by
 rw [St.get_def] at h
 refine nJ (Nat.blt n σ.size) (fun q => ?_) (fun q => ?_)
 ·exact bI.mp q
 ·rw [q] at h; injection h
theorem St.get_set {σ : St} {n m : Nat} {o : O} (hn : n < σ.size) (hs : σ.size ≤ 4096) : (σ.set n o).get m = if m = n then some o else σ.get m := by
 rw [St.get_def, St.get_def]
 unfold St.set
 by_cases h : m < σ.size
 ·rw [bI.mpr h, cond_true, cond_true, getP_setP o 13 σ.t n m (by omega)]
 ·rw [blt_false h, cond_false, cond_false, if_neg (by omega)]
theorem St.get_push {σ : St} {m : Nat} {o : O} (hs : σ.size < 4096) : (σ.push o).get m = if m = σ.size then some o else σ.get m := by
 rw [St.get_def, St.get_def]
 unfold St.push
 show (bif Nat.blt m (σ.size + 1) then getP (setP 13 σ.t σ.size o) m else none) = _
 by_cases h : m < σ.size + 1
 ·rw [bI.mpr h, cond_true, getP_setP o 13 σ.t σ.size m (by omega)]
  by_cases q : m = σ.size
  ·rw [if_pos q, if_pos q]
  ·rw [if_neg q, if_neg q, bI.mpr (by omega), cond_true]
 ·rw [blt_false h, cond_false, if_neg (by omega), blt_false (by omega), cond_false]
@[simp] theorem St.size_set (σ : St) (n : Nat) (o : O) : (σ.set n o).size = σ.size := rfl
@[simp] theorem St.size_push (σ : St) (o : O) : (σ.push o).size = σ.size + 1 := rfl
section
variable {α : Type}
noncomputable def natKI (n : Nat) (k : Nat → α) : α := k n
noncomputable def natK (n : Nat) (k : Nat → α) : α := Nat.rec (motive := fun _ => α) (k Nat.zero) (fun m _ => k (Nat.succ m)) n
theorem bZ (n : Nat) (k : Nat → α) : natK n k = k n := by cases n <;> rfl
noncomputable def vK (v : V) (k : V → α) : α := match v with
 | .int (.ofNat n) => natK n fun n => k (.int (.ofNat n))
 | .int (.negSucc n) => natK n fun n => k (.int (.negSucc n))
 | .str s => k (.str s)
 | .new n => natK n fun n => k (.new n)
 | .none => k .none
 | .bool true => k (.bool true)
 | .bool false => k (.bool false)
 | .ty t => k (.ty t)
 | .bt b => k (.bt b)
 | .old a => k (.old a)
 | .sym t => k (.sym t)
 | .any => k .any
theorem vK_eq (v : V) (k : V → α) : vK v k = k v := by
 cases v with
 | int i => cases i with
  | ofNat n => exact bZ n fun n => k (.int (.ofNat n))
  | negSucc n => exact bZ n fun n => k (.int (.negSucc n))
 | new n => exact bZ n fun n => k (.new n)
 | bool b => cases b <;> rfl
 | _ => rfl
noncomputable def vsKI : List V → (List V → α) → α := fun l k => k l
noncomputable def vsK (l : List V) : (List V → α) → α := List.rec (motive := fun _ => (List V → α) → α) (fun k => k []) (fun v _ ih k => ih fun l => k (v :: l)) l
theorem vsK_eq : ∀ (l : List V) (k : List V → α), vsK l k = k l
 | [], _ => rfl
 | v :: l, k => by show vsK l (fun l => k (v :: l)) = _; rw [vsK_eq l]
noncomputable def mKI : List (Str × V) → (List (Str × V) → α) → α := fun l k => k l
noncomputable def mK (l : List (Str × V)) : (List (Str × V) → α) → α := List.rec (motive := fun _ => (List (Str × V) → α) → α) (fun k => k []) (fun p _ ih k => Prod.casesOn p fun x v => ih fun l => k ((x, v) :: l)) l
theorem mK_eq : ∀ (l : List (Str × V)) (k : List (Str × V) → α), mK l k = k l
 | [], _ => rfl
 | (x, v) :: l, k => by show mK l (fun l => k ((x, v) :: l)) = _; rw [mK_eq l]
noncomputable def oK (o : O) (k : O → α) : α := match o with
 | .ns m => mK m fun m => k (.ns m)
 | .dict m => mK m fun m => k (.dict m)
 | .at m => mK m fun m => k (.at m)
 | .list xs => vsK xs fun xs => k (.list xs)
 | .tup xs => vsK xs fun xs => k (.tup xs)
 | .inst C d => natK d fun d => k (.inst C d)
 | .cell (some v) => vK v fun v => k (.cell (some v))
 | .cell none => k (.cell none)
 | .fn f => k (.fn f)
 | .rng n => natK n fun n => k (.rng n)
 | .tab l => k (.tab l)
 | .iter true v i => vK v fun v => natK i fun i => k (.iter true v i)
 | .iter false v i => vK v fun v => natK i fun i => k (.iter false v i)
 | .rit i n => natK i fun i => natK n fun n => k (.rit i n)
 | .enm j i => natK j fun j => natK i fun i => k (.enm j i)
 | .junk => k .junk
 | .exo F d => k (.exo F d)
 | .atR m => mK m fun m => k (.atR m)
 | .mk t => k (.mk t)
 | .ro o => k (.ro o)
theorem oK_eq (o : O) (k : O → α) : oK o k = k o := by
 cases o with
 | ns m => exact mK_eq m _
 | dict m => exact mK_eq m _
 | «at» m => exact mK_eq m _
 | atR m => exact mK_eq m _
 | list xs => exact vsK_eq xs _
 | tup xs => exact vsK_eq xs _
 | inst C d => exact bZ d fun d => k (.inst C d)
 | rng n => exact bZ n fun n => k (.rng n)
 | rit i n => exact (bZ i fun i => natK n fun n => k (.rit i n)).trans (bZ n fun n => k (.rit i n))
 | enm j i => exact (bZ j fun j => natK i fun i => k (.enm j i)).trans (bZ i fun i => k (.enm j i))
 | cell v => cases v with | none => rfl | some v => exact vK_eq v fun v => k (.cell (some v))
 | iter l v i => cases l with
  | true => exact (vK_eq v fun v => natK i fun i => k (.iter true v i)).trans (bZ i fun i => k (.iter true v i))
  | false => exact (vK_eq v fun v => natK i fun i => k (.iter false v i)).trans (bZ i fun i => k (.iter false v i))
 | _ => rfl
noncomputable def setKI : Nat → Tr → Nat → O → (Tr → α) → α := fun d t n o k => k (setP d t n o)
noncomputable def setK (d : Nat) : Tr → Nat → O → (Tr → α) → α := Nat.rec (motive := fun _ => Tr → Nat → O → (Tr → α) → α) (fun t _ _ k => k t)
 (fun _ ih t n o k => Tr.casesOn (motive := fun _ => α) t
  (Nat.rec (motive := fun _ => α) (k (.node (some o) .nil .nil)) (fun q _ => Nat.rec (motive := fun _ => α) (ih .nil (Nat.div q 2) o fun l => k (.node none l .nil)) (fun _ _ => ih .nil (Nat.div q 2) o fun r => k (.node none .nil r)) (Nat.mod q 2)) n)
  fun v l r => Nat.rec (motive := fun _ => α) (k (.node (some o) l r)) (fun q _ => Nat.rec (motive := fun _ => α) (ih l (Nat.div q 2) o fun l => k (.node v l r)) (fun _ _ => ih r (Nat.div q 2) o fun r => k (.node v l r)) (Nat.mod q 2)) n) d
theorem setK_eq : ∀ (d : Nat) (t : Tr) (n : Nat) (o : O) (k : Tr → α), setK d t n o k = k (setP d t n o)
 | 0, _, _, _, _ => rfl
 | d + 1, t, 0, o, k => by cases t <;> rfl
 | d + 1, t, q + 1, o, k => by
  unfold setP
  cases t with
  | nil =>
   refine (rec2 q (setK d .nil (q / 2) o fun l => k (.node none l .nil)) (setK d .nil (q / 2) o fun r => k (.node none .nil r))).trans ?_
   cases Nat.beq (q % 2) 0 <;> simp only [cond_true, cond_false, setK_eq d, Tr.lft, Tr.rgt, Tr.val]
  | node v l r =>
   refine (rec2 q (setK d l (q / 2) o fun l => k (.node v l r)) (setK d r (q / 2) o fun r => k (.node v l r))).trans ?_
   cases Nat.beq (q % 2) 0 <;> simp only [cond_true, cond_false, setK_eq d, Tr.lft, Tr.rgt, Tr.val]
noncomputable def St.setThen (σ : St) (n : Nat) (o : O) (k : St → α) : α := oK o fun o => setK 13 σ.t n o fun t => k ⟨σ.size, t⟩
theorem St.setThen_eq (σ : St) (n : Nat) (o : O) (k : St → α) : σ.setThen n o k = k (σ.set n o) := by unfold setThen; rw [oK_eq, setK_eq]; rfl
noncomputable def St.pushThen (σ : St) (o : O) (k : Nat → St → α) : α := oK o fun o => natK σ.size fun n => setK 13 σ.t n o fun t => natK (n + 1) fun m => k n ⟨m, t⟩
theorem St.pushThen_eq (σ : St) (o : O) (k : Nat → St → α) : σ.pushThen o k = k σ.size (σ.push o) := by unfold pushThen; rw [oK_eq, bZ, setK_eq, bZ]; rfl
end
noncomputable def isSc : V → Bool
 | .bool _ => true
 | .int _ => true
 | .str _ => true
 | _ => false
class Tau where
 tau : List Nat → V
 sc : ∀ t, isSc (tau t) = true
 mkD : List Nat → Heap → Obj → Prop
 mono : ∀ {t : List Nat} {B B' : Heap} {ob : Obj}, (∀ b o, B.get? b = some o → B'.get? b = some o) → mkD t B ob → mkD t B' ob
noncomputable def ScR : V → Value → Prop
 | .bool b, u => u = .bool b
 | .int i, u => ∃ t, u = .int i t
 | .str s, u => ∃ t, u = .str s t
 | _, _ => False
variable [Tau]
noncomputable def VR (ρ : List Addr) : V → Value → Prop
 | .sym t, u => ScR (Tau.tau t) u
 | .none, u => u = .none
 | .bool b, u => u = .bool b
 | .int i, u => ∃ t, u = .int i t
 | .str s, u => ∃ t, u = .str s t
 | .ty n, u => u = .type n.name
 | .bt n, u => u = .builtin n.name
 | .old a, u => u = .ref a
 | .new n, u => ∃ a, ρ[n]? = some a ∧ u = .ref a
 | .any, u => handedIn u = true
theorem pG {ρ ρ' : List Addr} (h : ρ <+: ρ') {n : Nat} {a : Addr} (e : ρ[n]? = some a) : ρ'[n]? = some a := by
 revert h; refine xvp fun r q1 => ?_; subst q1
 rw [List.getElem?_append_left (List.getElem?_eq_some_iff.mp e).1, e]
theorem VR.mono {ρ ρ' : List Addr} (h : ρ <+: ρ') {v : V} {u : Value} (e : VR ρ v u) : VR ρ' v u := by
 cases v <;> first | exact e | skip
 revert e; refine aQ fun a e q1 => ?_; subst q1
 exact ⟨a, pG h e, rfl⟩
noncomputable def OptR (ρ : List Addr) (o : Option V) (x : Option Value) : Prop := match o with
 | some v => (match x with
  | some u => VR ρ v u
  | none => False)
 | none => (match x with
  | some _ => False
  | none => True)
theorem OptR.mono {ρ ρ' : List Addr} (h : ρ <+: ρ') {v : Option V} {u : Option Value} (e : OptR ρ v u) : OptR ρ' v u := by
 cases v with
 | none => exact e
 | some v => cases u with
  | none => exact e
  | some u => exact VR.mono h e
theorem OptR.some' {ρ : List Addr} {v : V} {u : Option Value} (e : OptR ρ (some v) u) : ∃ x, u = some x ∧ VR ρ v x := by
 cases u with
 | none => exact e.elim
 | some x => exact ⟨x, rfl, e⟩
theorem OptR.none' {ρ : List Addr} {u : Option Value} (e : OptR ρ none u) : u = none := by
 cases u with
 | none => rfl
 | some x => exact e.elim
noncomputable def MapR (ρ : List Addr) (m : List (Str × V)) (f : Str → Option Value) : Prop := ∀ x, OptR ρ (look m x) (f x)
theorem MapR.put {ρ : List Addr} {m : List (Str × V)} {f : Str → Option Value} (h : MapR ρ m f) {x : Str} {v : V} {u : Value} (e : VR ρ v u) : MapR ρ (put m x v) (fun y => if y = x then some u else f y) := by
 intro y
 rw [look_put]
 show OptR ρ _ (if y = x then some u else f y)
 by_cases q : y = x
 ·rw [if_pos q, if_pos q]; exact e
 ·rw [if_neg q, if_neg q]; exact h y
noncomputable def cQ (ρ : List Addr) : List V → List Value → Prop
 | [], us => (match us with
  | [] => True
  | _ :: _ => False)
 | v :: vs, us => (match us with
  | [] => False
  | u :: us => VR ρ v u ∧ cQ ρ vs us)
theorem cQ.ind {ρ : List Addr} {p : List V → List Value → Prop} (nil : p [] []) (cons : ∀ v vs u us, VR ρ v u → cQ ρ vs us → p vs us → p (v :: vs) (u :: us)) {vs : List V} : ∀ {us : List Value}, cQ ρ vs us → p vs us := by
 induction vs with
 | nil =>
  intro us h
  cases us with
  | nil => exact nil
  | cons => exact h.elim
 | cons v vs ih =>
  intro us h
  cases us with
  | nil => exact h.elim
  | cons u us => exact cons v vs u us h.1 h.2 (ih h.2)
theorem cQ.un {τ : Tau} {ρ : List Addr} {v : V} {vs : List V} {us : List Value} {r : Prop} (h : @cQ τ ρ (v :: vs) us) (k : ∀ u us', us = u :: us' → @VR τ ρ v u → @cQ τ ρ vs us' → r) : r := by
 cases us with
 | nil => exact h.elim
 | cons u us => exact k u us rfl h.1 h.2
theorem cQ.nl {τ : Tau} {ρ : List Addr} {us : List Value} (h : @cQ τ ρ [] us) : us = [] := by
 cases us with
 | nil => rfl
 | cons => exact h.elim
theorem cQ.mono {ρ ρ' : List Addr} (h : ρ <+: ρ') {vs : List V} {us : List Value} (a : cQ ρ vs us) : cQ ρ' vs us := a.ind (p := fun vs us => cQ ρ' vs us) trivial fun _ _ _ _ e _ r => ⟨e.mono h, r⟩
theorem cQ.len {ρ : List Addr} {vs : List V} {us : List Value} (a : cQ ρ vs us) : vs.length = us.length := a.ind (p := fun vs us => vs.length = us.length) rfl fun _ _ _ _ _ _ r => congrArg (· + 1) r
theorem cQ.get {ρ : List Addr} {vs : List V} {us : List Value} (a : cQ ρ vs us) : ∀ {i : Nat} {v : V}, vs[i]? = some v → ∃ u, us[i]? = some u ∧ VR ρ v u := fun {i v} => a.ind (p := fun vs us => ∀ i v, vs[i]? = some v → ∃ u, us[i]? = some u ∧ VR ρ v u) (fun i v h => by injection h) (fun v vs u us e _ r i v' q => by
 cases i with
 | zero => injection q with q1; subst q1; exact ⟨u, rfl, e⟩
 | succ i => exact r i v' q) i v
theorem cQ.append {ρ : List Addr} {vs ws : List V} {us xs : List Value} (a : cQ ρ vs us) (h : cQ ρ ws xs) : cQ ρ (vs ++ ws) (us ++ xs) := a.ind (p := fun vs us => cQ ρ (vs ++ ws) (us ++ xs)) h fun _ _ _ _ e _ r => ⟨e, r⟩
theorem cQ.set {ρ : List Addr} {v : V} {u : Value} (e : VR ρ v u) {vs : List V} {us : List Value} (a : cQ ρ vs us) : ∀ i, cQ ρ (vs.set i v) (us.set i u) := a.ind (p := fun vs us => ∀ i, cQ ρ (vs.set i v) (us.set i u)) (fun _ => trivial) fun v' vs u' us e' h r i => by
 cases i with
 | zero => exact ⟨e, h⟩
 | succ i => exact ⟨e', r i⟩
noncomputable def DR (ρ : List Addr) : List (Str × V) → List (Str × Value) → Prop
 | [], k => (match k with
  | [] => True
  | _ :: _ => False)
 | p :: m, k => (match k with
  | [] => False
  | q :: k => p.1 = q.1 ∧ VR ρ p.2 q.2 ∧ DR ρ m k)
theorem DR.ind {ρ : List Addr} {p : List (Str × V) → List (Str × Value) → Prop} (nil : p [] []) (cons : ∀ x v m u k, VR ρ v u → DR ρ m k → p m k → p ((x, v) :: m) ((x, u) :: k)) {m : List (Str × V)} : ∀ {k : List (Str × Value)}, DR ρ m k → p m k := by
 induction m with
 | nil =>
  intro us h
  cases us with
  | nil => exact nil
  | cons => exact h.elim
 | cons v vs ih =>
  intro us h
  cases us with
  | nil => exact h.elim
  | cons u us =>
   obtain ⟨x, v⟩ := v
   obtain ⟨y, u⟩ := u
   have h1 : x = y := h.1
   subst h1
   exact cons x v vs u us h.2.1 h.2.2 (ih h.2.2)
theorem DR.mono {ρ ρ' : List Addr} (h : ρ <+: ρ') {m : List (Str × V)} {k : List (Str × Value)} (a : DR ρ m k) : DR ρ' m k := a.ind (p := fun m k => DR ρ' m k) trivial fun _ _ _ _ _ e _ r => ⟨rfl, e.mono h, r⟩
theorem DR.len {ρ : List Addr} {m : List (Str × V)} {k : List (Str × Value)} (a : DR ρ m k) : m.length = k.length := a.ind (p := fun m k => m.length = k.length) rfl fun _ _ _ _ _ _ _ r => congrArg (· + 1) r
theorem eqS_no {a b : Str} (h : ¬ a = b) : eqS a b = false := Bool.eq_false_iff.mpr fun q => h (eI.mp q)
theorem DR.look {ρ : List Addr} {m : List (Str × V)} {k : List (Str × Value)} (a : DR ρ m k) (y : Str) : OptR ρ (Mine.look m y) (valueAt k y) := a.ind (p := fun m k => OptR ρ (Mine.look m y) (valueAt k y)) trivial fun x v m u k e _ r => by
 rw [Mine.look_cons]
 by_cases h : x = y
 ·subst h
  rw [eI.mpr rfl, cond_true, show valueAt ((x, u) :: k) x = some u by simp [valueAt]]
  exact e
 ·rw [eqS_no h, cond_false, show valueAt ((x, u) :: k) y = valueAt k y by simp [valueAt, List.find?_cons, h]]
  exact r
theorem stored_ne {k : List (Str × Value)} {x y : Str} {u w : Value} (h : ¬ x = y) : stored ((x, u) :: k) y w = (x, u) :: stored k y w := by
 unfold stored
 have h1 : ((x, u) :: k).any (fun kv => decide (kv.1 = y)) = k.any fun kv => decide (kv.1 = y) := by simp [h]
 rw [h1]
 split
 ·rw [List.map_cons, if_neg h]
 ·rfl
theorem stored_eq {k : List (Str × Value)} {x : Str} {u w : Value} (h : x ∉ k.map (·.1)) : stored ((x, u) :: k) x w = (x, w) :: k := by
 unfold stored
 simp only [List.any_cons, decide_true, Bool.true_or, if_true, List.map_cons]
 rw [map_store_of_not_mem k x w h]
theorem DR.put {ρ : List Addr} {x : Str} {v : V} {u : Value} (e : VR ρ v u) {m : List (Str × V)} {k : List (Str × Value)} (a : DR ρ m k) (hn : (k.map (·.1)).Nodup) : DR ρ (Mine.put m x v) (stored k x u) := a.ind (p := fun m k => (k.map (·.1)).Nodup → DR ρ (Mine.put m x v) (stored k x u)) (fun _ => ⟨rfl, e, trivial⟩) (fun y w m z k q h r hn => by
 rw [Mine.put_cons]
 have hn' := List.nodup_cons.mp hn
 by_cases hy : y = x
 ·subst hy
  rw [eI.mpr rfl, cond_true, stored_eq hn'.1]
  exact ⟨rfl, e, h⟩
 ·rw [eqS_no hy, cond_false, stored_ne hy]
  exact ⟨rfl, q, r hn'.2⟩) hn
theorem stored_keys {k : List (Str × Value)} {x : Str} {u : Value} {y : Str} : y ∈ (stored k x u).map (·.1) ↔ y ∈ k.map (·.1) ∨ y = x := by
 unfold stored
 split
 ·rename_i h
  refine aQ (fun p hp he => ?_) (List.any_eq_true.mp h)
  have he := of_decide_eq_true he
  have : (k.map fun kv => if kv.1 = x then (kv.1, u) else kv).map (·.1) = k.map (·.1) := by
   rw [List.map_map]
   refine List.map_congr_left fun a _ => ?_
   show (if a.1 = x then (a.1, u) else a).1 = a.1
   split <;> rfl
  rw [this]
  constructor
  ·exact .inl
  ·rintro (h | rfl)
   ·exact h
   ·exact List.mem_map.mpr ⟨p, hp, he⟩
 ·simp [or_comm, eq_comm]
theorem stored_nodup {x : Str} {u : Value} : ∀ {k : List (Str × Value)}, (k.map (·.1)).Nodup → ((stored k x u).map (·.1)).Nodup
 | [], _ => by simp [stored]
 | (y, z) :: k, hn => by
  have hn' := List.nodup_cons.mp hn
  by_cases h : y = x
  ·subst h
   rw [stored_eq hn'.1]; exact hn
  ·rw [stored_ne h, List.map_cons, List.nodup_cons]
   exact ⟨fun q => (stored_keys.mp q).elim hn'.1 h, stored_nodup hn'.2⟩
theorem DR.merge {ρ : List Addr} {fs : List (Str × V)} {more : List (Str × Value)} {m : List (Str × V)} {k : List (Str × Value)} (a : DR ρ fs more) (h : DR ρ m k) (hn : (k.map (·.1)).Nodup) :
  DR ρ (fs.foldl (fun es p => Mine.put es p.1 p.2) m) (merged k more) := a.ind (p := fun fs more => ∀ (m : List (Str × V)) (k : List (Str × Value)), DR ρ m k → (k.map (·.1)).Nodup → DR ρ (fs.foldl (fun (es : List (Str × V)) (p : Str × V) => Mine.put es p.1 p.2) m) (merged k more)) (fun _ _ h _ => h) (fun x v fs u more e _ r m k h hn => r (Mine.put m x v) (stored k x u) (h.put e hn) (stored_nodup hn)) m k h hn
noncomputable def fJ (ρ : List Addr) : List (Str × Nat) → List (Str × Addr) → Prop
 | [], k => (match k with
  | [] => True
  | _ :: _ => False)
 | p :: m, k => (match k with
  | [] => False
  | q :: k => p.1 = q.1 ∧ ρ[p.2]? = some q.2 ∧ fJ ρ m k)
theorem fJ.ind {ρ : List Addr} {p : List (Str × Nat) → List (Str × Addr) → Prop} (nil : p [] []) (cons : ∀ x n m a k, ρ[n]? = some a → fJ ρ m k → p m k → p ((x, n) :: m) ((x, a) :: k)) {m : List (Str × Nat)} : ∀ {k : List (Str × Addr)}, fJ ρ m k → p m k := by
 induction m with
 | nil =>
  intro us h
  cases us with
  | nil => exact nil
  | cons => exact h.elim
 | cons v vs ih =>
  intro us h
  cases us with
  | nil => exact h.elim
  | cons u us =>
   obtain ⟨x, v⟩ := v
   obtain ⟨y, u⟩ := u
   have h1 : x = y := h.1
   subst h1
   exact cons x v vs u us h.2.1 h.2.2 (ih h.2.2)
theorem fJ.mono {ρ ρ' : List Addr} (h : ρ <+: ρ') {c : List (Str × Nat)} {d : List (Str × Addr)} (a : fJ ρ c d) : fJ ρ' c d := a.ind (p := fun c d => fJ ρ' c d) trivial fun _ _ _ _ _ e _ r => ⟨rfl, pG h e, r⟩
theorem fJ.get {ρ : List Addr} {c : List (Str × Nat)} {d : List (Str × Addr)} (a : fJ ρ c d) {y : Str} {m : Nat} (hl : look c y = some m) : ∃ a, d.lookup y = some a ∧ ρ[m]? = some a := a.ind (p := fun c d => look c y = some m → ∃ a, d.lookup y = some a ∧ ρ[m]? = some a) (fun h => by injection h) (fun x n r a q e _ ih hl => by
 rw [look_cons] at hl
 rw [List.lookup_cons]
 by_cases hk : x = y
 ·subst hk
  rw [eI.mpr rfl, cond_true] at hl
  injection hl with q1; subst q1
  exact ⟨a, by rw [beq_self_eq_true], e⟩
 ·rw [eqS_no hk, cond_false] at hl
  rw [beq_false_of_ne (Ne.symm hk)]
  exact ih hl) hl
end
section
variable [Tau]
structure Wl where
 B : Heap
 ρ : List Addr
 fr : List Nat
 gens : Array GenState
 os : OsState
structure Wl.Le (X Y : Wl) : Prop where
 b : X.B.StaysIn Y.B
 r : X.ρ <+: Y.ρ
 f : Y.fr = X.fr
 g : Y.gens = X.gens
 o : Y.os = X.os
theorem Wl.Le.refl (X : Wl) : X.Le X := ⟨fun _ _ e => e, List.prefix_rfl, rfl, rfl, rfl⟩
theorem Wl.Le.trans {X Y Z : Wl} (h : X.Le Y) (k : Y.Le Z) : X.Le Z := ⟨fun b o e => k.b b o (h.b b o e), h.r.trans k.r, k.f.trans h.f, k.g.trans h.g, k.o.trans h.o⟩
noncomputable def findMade : List ((Nat × Nat) × Str) → Pos → Option Str
 | [], _ => none
 | ((l, c), q) :: r, p => if l == p.line && c == p.col then some q else findMade r p
structure FnD (B : Heap) (ρ : List Addr) (fd : FuncData) (f : Fn) : Prop where
 params : fd.params = f.params
 body : fd.body = f.body
 scope : fd.scope = f.scope
 qual : fd.qualname = f.qual
 globals : fd.globals = mainGlobals
 builtins : fd.builtins = builtinsNs
 dflt : fd.defaults = .none
 kwd : fd.kwdefaults = .none
 cells : fJ ρ f.cl fd.closure
 code : B.CodeRec fd.code fd.qualname
 tab : ∀ t, f.tab = some t → ∃ c P, fd.code = .ref c ∧ ρ[t]? = some P ∧ CodeHd B c P
noncomputable def TabD (B : Heap) (ps : Array Value) (made : List ((Nat × Nat) × Str)) : Prop :=
 TriplesOk ps.toList ∧ ∀ p : Pos, match findMade made p with
  | none => codeAmong p ps.toList = none
  | some q => ∃ c, codeAmong p ps.toList = some (.ref c) ∧ B.CodeRec (.ref c) q
section
variable (P : Program) (w : World)
noncomputable def pQ (X : Wl) (ob : Obj) : O → Prop
 | .ns m => ∃ es ep, ob.data = .dict es ep ∧ StrKeys es ∧ MapR X.ρ m (nsFind es)
 | .list xs => ∃ us n, ob = { cls := .type "list", dict := none, data := .seq us n, slots := #[] } ∧ cQ X.ρ xs us.toList
 | .tup xs => ∃ us n, ob = { cls := .type "tuple", dict := none, data := .seq us n, slots := #[] } ∧ cQ X.ρ xs us.toList
 | .dict m => ∃ kvs, ob.IsDictOf (strKind P w) kvs ∧ DR X.ρ m kvs
 | .at m => ∃ es ep, ob.data = .dict es ep ∧ StrKeys es ∧ es.size ≤ m.length ∧ MapR X.ρ m (nsFind es)
 | .inst C d => ∃ dx, X.ρ[d]? = some dx ∧ ob = instObj C dx
 | .cell v => ∃ u, ob.data = .cell u ∧ OptR X.ρ v u
 | .fn f => ob.cls = .type "function" ∧ ob.dict = none ∧ ∃ fd, ob.data = .func fd ∧ FnD X.B X.ρ fd f
 | .rng n => ∃ t u v, ob = { cls := .type "range", dict := none, data := .fields #[.int 0 t, .int n u, .int 1 v], slots := #[] }
 | .tab made => ∃ ps, ob = tabObj ps ∧ TabD X.B ps made
 | .iter l v i => ∃ a, VR X.ρ v (.ref a) ∧ ob.cls = .type (bif l then "list_iterator" else "tuple_iterator") ∧ ob.data = .fields #[.ref a, .int i 0]
 | .rit i k => ob = { cls := .type "range_iterator", dict := none, data := .fields #[rawInt i, rawInt k, rawInt 1], slots := #[] }
 | .enm j i => ∃ it old, X.ρ[j]? = some it ∧ ob = { cls := .type "enumerate", dict := none, data := .fields #[.none, .bool false, .ref it, rawInt i, .none, old], slots := #[] }
 | .junk => True
 | .atR m => ∃ es ep, ob.data = .dict es ep ∧ StrKeys es ∧ es.size ≤ m.length ∧ MapR X.ρ m (nsFind es)
 | .mk t => Tau.mkD t X.B ob
 | .ro o => pQ X ob o
 | .exo F d => ob.cls = .ref F ∧ (d = false → ob.dict = none) ∧ ∃ vs a0, ob.data = .fields vs ∧ vs[0]? = some a0 ∧ vs[1]? = some .none
variable {P w}
theorem jJ {B B' : Heap} (k : B.StaysIn B') {c : Value} {q : Str} (h : B.CodeRec c q) : B'.CodeRec c q :=
 h.imp fun _ => Exists.imp fun _ => Exists.imp fun _ => Exists.imp fun _ h => ⟨h.1, k _ _ h.2.1, h.2.2⟩
theorem FnD.mono {X Y : Wl} (h : X.Le Y) {fd : FuncData} {f : Fn} (e : FnD X.B X.ρ fd f) : FnD Y.B Y.ρ fd f :=
 ⟨e.params, e.body, e.scope, e.qual, e.globals, e.builtins, e.dflt, e.kwd, e.cells.mono h.r, jJ h.b e.code, fun t ht =>
  let ⟨c, P, h1, h2, h3⟩ := e.tab t ht; ⟨c, P, h1, pG h.r h2, h3.keeps h.b⟩⟩
theorem TabD.mono {B B' : Heap} (k : B.StaysIn B') {ps : Array Value} {made : List ((Nat × Nat) × Str)} (h : TabD B ps made) : TabD B' ps made :=
 ⟨h.1, fun p => by
  have := h.2 p
  revert this
  cases findMade made p with
  | none => exact id
  | some q => exact fun ⟨c, h1, h2⟩ => ⟨c, h1, jJ k h2⟩⟩
theorem MapR.mono {ρ ρ' : List Addr} (h : ρ <+: ρ') {m : List (Str × V)} {f : Str → Option Value} (e : MapR ρ m f) : MapR ρ' m f := fun x => (e x).mono h
theorem pQ.mono {X Y : Wl} (h : X.Le Y) {ob : Obj} {o : O} : pQ P w X ob o → pQ P w Y ob o := by
 induction o with
 | ro o ih => exact ih
 | ns | «at» | atR => exact Exists.imp fun _ => Exists.imp fun _ h1 => ⟨h1.1, h1.2.1, by first | exact h1.2.2.mono h.r | exact ⟨h1.2.2.1, h1.2.2.2.mono h.r⟩⟩
 | list | tup => exact Exists.imp fun _ => Exists.imp fun _ h1 => ⟨h1.1, h1.2.mono h.r⟩
 | dict | cell => exact Exists.imp fun _ h1 => ⟨h1.1, h1.2.mono h.r⟩
 | inst => exact Exists.imp fun _ h1 => ⟨pG h.r h1.1, h1.2⟩
 | fn => exact fun h1 => ⟨h1.1, h1.2.1, h1.2.2.imp fun _ h2 => ⟨h2.1, h2.2.mono h⟩⟩
 | tab => exact Exists.imp fun _ h1 => ⟨h1.1, h1.2.mono h.b⟩
 | iter => exact Exists.imp fun _ h1 => ⟨h1.1.mono h.r, h1.2⟩
 | enm => exact Exists.imp fun _ => Exists.imp fun _ h1 => ⟨pG h.r h1.1, h1.2⟩
 | mk => exact Tau.mono h.b
 | _ => exact id
noncomputable def O.mut : O → Bool
 | .tup _ => false
 | .inst _ _ => false
 | .fn _ => false
 | .rng _ => false
 | .junk => false
 | .atR _ => false
 | .mk _ => false
 | .ro _ => false
 | _ => true
theorem O.mut_ne {o : O} (h : o.mut = true) : o ≠ .junk := by rintro rfl; injection h
structure Rel (P : Program) (w : World) (X : Wl) (σ : St) (s : Shared) : Prop where
 keep : X.B.StaysIn s.heap
 fresh : ∀ n o a, σ.get n = some o → o.mut = true → X.ρ[n]? = some a → X.B.get? a = none
 nodup : ∀ n m o o' a, σ.get n = some o → σ.get m = some o' → o.mut = true → o' ≠ .junk → X.ρ[n]? = some a → X.ρ[m]? = some a → n = m
 len : X.ρ.length = σ.size
 room : σ.size ≤ 4096
 objs : ∀ (n : Nat) (o : O), σ.get n = some o → o ≠ .junk → ∃ a ob, X.ρ[n]? = some a ∧ s.heap.get? a = some ob ∧ pQ P w X ob o
 all : ∀ n, n < σ.size → (σ.get n).isSome
 frs : ∀ k ∈ X.fr, ∃ m : List (Str × V), σ.get k = some (.ns m)
 gens : s.gens = X.gens
 os : s.os = X.os
 sys : ∀ n o a, σ.get n = some (.ro o) → X.ρ[n]? = some a → a ≠ sysModules
theorem Rel.at {X : Wl} {σ : St} {s : Shared} (R : Rel P w X σ s) {n : Nat} {o : O} (e : σ.get n = some o) {a : Addr} (ea : X.ρ[n]? = some a) (hj : autoParam (o ≠ .junk) Mine.nj) : ∃ ob, s.heap.get? a = some ob ∧ pQ P w X ob o := by
 refine oQ (fun b ob h1 h2 h3 => ?_) (R.objs n o e hj)
 rw [ea] at h1; injection h1 with q1; subst q1
 exact ⟨ob, h2, h3⟩
theorem Rel.rat {X : Wl} {σ : St} {s : Shared} (R : Rel P w X σ s) {n : Nat} {o : O} (e : rd (σ.get n) = some o) {a : Addr} (ea : X.ρ[n]? = some a) (hj : autoParam (o ≠ .junk) Mine.nj) : ∃ ob, s.heap.get? a = some ob ∧ pQ P w X ob o := by
 refine orE (fun e => ?_) (fun e => ?_) (rd_some e)
 ·exact R.at e ea hj
 ·exact R.at (o := .ro o) e ea
theorem Rel.addr {X : Wl} {σ : St} {s : Shared} (R : Rel P w X σ s) {n : Nat} (hn : n < σ.size) : ∃ a, X.ρ[n]? = some a := ⟨X.ρ[n]'(R.len ▸ hn), List.getElem?_eq_getElem _⟩
theorem Rel.isin {X : Wl} {σ : St} {s : Shared} (R : Rel P w X σ s) {n : Nat} {o : O} (e : σ.get n = some o) : ∃ a, X.ρ[n]? = some a := R.addr (St.get_lt e)
theorem Rel.same {X : Wl} {σ : St} {s s' : Shared} (R : Rel P w X σ s) (hh : autoParam (s'.heap = s.heap) Mine.rf) (hg : autoParam (s'.gens = s.gens) Mine.rf) (ho : autoParam (s'.os = s.os) Mine.rf) : Rel P w X σ s' :=
 ⟨hh ▸ R.keep, R.fresh, R.nodup, R.len, R.room, hh ▸ R.objs, R.all, R.frs, hg.trans R.gens, ho.trans R.os, R.sys⟩
theorem Rel.keeps {X : Wl} {σ : St} {s s' : Shared} (R : Rel P w X σ s) (hk : ∀ b o, s.heap.get? b = some o → s'.heap.get? b = some o) (hg : autoParam (s'.gens = s.gens) Mine.rf) (ho : autoParam (s'.os = s.os) Mine.rf) : Rel P w X σ s' :=
 ⟨fun b o e => hk b o (R.keep b o e), R.fresh, R.nodup, R.len, R.room, fun n o e hj => (R.objs n o e hj).imp fun _ => Exists.imp fun _ h => ⟨h.1, hk _ _ h.2.1, h.2.2⟩, R.all, R.frs, hg.trans R.gens, ho.trans R.os, R.sys⟩
theorem Rel.push {X : Wl} {σ : St} {s s' : Shared} (R : Rel P w X σ s) (o : Obj) (hh : autoParam (s'.heap = s.heap.push o) Mine.rf) (hg : autoParam (s'.gens = s.gens) Mine.rf) (ho : autoParam (s'.os = s.os) Mine.rf) : Rel P w X σ s' :=
 R.keeps (fun b ob e => by rw [hh]; exact Heap.get?_push_of_some _ e) hg ho
noncomputable def Wl.add (X : Wl) (a : Addr) : Wl := { X with ρ := X.ρ ++ [a] }
theorem Wl.le_add (X : Wl) (a : Addr) : X.Le (X.add a) := ⟨fun _ _ e => e, List.prefix_append _ _, rfl, rfl, rfl⟩
theorem Wl.add_get {X : Wl} {n : Nat} {a : Addr} (h : X.ρ.length = n) : (X.add a).ρ[n]? = some a := by
 subst h; show (X.ρ ++ [a])[X.ρ.length]? = _; simp
theorem Wl.add_lt {X : Wl} {n : Nat} {a : Addr} (h : n < X.ρ.length) : (X.add a).ρ[n]? = X.ρ[n]? := List.getElem?_append_left h
theorem Rel.alloc' {X : Wl} {σ : St} {s s' : Shared} {a : Addr} {ob : Obj} {o : O} (R : Rel P w X σ s) (hz : σ.size < 4096) (hn : ∀ k o', σ.get k = some o' → o' ≠ .junk → X.ρ[k]? = some a → False) (hB : X.B.get? a = none) (hk : ∀ b o, s.heap.get? b = some o → s'.heap.get? b = some o)
  (ha : s'.heap.get? a = some ob) (hd : pQ P w (X.add a) ob o) (hg : autoParam (s'.gens = s.gens) Mine.rf) (ho : autoParam (s'.os = s.os) Mine.rf) (hro : autoParam (∀ o', o ≠ .ro o') Mine.nk) : Rel P w (X.add a) (σ.push o) s' where
 keep := fun b o e => hk b o (R.keep b o e)
 fresh := fun n o' b e j h => by
  rw [St.get_push hz] at e
  by_cases q : n = σ.size
  ·rw [q, Wl.add_get R.len] at h
   injection h with q1; subst q1
   exact hB
  ·rw [if_neg q] at e
   rw [Wl.add_lt (R.len ▸ St.get_lt e)] at h
   exact R.fresh n o' b e j h
 nodup := fun n m o₁ o₂ b e₁ e₂ j₁ j₂ h₁ h₂ => by
  have old : ∀ {k : Nat} {o' : O}, σ.get k = some o' → o' ≠ .junk → (X.add a).ρ[k]? = some a → False := fun {k o'} e j h => by
   rw [Wl.add_lt (R.len ▸ St.get_lt e)] at h
   exact hn _ _ e j h
  rw [St.get_push hz] at e₁ e₂
  by_cases q₁ : n = σ.size <;> by_cases q₂ : m = σ.size
  ·rw [q₁, q₂]
  ·rw [if_neg q₂] at e₂
   rw [q₁, Wl.add_get R.len] at h₁
   injection h₁ with q1; subst q1
   exact (old e₂ j₂ h₂).elim
  ·rw [if_neg q₁] at e₁
   rw [q₂, Wl.add_get R.len] at h₂
   injection h₂ with q1; subst q1
   exact (old e₁ (O.mut_ne j₁) h₁).elim
  ·rw [if_neg q₁] at e₁
   rw [if_neg q₂] at e₂
   rw [Wl.add_lt (R.len ▸ St.get_lt e₁)] at h₁
   rw [Wl.add_lt (R.len ▸ St.get_lt e₂)] at h₂
   exact R.nodup n m o₁ o₂ b e₁ e₂ j₁ j₂ h₁ h₂
 len := by show (X.ρ ++ [a]).length = _; rw [List.length_append, R.len]; rfl
 room := by rw [St.size_push]; omega
 objs := fun n o' e j => by
  rw [St.get_push hz] at e
  by_cases q : n = σ.size
  ·rw [if_pos q] at e
   injection e with q1; subst q1
   exact ⟨a, ob, Wl.add_get (by rw [R.len, q]), ha, hd⟩
  ·rw [if_neg q] at e
   refine oQ (fun b ob' h1 h2 h3 => ?_) (R.objs n o' e j)
   exact ⟨b, ob', pG (X.le_add a).r h1, hk _ _ h2, h3.mono (X.le_add a)⟩
 all := fun n h => by
  rw [St.get_push hz]
  split
  ·rfl
  ·exact R.all n (by rw [St.size_push] at h; omega)
 frs := fun k hk => by
  refine xvp (fun m h2 => ?_) (R.frs k hk)
  refine ⟨m, ?_⟩
  rw [St.get_push hz, if_neg (Nat.ne_of_lt (St.get_lt h2))]; exact h2
 gens := hg.trans R.gens
 os := ho.trans R.os
 sys := fun n o' b e h => by
  rw [St.get_push hz] at e
  by_cases q : n = σ.size
  ·rw [if_pos q] at e; exact (hro o' (Option.some.inj e)).elim
  ·rw [if_neg q] at e
   rw [Wl.add_lt (R.len ▸ St.get_lt e)] at h
   exact R.sys n o' b e h
theorem Rel.alloc {X : Wl} {σ : St} {s s' : Shared} {a : Addr} {ob : Obj} {o : O} (R : Rel P w X σ s) (hz : σ.size < 4096) (hn : s.heap.get? a = none) (hk : ∀ b o, s.heap.get? b = some o → s'.heap.get? b = some o)
  (ha : s'.heap.get? a = some ob) (hd : pQ P w (X.add a) ob o) (hg : autoParam (s'.gens = s.gens) Mine.rf) (ho : autoParam (s'.os = s.os) Mine.rf) (hro : autoParam (∀ o', o ≠ .ro o') Mine.nk) : Rel P w (X.add a) (σ.push o) s' := by
 refine R.alloc' hz (fun k o' e j h => ?_) ?_ hk ha hd hg ho hro
 ·refine xvpd (fun ob' h1 => ?_) (R.at e h j)
  rw [hn] at h1; injection h1
 ·refine gE (X.B.get? a) (fun q => ?_) (fun x q => ?_)
  ·rfl
  ·have := R.keep a x q; rw [hn] at this; injection this
theorem Rel.set {X : Wl} {σ : St} {s s' : Shared} {n : Nat} {a : Addr} {ob : Obj} {o o₀ : O} (R : Rel P w X σ s) (e₀ : σ.get n = some o₀) (ea : X.ρ[n]? = some a) (hs : ∀ b, b ≠ a → ∀ o, s.heap.get? b = some o → s'.heap.get? b = some o) (ha : s'.heap.get? a = some ob) (hd : pQ P w X ob o)
  (hn : ∀ m, o₀ = .ns m → ∃ m', o = .ns m') (hj : autoParam (o₀.mut = true) Mine.rf)
  (hg : autoParam (s'.gens = s.gens) Mine.rf) (ho : autoParam (s'.os = s.os) Mine.rf) (hro : autoParam (∀ o', o ≠ .ro o') Mine.nk) : Rel P w X (σ.set n o) s' :=
 have hl : n < σ.size := R.len ▸ (List.getElem?_eq_some_iff.mp ea).1
 {keep := fun b o e => hs b (fun q => by subst q; rw [R.fresh _ _ b e₀ hj ea] at e; injection e) o (R.keep b o e)
  fresh := fun p o₁ b e₁ j₁ h₁ => by
   rw [St.get_set hl R.room] at e₁
   by_cases q₁ : p = n
   ·subst q₁
    exact R.fresh _ _ b e₀ hj h₁
   ·rw [if_neg q₁] at e₁
    exact R.fresh _ _ b e₁ j₁ h₁
  nodup := fun p q o₁ o₂ b e₁ e₂ j₁ j₂ h₁ h₂ => by
   rw [St.get_set hl R.room] at e₁ e₂
   by_cases q₁ : p = n <;> by_cases q₂ : q = n
   ·rw [q₁, q₂]
   ·rw [if_neg q₂] at e₂
    subst q₁
    exact R.nodup _ _ _ _ b e₀ e₂ hj j₂ h₁ h₂
   ·rw [if_neg q₁] at e₁
    subst q₂
    exact R.nodup _ _ _ _ b e₁ e₀ j₁ (O.mut_ne hj) h₁ h₂
   ·rw [if_neg q₁] at e₁
    rw [if_neg q₂] at e₂
    exact R.nodup _ _ _ _ b e₁ e₂ j₁ j₂ h₁ h₂
  len := R.len
  room := R.room
  objs := fun m o' e j => by
   rw [St.get_set hl R.room] at e
   by_cases q : m = n
   ·rw [if_pos q] at e
    injection e with q1; subst q1
    subst q
    exact ⟨a, ob, ea, ha, hd⟩
   ·rw [if_neg q] at e
    refine oQ (fun b ob' h1 h2 h3 => ?_) (R.objs m o' e j)
    refine ⟨b, ob', h1, hs b (fun z => q ?_) _ h2, h3⟩
    clear hs ha; subst z
    exact (R.nodup _ _ _ _ b e₀ e hj j ea h1).symm
  all := fun m h => by
   rw [St.get_set hl R.room]
   split
   ·rfl
   ·exact R.all m h
  frs := fun k hb => by
   refine xvp (fun m h2 => ?_) (R.frs k hb)
   by_cases q : k = n
   ·clear ea; subst q
    rw [e₀] at h2
    injection h2 with q1; clear hj e₀; subst q1
    refine xvp (fun m' q1 => ?_) (hn m rfl); clear hd hn; subst q1
    exact ⟨m', by rw [St.get_set hl R.room, if_pos rfl]⟩
   ·exact ⟨m, by rw [St.get_set hl R.room, if_neg q]; exact h2⟩
  gens := hg.trans R.gens
  os := ho.trans R.os
  sys := fun p o' b e h => by
   rw [St.get_set hl R.room] at e
   by_cases q : p = n
   ·rw [if_pos q] at e; exact (hro o' (Option.some.inj e)).elim
   ·rw [if_neg q] at e; exact R.sys p o' b e h }
theorem Rel.kill {X : Wl} {σ : St} {s s' : Shared} {n : Nat} {a : Addr} {o₀ : O} (R : Rel P w X σ s) (e₀ : σ.get n = some o₀) (ea : X.ρ[n]? = some a) (hs : ∀ b, b ≠ a → ∀ o, s.heap.get? b = some o → s'.heap.get? b = some o) (hf : n ∉ X.fr) (hj : autoParam (o₀.mut = true) Mine.rf)
  (hg : autoParam (s'.gens = s.gens) Mine.rf) (ho : autoParam (s'.os = s.os) Mine.rf) : Rel P w X (σ.set n .junk) s' :=
 have hl : n < σ.size := St.get_lt e₀
 {keep := fun b o e => hs b (fun q => by subst q; rw [R.fresh _ _ b e₀ hj ea] at e; injection e) o (R.keep b o e)
  fresh := fun p o₁ b e₁ j₁ h₁ => by
   rw [St.get_set hl R.room] at e₁
   by_cases q₁ : p = n
   ·rw [if_pos q₁] at e₁; injection e₁ with q1; subst q1; injection j₁
   ·rw [if_neg q₁] at e₁
    exact R.fresh _ _ b e₁ j₁ h₁
  nodup := fun p q o₁ o₂ b e₁ e₂ j₁ j₂ h₁ h₂ => by
   rw [St.get_set hl R.room] at e₁ e₂
   by_cases q₁ : p = n
   ·rw [if_pos q₁] at e₁; injection e₁ with q1; subst q1; injection j₁
   ·by_cases q₂ : q = n
    ·rw [if_pos q₂] at e₂; injection e₂ with q1; subst q1; exact (j₂ rfl).elim
    ·rw [if_neg q₁] at e₁
     rw [if_neg q₂] at e₂
     exact R.nodup _ _ _ _ b e₁ e₂ j₁ j₂ h₁ h₂
  len := R.len
  room := R.room
  objs := fun m o' e j => by
   rw [St.get_set hl R.room] at e
   by_cases q : m = n
   ·rw [if_pos q] at e; injection e with q1; subst q1; exact (j rfl).elim
   ·rw [if_neg q] at e
    refine oQ (fun b ob' h1 h2 h3 => ?_) (R.objs m o' e j)
    refine ⟨b, ob', h1, hs b (fun z => q ?_) _ h2, h3⟩
    clear hs; subst z
    exact (R.nodup _ _ _ _ b e₀ e hj j ea h1).symm
  all := fun m h => by
   rw [St.get_set hl R.room]
   split
   ·rfl
   ·exact R.all m h
  frs := fun k hb => by
   refine xvp (fun m h2 => ?_) (R.frs k hb)
   exact ⟨m, by rw [St.get_set hl R.room, if_neg (show ¬ k = n from fun q => hf (q ▸ hb))]; exact h2⟩
  gens := hg.trans R.gens
  os := ho.trans R.os
  sys := fun p o' b e h => by
   rw [St.get_set hl R.room] at e
   by_cases q : p = n
   ·rw [if_pos q] at e; injection e with q1; injection q1
   ·rw [if_neg q] at e; exact R.sys p o' b e h }
theorem Rel.dict {X : Wl} {σ : St} {s : Shared} (R : Rel P w X σ s) {n : Nat} {m : List (Str × V)} (e : rd (σ.get n) = some (.dict m)) {a : Addr} (ea : X.ρ[n]? = some a) : ∃ kvs, s.heap.DictOf (strKind P w) a kvs ∧ DR X.ρ m kvs := by
 refine xvpvpp (fun ob h1 kvs h2 h3 => ?_) (R.rat e ea)
 exact ⟨kvs, Heap.dictOf_iff.mpr ⟨ob, h1, h2⟩, h3⟩
theorem qQ {a : Addr} {h h' : Heap} (x : Heap.SameBut a h h') : ∀ b, b ≠ a → ∀ o, h.get? b = some o → h'.get? b = some o := fun b hb _ e => (x.2 b hb).trans e
end
end
theorem nos {α : Type} {x : α} {p : Prop} (h : (none : Option α) = some x) : p := by injection h
theorem aL {a b : Bool} (h : (a && b) = true) : a = true := (Bool.and_eq_true_iff.mp h).1
theorem aR {a b : Bool} (h : (a && b) = true) : b = true := (Bool.and_eq_true_iff.mp h).2
theorem bifs {α : Type} {c : Bool} {a r : α} (h : (bif c then some a else none) = some r) : c = true ∧ a = r := by
 cases c with
 | true => injection h with q1; subst q1; exact ⟨rfl, rfl⟩
 | false => injection h
theorem bifq {α : Type} {c : Bool} {a : Option α} {r : α} (h : (bif c then a else none) = some r) : c = true ∧ a = some r := by
 cases c with
 | true => exact ⟨rfl, h⟩
 | false => injection h
theorem bifn {α : Type} {c : Bool} {a : Option α} {r : α} (h : (bif c then none else a) = some r) : c = false ∧ a = some r := by
 cases c with
 | true => injection h
 | false => exact ⟨rfl, h⟩
theorem obind {α β : Type} {x : Option α} {f : α → Option β} {r : β} (h : x.bind f = some r) : ∃ a, x = some a ∧ f a = some r := by
 cases x with
 | none => injection h
 | some a => exact ⟨a, rfl, h⟩
noncomputable def newI (v : V) : Option Nat := match v with
 | .new n => some n
 | _ => none
theorem iZ {v : V} {n : Nat} (h : newI v = some n) : v = .new n := by cases v <;> first | exact nos h | ((injection h with q1; subst q1); rfl)
noncomputable def intI (v : V) : Option Int := match v with
 | .int n => some n
 | _ => none
theorem intI_ok {v : V} {n : Int} (h : intI v = some n) : v = .int n := by cases v <;> first | exact nos h | ((injection h with q1; subst q1); rfl)
noncomputable def nilB {α : Type} (l : List α) : Bool := match l with
 | [] => true
 | _ :: _ => false
theorem yQ {α : Type} {l : List α} (h : nilB l = true) : l = [] := by
 cases l with
 | nil => rfl
 | cons => exact Bool.noConfusion h
noncomputable def sJ {α : Type} (x : Option α) (f : α → Bool) : Bool := match x with
 | some a => f a
 | none => false
theorem isIt_ok {α : Type} {x : Option α} {f : α → Bool} (h : sJ x f = true) : ∃ a, x = some a ∧ f a = true := by
 cases x with
 | none => exact Bool.noConfusion h
 | some a => exact ⟨a, rfl, h⟩
noncomputable def oneI {α : Type} (l : List α) : Option α := match l with
 | [] => none
 | a :: r => bif nilB r then some a else none
theorem vJ {α : Type} {l : List α} {a : α} (h : oneI l = some a) : l = [a] := by
 cases l with
 | nil => injection h
 | cons b r =>
  refine xpp (fun h1 q1 => ?_) (bifs h); subst q1
  rw [yQ h1]
noncomputable def twoI {α : Type} (l : List α) : Option (α × α) := match l with
 | [] => none
 | a :: r => (oneI r).bind fun b => some (a, b)
theorem twoI_ok {α : Type} {l : List α} {p : α × α} (h : twoI l = some p) : l = [p.1, p.2] := by
 cases l with
 | nil => injection h
 | cons a r =>
  refine aQ (fun b h1 h2 => ?_) (obind h)
  injection h2 with q1; subst q1
  rw [vJ h1]
noncomputable def noB {α : Type} (x : Option α) : Bool := match x with
 | none => true
 | some _ => false
theorem noB_ok {α : Type} {x : Option α} (h : noB x = true) : x = none := by
 cases x with
 | none => rfl
 | some => exact Bool.noConfusion h
noncomputable def listI (o : Option O) : Option (List V) := o.bind fun o => match o with
 | .list xs => some xs
 | _ => none
theorem listI_ok {o : Option O} {xs : List V} (h : listI o = some xs) : o = some (.list xs) := by
 refine aQ (fun x q1 h => ?_) (obind h); subst q1
 cases x <;> first | exact nos h | ((injection h with q1; subst q1); rfl)
noncomputable def tupI (o : Option O) : Option (List V) := o.bind fun o => match o with
 | .tup xs => some xs
 | _ => none
theorem tupI_ok {o : Option O} {xs : List V} (h : tupI o = some xs) : o = some (.tup xs) := by
 refine aQ (fun x q1 h => ?_) (obind h); subst q1
 cases x <;> first | exact nos h | ((injection h with q1; subst q1); rfl)
noncomputable def mkI (o : Option O) : Option (List Nat) := o.bind fun o => match o with
 | .mk t => some t
 | _ => none
theorem mkI_ok {o : Option O} {t : List Nat} (h : mkI o = some t) : o = some (.mk t) := by
 refine aQ (fun x q1 h => ?_) (obind h); subst q1
 cases x <;> first | exact nos h | ((injection h with q1; subst q1); rfl)
noncomputable def atI (o : Option O) : Option (List (Str × V)) := o.bind fun o => match o with
 | .at m => some m
 | _ => none
theorem atI_ok {o : Option O} {m : List (Str × V)} (h : atI o = some m) : o = some (.at m) := by
 refine aQ (fun x q1 h => ?_) (obind h); subst q1
 cases x <;> first | exact nos h | ((injection h with q1; subst q1); rfl)
noncomputable def dictI (o : Option O) : Option (List (Str × V)) := o.bind fun o => match o with
 | .dict m => some m
 | _ => none
theorem dictI_ok {o : Option O} {m : List (Str × V)} (h : dictI o = some m) : o = some (.dict m) := by
 refine aQ (fun x q1 h => ?_) (obind h); subst q1
 cases x <;> first | exact nos h | ((injection h with q1; subst q1); rfl)
noncomputable def instI (C : Nat) (o : Option O) : Option Nat := o.bind fun o => match o with
 | .inst D d => bif Nat.beq D C then some d else none
 | _ => none
theorem instI_ok {C d : Nat} {o : Option O} (h : instI C o = some d) : o = some (.inst C d) := by
 refine aQ (fun x q1 h => ?_) (obind h); subst q1
 cases x with
 | inst D e =>
  refine xpp (fun h1 q1 => ?_) (bifs h); subst q1
  rw [nE h1]
 | _ => exact nos h
noncomputable def cellI (o : Option O) : Option Nat := o.bind fun o => match o with
 | .cell v => v.bind newI
 | _ => none
theorem cellI_ok {n : Nat} {o : Option O} (h : cellI o = some n) : o = some (.cell (some (.new n))) := by
 refine aQ (fun x q1 h' => ?_) (obind h); subst q1
 clear h
 cases x with
 | cell v =>
  refine aQ (fun u q1 h2 => ?_) (obind h'); subst q1
  rw [iZ h2]
 | _ => exact nos h'
noncomputable def fnI (o : Option O) : Option Fn := o.bind fun o => match o with
 | .fn f => some f
 | _ => none
theorem fnI_ok {o : Option O} {f : Fn} (h : fnI o = some f) : o = some (.fn f) := by
 refine aQ (fun x q1 h => ?_) (obind h); subst q1
 cases x <;> first | exact nos h | ((injection h with q1; subst q1); rfl)
noncomputable def roI (o : Option O) : Option O := o.bind fun o => match o with
 | .ro o => some o
 | _ => none
theorem roI_ok {o : Option O} {x : O} (h : roI o = some x) : o = some (.ro x) := by
 refine aQ (fun x q1 h => ?_) (obind h); subst q1
 cases x <;> first | exact nos h | ((injection h with q1; subst q1); rfl)
noncomputable def strI (v : V) : Option Str := match v with
 | .str x => some x
 | _ => none
theorem strI_ok {v : V} {x : Str} (h : strI v = some x) : v = .str x := by cases v <;> first | exact nos h | ((injection h with q1; subst q1); rfl)
noncomputable def headV (vs : List V) : Option (V × List V) := match vs with
 | [] => none
 | v :: r => some (v, r)
theorem headV_ok {vs : List V} {p : V × List V} (h : headV vs = some p) : vs = p.1 :: p.2 := by
 cases vs with
 | nil => exact nos h
 | cons => injection h with q1; subst q1; rfl
noncomputable def natI (v : V) : Option Nat := match intI v with
 | some i => (match i with
  | .ofNat n => some n
  | .negSucc _ => none)
 | none => none
theorem natI_ok {v : V} {n : Nat} (h : natI v = some n) : v = .int (.ofNat n) := by
 unfold natI at h
 refine oE (intI v) (fun h1 => ?_) (fun i h1 => ?_)
 ·rw [h1] at h; exact nos h
 ·
  rw [h1] at h
  cases i with
  | ofNat k => injection h with q1; subst q1; exact intI_ok h1
  | negSucc k => exact nos h
theorem oB {α β : Type} {x : Option α} {f : α → Option β} {r : β} {p : Prop} (k : ∀ a, x = some a → f a = some r → p) (h : x.bind f = some r) : p := aQ k (obind h)
theorem iF {α : Type} {c : Bool} {a r : α} {p : Prop} (k : c = true → a = r → p) (h : (bif c then some a else none) = some r) : p := xpp k (bifs h)
theorem iQ {α : Type} {c : Bool} {a : Option α} {r : α} {p : Prop} (k : c = true → a = some r → p) (h : (bif c then a else none) = some r) : p := xpp k (bifq h)
theorem iN {α : Type} {c : Bool} {a : Option α} {r : α} {p : Prop} (k : c = false → a = some r → p) (h : (bif c then none else a) = some r) : p := xpp k (bifn h)
theorem iI {α : Type} {x : Option α} {f : α → Bool} {p : Prop} (k : ∀ a, x = some a → f a = true → p) (h : sJ x f = true) : p := aQ k (isIt_ok h)
end Mine
end
section
open PySem PySem.W
namespace Mine
structure Ps where
 names : List Str
 dflt : List V
 deriving Inhabited
inductive Old where
 | fn (params : Arguments) (body : List Stmt) (scope : Scope) (qual : Str) (dflts : List V) (tab : Option Nat)
 | cls (mro : List Nat) (init : Nat) (meths : List (Str × Nat)) (attrs : List Str)
 | tup (xs : List V)
 | lst (xs : List V)
 deriving Inhabited
inductive Qn where
 | bin (op : Operator) (a b : V) | cmp (op : CmpOp) (a b : V) | max (a b : V) | sub (xs : List V) (i : V) | get (es : List (Str × V)) (k d : V) | join (s : Str) (xs : List V) | abs (v : V) | str (v : V)
structure Cx where
 globals : List (Str × V)
 olds : List (Nat × Old)
 fault : Nat
 quiet : Bool
 ne : List Nat → Str → Bool
 orc : Qn → Option V
structure Fr where
 loc : Nat
 scope : Scope
 cells : List (Str × Nat)
 qual : Str
 tab : Option Nat
inductive Ex where
 | fresh | fly | held
inductive Res (α : Type) where
 | ok (a : α) (σ : St) | exc (m : Ex) (σ : St) | stop (why : String)
noncomputable def Res.bind {α β : Type} : Res α → (α → St → Res β) → Res β
 | .ok a σ, f => f a σ
 | .exc b σ, _ => .exc b σ
 | .stop w, _ => .stop w
noncomputable def St.setF (σ : St) (n : Nat) (o : O) : St := σ.setThen n o id
noncomputable def St.pushF (σ : St) (o : O) : St := σ.pushThen o fun _ σ => σ
theorem St.setF_eq (σ : St) (n : Nat) (o : O) : σ.setF n o = σ.set n o := St.setThen_eq ..
theorem St.pushF_eq (σ : St) (o : O) : σ.pushF o = σ.push o := St.pushThen_eq ..
noncomputable def newR (σ : St) (o : O) : Res V := bif Nat.blt σ.size 4096 then σ.pushThen o (fun n σ => .ok (.new n) σ) else .stop "room"
theorem newR_eq (σ : St) (o : O) : newR σ o = bif Nat.blt σ.size 4096 then .ok (.new σ.size) (σ.pushF o) else .stop "room" := by unfold newR; rw [St.pushThen_eq, St.pushF_eq]
noncomputable def newSeq (σ : St) (tup : Bool) (xs : List V) : Res V := bif Nat.ble xs.length 5000 then newR σ (bif tup then .tup xs else .list xs) else .stop "long"
noncomputable def hJ : List O → St → Option St
 | [], σ => some σ
 | o :: l, σ => bif Nat.blt σ.size 4096 then hJ l (σ.pushF o) else none
inductive Fl where
 | next | ret (v : V)
noncomputable def lk {α : Type} : List (Nat × α) → Nat → Option α
 | [], _ => none
 | (k, v) :: r, x => if Nat.beq k x then some v else lk r x
noncomputable def atOf : Option O → Option (List (Str × V))
 | some (.at m) => some m
 | some (.atR m) => some m
 | _ => none
noncomputable def tyOldO (o : Old) : V := match o with
 | .tup _ => .ty .tup
 | .lst _ => .ty .list
 | .fn .. => .ty .fn
 | .cls .. => .ty .type
noncomputable def tyOld (o : Option Old) : V := match o with
 | some o => tyOldO o
 | none => .ty .type
noncomputable def tyInst (C : Nat) (m : Option (List (Str × V))) : V := match m with
 | some _ => .old C
 | none => .ty .unk
noncomputable def tyO (σ : St) (o : O) : V := match o with
 | .list _ => .ty .list
 | .tup _ => .ty .tup
 | .dict _ => .ty .dict
 | .inst C d => tyInst C (atOf (rd (σ.get d)))
 | .fn _ => .ty .fn
 | _ => .ty .unk
noncomputable def tyNew (σ : St) (o : Option O) : V := match o with
 | some o => tyO σ o
 | none => .ty .unk
noncomputable def tyOf (g : Cx) (σ : St) (v : V) : V := match v with
 | .none => .ty .none | .bool _ => .ty .bool | .int _ => .ty .int | .str _ => .ty .str | .ty _ => .ty .type | .bt _ => .ty .bt | .sym _ => .ty .unk | .any => .ty .unk
 | .old a => tyOld (lk g.olds a)
 | .new n => tyNew σ (rd (σ.get n))
noncomputable def hasN : List Nat → Nat → Bool
 | [], _ => false
 | a :: l, x => if Nat.beq a x then true else hasN l x
noncomputable def eqT : Ty → Ty → Bool
 | .none, .none | .bool, .bool | .int, .int | .str, .str | .list, .list | .tup, .tup | .dict, .dict | .bool, .int => true
 | _, _ => false
noncomputable def okT : Ty → Bool
 | .none | .bool | .int | .str | .list | .tup | .dict => true
 | _ => false
noncomputable def mroI (o : Option Old) : Option (List Nat) := o.bind fun o => match o with
 | .cls m _ _ _ => some m
 | _ => none
noncomputable def belowT (f : Nat → Option (List Nat)) (b : Ty) (a : V) : Option Bool := match a with
 | .ty a => bif okT a && okT b then some (eqT a b) else none
 | .old C => (f C).bind fun _ => bif okT b then some false else none
 | _ => none
noncomputable def belowC (f : Nat → Option (List Nat)) (D : Nat) (a : V) : Option Bool := match a with
 | .ty a => bif okT a then some false else none
 | .old C => (f C).bind fun m => some (hasN m D)
 | _ => none
noncomputable def isTyF (f : Nat → Option (List Nat)) (a c : V) : Option Bool := match c with
 | .ty b => belowT f b a
 | .old D => (f D).bind fun _ => belowC f D a
 | _ => none
noncomputable def isTy (g : Cx) (a c : V) : Option Bool := isTyF (fun C => mroI (lk g.olds C)) a c
noncomputable def isInst1 (g : Cx) (σ : St) (v c : V) : Option Bool := isTy g (tyOf g σ v) c
noncomputable def vQ (g : Cx) (σ : St) : V → Option (Bool × List V)
 | .new n => match rd (σ.get n) with | some (.list xs) => some (true, xs) | some (.tup xs) => some (false, xs) | _ => none
 | .old a => match lk g.olds a with | some (.tup xs) => some (false, xs) | some (.lst xs) => some (true, xs) | _ => none
 | _ => none
noncomputable def yList (y : Bool × List V) : Option (List V) := bif y.1 then some y.2 else none
noncomputable def lstOf (g : Cx) (σ : St) (v : V) : Option (List V) := (vQ g σ v).bind yList
noncomputable def eqL (f : V → V → Option Bool) : List V → List V → Option Bool
 | [], [] => some true
 | x :: xs, y :: ys => (f x y).bind fun a => (eqL f xs ys).bind fun b => some (a && b)
 | [], _ :: _ => some false
 | _ :: _, [] => some false
noncomputable def b2i (b : Bool) : Int := match b with
 | true => 1
 | false => 0
noncomputable def eqNone (b : V) : Option Bool := match b with
 | .none => some true
 | .bool _ => some false
 | .int _ => some false
 | .str _ => some false
 | _ => none
noncomputable def eqBool (x : Bool) (b : V) : Option Bool := match b with
 | .none => some false
 | .bool y => some (x == y)
 | .int y => some (b2i x == y)
 | .str _ => some false
 | _ => none
noncomputable def eqInt (x : Int) (b : V) : Option Bool := match b with
 | .none => some false
 | .bool y => some (x == b2i y)
 | .int y => some (decide (x = y))
 | .str _ => some false
 | _ => none
noncomputable def eqStr (x : Str) (b : V) : Option Bool := match b with
 | .none => some false
 | .bool _ => some false
 | .int _ => some false
 | .str y => some (eqS x y)
 | _ => none
noncomputable def eqSym (x : List Nat) (b : V) : Option Bool := match b with
 | .sym y => bif eqL0 x y then some true else none
 | _ => none
noncomputable def eq0 (a b : V) : Option Bool := match a with
 | .none => eqNone b
 | .bool x => eqBool x b
 | .int x => eqInt x b
 | .str x => eqStr x b
 | .sym x => eqSym x b
 | _ => none
noncomputable def notSeq (v : V) : Option Bool := match v with
 | .none => some false
 | .bool _ => some false
 | .int _ => some false
 | .str _ => some false
 | .sym _ => some false
 | _ => none
noncomputable def eqA (g : Cx) (a b : V) : Option Bool := match a with
 | .sym t => (match b with
  | .str x => bif g.ne t x then some false else none
  | _ => eq0 a b)
 | .str x => (match b with
  | .sym t => bif g.ne t x then some false else none
  | _ => eq0 a b)
 | _ => eq0 a b
noncomputable def eqV (g : Cx) (σ : St) : Nat → V → V → Option Bool
 | 0, _, _ => none
 | n + 1, a, b => match vQ g σ a with
  | some p => (match vQ g σ b with
   | some q => bif p.1 == q.1 then eqL (eqV g σ n) p.2 q.2 else some false
   | none => notSeq b)
  | none => (match vQ g σ b with
   | some _ => notSeq a
   | none => eqA g a b)
noncomputable def truthS (g : Cx) (σ : St) (v : V) : Option Bool := (vQ g σ v).bind fun x => bif Nat.ble x.2.length 1000000 then some (!x.2.isEmpty) else none
noncomputable def truth (g : Cx) (σ : St) (v : V) : Option Bool := match v with
 | .none => some false
 | .bool b => some b
 | .int i => some (i != 0)
 | .str s => bif Nat.ble s.cps.size 1000000 then some (s.cps.size != 0) else none
 | v => truthS g σ v
noncomputable def isN : V → Option Bool
 | .none => some true
 | .bt _ => none
 | .any => none
 | _ => some false
noncomputable def isNone : V → Bool
 | .none => true
 | _ => false
noncomputable def isV (a b : V) : Option Bool := match a with
 | .new a => (match b with
  | .new b => bif Nat.beq a b then some true else none
  | .none => some false
  | _ => none)
 | .none => isN b
 | a => bif isNone b then isN a else none
noncomputable def inGo (g : Cx) (σ : St) (x : V) : List V → Option Bool
 | [] => some false
 | y :: r => (eqV g σ 4 y x).bind fun a => (inGo g σ x r).bind fun b => some (a || b)
noncomputable def inDictO (x : V) (o : Option O) : Option Bool := match o with
 | some o => (match o with
  | .dict es => (match x with
   | .str s => some ((look es s).isSome)
   | _ => none)
  | _ => none)
 | none => none
noncomputable def inDict (σ : St) (x c : V) : Option Bool := match c with
 | .new n => inDictO x (rd (σ.get n))
 | _ => none
noncomputable def inV (g : Cx) (σ : St) (x c : V) : Option Bool := match vQ g σ c with
 | some y => inGo g σ x y.2
 | none => inDict σ x c
noncomputable def sOf (s : String) : Str := Str.ofString s
noncomputable def binInt (σ : St) (x y : Int) (op : Operator) : Res V := match op with
 | .Add => .ok (.int (x + y)) σ
 | .Sub => .ok (.int (x - y)) σ
 | .Mult => bif Nat.blt x.natAbs 4294967296 || Nat.blt y.natAbs 4294967296 then .ok (.int (x * y)) σ else .stop "mult"
 | .FloorDiv => bif y == 0 then .stop "div" else bif Nat.blt y.natAbs.log2 9000 then .ok (.int (Int.fdiv x y)) σ else .stop "div"
 | .Mod => bif y == 0 then .stop "mod" else .ok (.int (Int.fmod x y)) σ
 | .Pow => bif x == 10 && (Nat.blt y.natAbs 100 && decide (0 < y)) then .ok (.int (x ^ y.toNat)) σ else .stop "pow"
 | _ => .stop "binop"
noncomputable def binStr (σ : St) (x y : Str) (op : Operator) : Res V := match op with
 | .Add => bif Nat.ble (x.length + y.length) 1000000 then .ok (.str (x ++ y)) σ else .stop "long"
 | _ => .stop "binop"
noncomputable def lists2 (a b : Option O) : Option (List V × List V) := match a with
 | some x => (match x with
  | .list xs => (match b with
   | some y => (match y with
    | .list ys => some (xs, ys)
    | _ => none)
   | none => none)
  | _ => none)
 | none => none
noncomputable def binNew (σ : St) (x y : Nat) (op : Operator) : Res V := match op with
 | .Add => (match lists2 (σ.get x) (σ.get y) with
  | some p => newSeq σ false (p.1 ++ p.2)
  | none => .stop "add")
 | _ => .stop "binop"
noncomputable def binV (σ : St) (op : Operator) (a b : V) : Res V := match a with
 | .int x => (match b with
  | .int y => binInt σ x y op
  | _ => .stop "binop")
 | .str x => (match b with
  | .str y => binStr σ x y op
  | _ => .stop "binop")
 | .new x => (match b with
  | .new y => binNew σ x y op
  | _ => .stop "binop")
 | _ => .stop "binop"
noncomputable def cmpInt (a b : V) (f : Int → Int → Bool) : Option Bool := match a with
 | .int x => (match b with
  | .int y => some (f x y)
  | _ => none)
 | _ => none
noncomputable def cmpV (g : Cx) (σ : St) (op : CmpOp) (a b : V) : Option Bool := match op with
 | .Eq => eqV g σ 6 a b
 | .NotEq => (eqV g σ 6 a b).map (!·)
 | .Is => isV a b
 | .IsNot => (isV a b).map (!·)
 | .In => inV g σ a b
 | .NotIn => (inV g σ a b).map (!·)
 | .Lt => cmpInt a b fun x y => decide (x < y)
 | .LtE => cmpInt a b fun x y => decide (x ≤ y)
 | .Gt => cmpInt a b fun x y => decide (y < x)
 | .GtE => cmpInt a b fun x y => decide (y ≤ x)
noncomputable def binO (g : Cx) (σ : St) (op : Operator) (a b : V) : Res V := match g.orc (.bin op a b) with
 | some v => .ok v σ
 | none => binV σ op a b
noncomputable def boolI (v : V) : Option Bool := match v with
 | .bool c => some c
 | _ => none
noncomputable def cmpO (g : Cx) (σ : St) (op : CmpOp) (a b : V) : Option Bool := match g.orc (.cmp op a b) with
 | some v => boolI v
 | none => cmpV g σ op a b
noncomputable def idx (n : Nat) (k : Int) : Option Nat := bif Nat.ble n 1000000 then (if 0 ≤ k then (if k < n then some k.toNat else none) else if -(n : Int) ≤ k then some (k + n).toNat else none) else none
noncomputable def allStr : List V → Option (List Str)
 | [] => some []
 | .str x :: r => (match allStr r with | some l => some (x :: l) | none => none)
 | _ => none
noncomputable def sumLen : List Str → Nat
 | [] => 0
 | x :: r => x.length + sumLen r
noncomputable def joinV (sep : Str) (xs : List V) : Option V := match allStr xs with
 | some ys => bif Nat.ble (sumLen ys + ys.length * sep.length) 1000000 then some (.str (Builtin.Str.glued sep ys)) else none
 | none => none
noncomputable def wQ (sc : Scope) (x : Str) : Option NameKind := look sc.names x
noncomputable def lJ (g : Cx) (f : Fr) (σ : St) (x : Str) : Option V := bif eqS x (sOf "__debug__") then none else match wQ f.scope x with
 | some .local => (match σ.get f.loc with | some (.ns m) => look m x | _ => none)
 | some .cell => (match look f.cells x with | some c => (match rd (σ.get c) with | some (.cell v) => v | _ => none) | none => none)
 | some .free => bif eqS x (sOf "__classdict__") then none else (match look f.cells x with | some c => (match rd (σ.get c) with | some (.cell v) => v | _ => none) | none => none)
 | some .globalImplicit => look g.globals x
 | _ => none
noncomputable def nameI (e : PySem.Expr) : Option (Str × Pos) := match e with
 | .Name x p => some (x, p)
 | _ => none
noncomputable def nsI (o : Option O) : Option (List (Str × V)) := o.bind fun o => match o with
 | .ns m => some m
 | _ => none
noncomputable def isCellO (o : O) : Bool := match o with
 | .cell _ => true
 | _ => false
noncomputable def storeK (f : Fr) (σ : St) (x : Str) (v : V) (k : NameKind) : Option St := match k with
 | .local => (nsI (σ.get f.loc)).bind fun m => some (σ.setF f.loc (.ns (put m x v)))
 | .cell => (look f.cells x).bind fun c => bif sJ (σ.get c) isCellO then some (σ.setF c (.cell (some v))) else none
 | _ => none
noncomputable def storeN (f : Fr) (σ : St) (x : Str) (v : V) : Option St := (wQ f.scope x).bind fun k => storeK f σ x v k
noncomputable def iterO (σ : St) (n : Nat) (o : Option O) : Res Nat := match o with
 | some o => (match o with
  | .rng k => bif Nat.blt σ.size 4096 && Nat.blt k 1000000 then .ok σ.size (σ.pushF (.rit 0 k)) else .stop "room"
  | .enm _ _ => .ok n σ
  | _ => .stop "iter")
 | none => .stop "iter"
noncomputable def iterV (σ : St) (v : V) : Res Nat := match v with
 | .new n => iterO σ n (σ.get n)
 | _ => .stop "iter"
noncomputable def iterOf (g : Cx) (σ : St) (v : V) : Res Nat := match vQ g σ v with
 | some p => bif Nat.blt σ.size 4096 then .ok σ.size (σ.pushF (.iter p.1 v 0)) else .stop "room"
 | none => iterV σ v
noncomputable def isTupE : PySem.Expr → Bool
 | .Tuple _ _ _ => true
 | _ => false
noncomputable def isSetE : PySem.Expr → Bool
 | .Set _ _ _ => true
 | _ => false
noncomputable def nextAt (σ : St) (n : Nat) (l : Bool) (v : V) (i : Nat) (x : Option V) : Res (Option V) := match x with
 | some x => .ok (some x) (σ.setF n (.iter l v (i + 1)))
 | none => .ok none (σ.setF n .junk)
noncomputable def nextIt (σ : St) (n : Nat) (l : Bool) (v : V) (i : Nat) (p : Option (Bool × List V)) : Res (Option V) := match p with
 | some p => bif l == p.1 then nextAt σ n l v i (p.2[i]?) else .stop "next"
 | none => .stop "next"
noncomputable def nextRng (σ : St) (n i k : Nat) : Res (Option V) := match k with
 | 0 => .ok none (σ.setF n .junk)
 | k + 1 => .ok (some (.int i)) (σ.setF n (.rit (i + 1) k))
noncomputable def nextEnAt (σ : St) (n j i : Nat) (v : V) (x : Option V) : Res (Option V) := match x with
 | some x => bif Nat.blt σ.size 4096 then .ok (some (.new σ.size)) (((σ.setF j (.iter true v (i + 1))).setF n (.enm j (i + 1))).pushF (.tup [.int i, x])) else .stop "room"
 | none => .ok none ((σ.setF j .junk).setF n .junk)
noncomputable def nextEnL (σ : St) (n j i : Nat) (v : V) (p : Option (Bool × List V)) : Res (Option V) := match p with
 | some p => bif p.1 then nextEnAt σ n j i v (p.2[i]?) else .stop "next"
 | none => .stop "next"
noncomputable def nextEn (g : Cx) (σ : St) (n j i : Nat) (o : Option O) : Res (Option V) := match o with
 | some o => (match o with
  | .iter l v i' => bif l && Nat.beq i i' then nextEnL σ n j i v (vQ g σ v) else .stop "next"
  | _ => .stop "next")
 | none => .stop "next"
noncomputable def nextO (g : Cx) (t : PySem.Expr) (σ : St) (n : Nat) (o : Option O) : Res (Option V) := match o with
 | some o => (match o with
  | .iter l v i => nextIt σ n l v i (vQ g σ v)
  | .rit i k => nextRng σ n i k
  | .enm j i => bif Nat.beq j n || !isTupE t then .stop "next" else nextEn g σ n j i (σ.get j)
  | _ => .stop "next")
 | none => .stop "next"
noncomputable def fZ (g : Cx) (t : PySem.Expr) (σ : St) (n : Nat) : Res (Option V) := nextO g t σ n (σ.get n)
structure Rc where
 ev : Fr → PySem.Expr → St → Res V
 tst : Fr → PySem.Expr → St → Res Bool
 exs : Fr → List Stmt → St → Res Fl
 call : V → List V → St → Res V
section
variable (g : Cx) (r : Rc)
noncomputable def noStar : PySem.Expr → Bool
 | .Starred _ _ => false
 | _ => true
noncomputable def evs (f : Fr) : List PySem.Expr → St → Res (List V)
 | [], σ => .ok [] σ
 | e :: l, σ => bif noStar e then (r.ev f e σ).bind fun v σ => (evs f l σ).bind fun vs σ => .ok (v :: vs) σ else .stop "star"
noncomputable def pairs (f : Fr) : List (Option PySem.Expr) → List PySem.Expr → St → Res (List (Str × V))
 | [], [], σ => .ok [] σ
 | some k :: ks, e :: es, σ => (r.ev f k σ).bind fun kv σ => (r.ev f e σ).bind fun v σ => (pairs f ks es σ).bind fun l σ => match kv with
  | .str x => .ok ((x, v) :: l) σ
  | _ => .stop "dict"
 | _, _, _ => .stop "dict"
noncomputable def oJ {α : Type} (why : String) : Option α → St → Res α
 | some a, σ => .ok a σ
 | none, _ => .stop why
noncomputable def om {α β : Type} (o : Option α) (m : String) (k : α → Res β) : Res β := match o with
 | some a => k a
 | none => .stop m
noncomputable def hasS : List Str → Str → Bool
 | [], _ => false
 | a :: l, x => bif eqS a x then true else hasS l x
noncomputable def attrsI (o : Option Old) : Option (List Str) := o.bind fun o => match o with
 | .cls _ _ _ as => some as
 | _ => none
noncomputable def mayAttr (C : Nat) (x : Str) : Bool := sJ (attrsI (lk g.olds C)) fun as => hasS as x
noncomputable def isNm (e : PySem.Expr) : Bool := match e with
 | .Name _ _ => true
 | _ => false
noncomputable def noCall0 (e : PySem.Expr) : Bool := match e with
 | .Call f as ks _ => !(isNm f && (nilB as && nilB ks))
 | _ => true
noncomputable def instP (o : Option O) : Option (Nat × Nat) := o.bind fun o => match o with
 | .inst C d => some (C, d)
 | _ => none
noncomputable def attrV (σ : St) (x : Str) (v : V) : Option V := (newI v).bind fun k => (instP (rd (σ.get k))).bind fun p => bif mayAttr g p.1 x then (atOf (rd (σ.get p.2))).bind fun m => look m x else none
noncomputable def subV (σ : St) (v i : V) : Option V := match vQ g σ v, i with
 | some (_, xs), .int k => (idx xs.length k).bind fun j => xs[j]?
 | none, .str x => (match v with
  | .new k => (match rd (σ.get k) with | some (.dict es) => look es x | _ => none)
  | _ => none)
 | _, _ => none
noncomputable def subO (σ : St) (v i : V) : Option V := match vQ g σ v with
 | some (_, xs) => (match g.orc (.sub xs i) with
  | some r => some r
  | none => subV g σ v i)
 | none => subV g σ v i
noncomputable def closure (f : Fr) : List (Str × NameKind) → List (Str × Nat) → Option (List (Str × Nat))
 | [], acc => some acc
 | (x, .free) :: l, acc => (match look f.cells x with | some c => closure f l ((x, c) :: acc) | none => none)
 | _ :: l, acc => closure f l acc
noncomputable def makeCode (f : Fr) (pos : Pos) (q : Str) (σ : St) : Option St := match f.tab with
 | some t => (match σ.get t with
  | some (.tab made) => (match findMade made pos with
   | some q' => if eqS q' q then some σ else none
   | none => some (σ.setF t (.tab (made ++ [((pos.line, pos.col), q)]))))
  | _ => none)
 | none => none
noncomputable def noDef (ps : Arguments) : Bool := nilB ps.defaults && nilB ps.kw_defaults
noncomputable def noAnn (ps : Arguments) : Bool := nilB ps.posonlyargs && (noB ps.vararg && (nilB ps.kwonlyargs && (noB ps.kwarg && ps.args.all fun a => noB a.annotation)))
noncomputable def ownK (k : NameKind) : Bool := match k with
 | .local => true
 | .cell => true
 | _ => false
noncomputable def ownName (f : Fr) (x : Str) : Bool := sJ (wQ f.scope x) ownK
noncomputable def makeFn (f : Fr) (ps : Arguments) (b : FuncBody) (sc : Scope) (pos : Pos) (q : Str) (σ : St) : Res V := match closure f sc.names [], makeCode f pos q σ with
 | some cl, some σ => newR σ (.fn ⟨ps, b, sc, cl, none, q⟩)
 | _, _ => .stop "function"
inductive MT where
 | own (m : Nat) | append | get | update | join | rpartition
noncomputable def methsOf (C : Nat) : Option (List (Str × Nat)) := (lk g.olds C).bind fun o => match o with
 | .cls _ _ ms _ => some ms
 | _ => none
noncomputable def targetO (σ : St) (x : Str) (o : O) : Option MT := match o with
 | .list _ => bif eqS x (sOf "append") then some .append else none
 | .dict _ => bif eqS x (sOf "get") then some .get else bif eqS x (sOf "update") then some .update else none
 | .inst C d => (methsOf g C).bind fun ms => (atOf (rd (σ.get d))).bind fun m => bif noB (look m x) then (look ms x).bind fun m => some (.own m) else none
 | _ => none
noncomputable def target (σ : St) (ov : V) (x : Str) : Option MT := match ov with
 | .str _ => bif eqS x (sOf "join") then some .join else bif eqS x (sOf "rpartition") then some .rpartition else none
 | .new k => (rd (σ.get k)).bind fun o => targetO g σ x o
 | _ => none
noncomputable def callOld (o : Old) : Bool := match o with
 | .fn .. => true
 | .cls .. => true
 | _ => false
noncomputable def callable (σ : St) (v : V) : Bool := match v with
 | .old a => sJ (lk g.olds a) callOld
 | .new k => !noB (fnI (σ.get k))
 | .bt _ => true
 | .ty _ => true
 | _ => false
noncomputable def mJoin (σ : St) (ov : V) (vs : List V) : Option V := (strI ov).bind fun s => (oneI vs).bind fun v => (vQ g σ v).bind fun y => match g.orc (.join s y.2) with
 | some r => some r
 | none => joinV s y.2
noncomputable def oneC (x : Str) : Option Nat := oneI x.cps.toList
noncomputable def mRpart (ov : V) (vs : List V) : Option Str := (strI ov).bind fun s => (oneI vs).bind fun v => (strI v).bind fun x => (oneC x).bind fun c => bif hasN s.cps.toList c || Nat.blt 1000000 s.length then none else some s
noncomputable def mAppend (σ : St) (ov : V) (vs : List V) : Option St := (newI ov).bind fun k => (oneI vs).bind fun v => (listI (σ.get k)).bind fun xs => bif Nat.ble xs.length 1000000 then some (σ.setF k (.list (xs ++ [v]))) else none
noncomputable def getV (es : List (Str × V)) (key : V) (r : List V) : Option V := match key with
 | .str y => (match r with
  | [] => some ((look es y).getD .none)
  | d :: r => bif nilB r then some ((look es y).getD d) else none)
 | .sym t => (oneI r).bind fun d => g.orc (.get es (.sym t) d)
 | _ => none
noncomputable def mGet (σ : St) (ov : V) (vs : List V) : Option V := (newI ov).bind fun k => (headV vs).bind fun p => (dictI (rd (σ.get k))).bind fun es => getV g es p.1 p.2
noncomputable def mUpdate (σ : St) (ov : V) (vs : List V) : Option St := (newI ov).bind fun k => (oneI vs).bind fun v => (newI v).bind fun j => bif Nat.beq k j then none else (dictI (σ.get k)).bind fun es => (dictI (σ.get j)).bind fun fs => bif Nat.ble (es.length + fs.length) 1000000 then some (σ.setF k (.dict (fs.foldl (fun es p => put es p.1 p.2) es))) else none
noncomputable def toNone (o : Option St) : Res V := match o with
 | some σ => .ok .none σ
 | none => .stop "method"
noncomputable def toRpart (σ : St) (o : Option Str) : Res V := match o with
 | some s => newR σ (.tup [.str Str.empty, .str Str.empty, .str s])
 | none => .stop "method"
noncomputable def applyM (t : MT) (ov : V) (vs : List V) (σ : St) : Res V := match t with
 | .own m => bif callable g σ (.old m) then r.call (.old m) (ov :: vs) σ else .stop "callable"
 | .join => oJ "join" (mJoin g σ ov vs) σ
 | .rpartition => toRpart σ (mRpart ov vs)
 | .append => toNone (mAppend σ ov vs)
 | .get => oJ "get" (mGet g σ ov vs) σ
 | .update => toNone (mUpdate σ ov vs)
noncomputable def cmp1 (op : CmpOp) (a b : V) (σ : St) : Res Bool := oJ "cmp" (cmpO g σ op a b) σ
noncomputable def relab (f : Fr) (sc : Scope) : Scope := { sc with names := sc.names.map fun p => if p.2 == .free && wQ f.scope p.1 == some .cell then (p.1, .cell) else p }
noncomputable def isSl : PySem.Expr → Bool
 | .Slice _ _ _ _ => true
 | _ => false
noncomputable def negR : V → St → Res V
 | .int i, σ => .ok (.int (-i)) σ
 | _, _ => .stop "unary"
noncomputable def bools (f : Fr) (op : BoolOp) : List PySem.Expr → St → Res V
 | [], _ => .stop "bool"
 | [e], σ => r.ev f e σ
 | e :: l, σ => (r.ev f e σ).bind fun v σ => (oJ "bool" (truth g σ v) σ).bind fun t σ => match op with
  | .And => if t then bools f op l σ else .ok v σ
  | .Or => if t then .ok v σ else bools f op l σ
noncomputable def pJ : List PySem.Expr → Bool
 | [] => true
 | e :: l => bif noStar e then pJ l else false
noncomputable def callE (f : Fr) (fe : PySem.Expr) (as : List PySem.Expr) (σ : St) : Res V :=
 bif pJ as then (r.ev f fe σ).bind fun fv σ => (evs r f as σ).bind fun vs σ => bif callable g σ fv then r.call fv vs σ else .stop "callable" else .stop "star"
noncomputable def methE (f : Fr) (o : PySem.Expr) (x : Str) (p : Pos) (as : List PySem.Expr) (pos : Pos) (σ : St) : Res V :=
 bif (pJ as && noCall0 o) && (Nat.blt as.length 30 && Nat.beq p.endLine pos.line) then (r.ev f o σ).bind fun ov σ => match target g σ ov x with
  | some t => (evs r f as σ).bind fun vs σ => applyM g r t ov vs σ
  | none => .stop "method"
 else .stop "star"
noncomputable def bindNs (f : Fr) : List PySem.Expr → List V → St → Option St
 | [], vs, σ => bif nilB vs then some σ else none
 | t :: ts, vs, σ => (nameI t).bind fun n => (headV vs).bind fun p => (storeN f σ n.1 p.1).bind fun σ => bindNs f ts p.2 σ
noncomputable def yTup (y : Bool × List V) : Option (List V) := bif y.1 then none else some y.2
noncomputable def bindT (f : Fr) (t : PySem.Expr) (v : V) (σ : St) : Option St := match t with
 | .Name x _ => storeN f σ x v
 | .Tuple ts _ _ => ((vQ g σ v).bind yTup).bind fun xs => bindNs f ts xs σ
 | _ => none
noncomputable def compTest (f : Fr) : List PySem.Expr → St → Res Bool
 | [], σ => .ok true σ
 | [e], σ => (match r.tst f e σ with
  | .ok b σ => .ok b σ
  | _ => .stop "raise in a test")
 | _, _ => .stop "ifs"
noncomputable def compN (f : Fr) (elt t : PySem.Expr) (ifs : List PySem.Expr) (a c : Nat) : Nat → St → Res Unit
 | 0, _ => .stop "loop"
 | k + 1, σ => match fZ g t σ c with
  | .ok none σ => .ok () σ
  | .ok (some x) σ => (match bindT g f t x σ with
   | none => .stop "target"
   | some σ => (compTest r f ifs σ).bind fun b σ => if b then (match r.ev f elt σ with
     | .ok v σ => (match σ.get a with
      | some (.list ys) => bif Nat.ble ys.length 1000000 then compN f elt t ifs a c k (σ.setF a (.list (ys ++ [v]))) else .stop "long"
      | _ => .stop "comp")
     | .exc .fly σ => .exc .held σ
     | _ => .stop "raise in a comprehension")
    else compN f elt t ifs a c k σ)
  | _ => .stop "next"
noncomputable def goodSc (sc : Scope) : Bool := sc.kind == .function && sc.names.all fun x => x.2 != .cell && (bif x.2 == .local then (look sc.names x.1 == some .local) else true)
noncomputable def fewIfs : List PySem.Expr → Bool
 | [] => true
 | [_] => true
 | _ => false
noncomputable def compK (f : Fr) (elt tg it : PySem.Expr) (ifs : List PySem.Expr) (sc : Scope) (σ : St) : Res Nat :=
 bif (goodSc sc && !isSetE it) && fewIfs ifs then (match closure f sc.names [] with
  | some cl => (r.ev f it σ).bind fun iv σ => (iterOf g σ iv).bind fun c σ => (match hJ [.list [], .ns []] σ with
   | some σ' => (match compN g r ⟨σ.size + 1, relab f sc, cl, f.qual, f.tab⟩ elt tg ifs σ.size c 64 σ' with
    | .ok _ σ₁ => (match σ₁.get (σ.size + 1) with | some (.ns _) => .ok σ.size σ₁ | _ => .stop "comp")
    | .exc .held σ₁ => (match σ₁.get (σ.size + 1) with | some (.ns _) => .exc .held (σ₁.setF (σ.size + 1) .junk) | _ => .stop "comp")
    | _ => .stop "comp")
   | none => .stop "comp")
  | none => .stop "comp") else .stop "comp"
noncomputable def compE (f : Fr) (elt tg it : PySem.Expr) (ifs : List PySem.Expr) (sc : Scope) (σ : St) : Res V := (compK g r f elt tg it ifs sc σ).bind fun d σ => .ok (.new d) (σ.setF (d + 1) .junk)
noncomputable def evConst (c : Const) (σ : St) : Res V := match c with
 | .none => .ok .none σ | .bool b => .ok (.bool b) σ | .int i => .ok (.int i) σ | .str s => .ok (.str s) σ | _ => .stop "const"
noncomputable def evName (f : Fr) (x : Str) (σ : St) : Res V := oJ "name" (lJ g f σ x) σ
noncomputable def evAttr (f : Fr) (o : PySem.Expr) (x : Str) (σ : St) : Res V := bif noCall0 o then (r.ev f o σ).bind fun v σ => oJ "attr" (attrV g σ x v) σ else .stop "base"
noncomputable def evCmp (f : Fr) (l : PySem.Expr) (op : CmpOp) (x : PySem.Expr) (σ : St) : Res V := bif behindInMarks op x then .stop "marks" else (r.ev f l σ).bind fun a σ => (r.ev f x σ).bind fun b σ => (cmp1 g op a b σ).bind fun c σ => .ok (.bool c) σ
noncomputable def evNot (f : Fr) (x : PySem.Expr) (σ : St) : Res V := (r.ev f x σ).bind fun v σ => (oJ "not" (truth g σ v) σ).bind fun b σ => .ok (.bool !b) σ
noncomputable def evSub (f : Fr) (x : PySem.Expr) (σ : St) : Res V := (r.ev f x σ).bind fun v σ => negR v σ
noncomputable def evBin (f : Fr) (l : PySem.Expr) (op : Operator) (x : PySem.Expr) (σ : St) : Res V := (r.ev f l σ).bind fun a σ => (r.ev f x σ).bind fun b σ => binO g σ op a b
noncomputable def evIf (f : Fr) (t a b : PySem.Expr) (σ : St) : Res V := (r.tst f t σ).bind fun c σ => if c then r.ev f a σ else r.ev f b σ
noncomputable def evTup (f : Fr) (es : List PySem.Expr) (σ : St) : Res V := (evs r f es σ).bind fun vs σ => newSeq σ true vs
noncomputable def evList (f : Fr) (es : List PySem.Expr) (σ : St) : Res V := (evs r f es σ).bind fun vs σ => newSeq σ false vs
noncomputable def evDict (f : Fr) (ks : List (Option PySem.Expr)) (vs : List PySem.Expr) (σ : St) : Res V := bif Nat.ble ks.length 15 && (Nat.beq ks.length vs.length && ks.all Option.isSome) then (match hJ [.dict []] σ with
  | some σ₁ => (pairs r f ks vs σ₁).bind fun l σ' => (match σ'.get σ.size with
   | some (.dict []) => .ok (.new σ.size) (σ'.setF σ.size (.dict (l.foldl (fun es p => put es p.1 p.2) [])))
   | _ => .stop "dict")
  | none => .stop "room") else .stop "dict"
noncomputable def evLam (f : Fr) (ps : Arguments) (b : PySem.Expr) (sc : Scope) (pos : Pos) (σ : St) : Res V := bif noDef ps then makeFn f ps (.expr b) sc pos (f.qual ++ sOf "<lambda>") σ else .stop "lambda"
noncomputable def evRev (f : Fr) (o : PySem.Expr) (σ : St) : Res V := (r.ev f o σ).bind fun v σ => (match v with
  | .new k => (match rd (σ.get k) with | some (.list xs) => newSeq σ false xs.reverse | _ => .stop "slice")
  | _ => .stop "slice")
noncomputable def evIdx (f : Fr) (o s : PySem.Expr) (σ : St) : Res V := bif isSl s then .stop "slice" else (r.ev f o σ).bind fun v σ => (r.ev f s σ).bind fun i σ => oJ "item" (subO g σ v i) σ
inductive Nd where
 | const (c : Const) | name (x : Str) | attr (o : PySem.Expr) (x : Str) | meth (o : PySem.Expr) (x : Str) (p : Pos) (as : List PySem.Expr) (pos : Pos) | call (fe : PySem.Expr) (as : List PySem.Expr)
 | cmp (l : PySem.Expr) (op : CmpOp) (x : PySem.Expr) | bool (op : BoolOp) (es : List PySem.Expr) | not (x : PySem.Expr) | usub (x : PySem.Expr) | bin (l : PySem.Expr) (op : Operator) (x : PySem.Expr) | ifexp (t a b : PySem.Expr)
 | tup (es : List PySem.Expr) | list (es : List PySem.Expr) | dict (ks : List (Option PySem.Expr)) (vs : List PySem.Expr) | lam (ps : Arguments) (b : PySem.Expr) (sc : Scope) (pos : Pos)
 | comp (elt tg it : PySem.Expr) (ifs : List PySem.Expr) (sc : Scope) | rev (o : PySem.Expr) | idx (o s : PySem.Expr) | cmp2 (l : PySem.Expr) (op op' : CmpOp) (x y : PySem.Expr) | bad
noncomputable def ndCall (fe : PySem.Expr) (as : List PySem.Expr) (kws : List Keyword) (pos : Pos) : Nd := match kws with
 | [] => (match fe with
  | .Attribute o x p => .meth o x p as pos
  | _ => .call fe as)
 | _ :: _ => .bad
noncomputable def ndCmp2 (l x : PySem.Expr) (op : CmpOp) (ops : List CmpOp) (xs : List PySem.Expr) : Nd := match ops with
 | [] => (match xs with
  | [] => .cmp l op x
  | _ :: _ => .bad)
 | op' :: ops => (match ops with
  | _ :: _ => .bad
  | [] => (match xs with
   | [] => .bad
   | y :: ys => (match ys with
    | [] => .cmp2 l op op' x y
    | _ :: _ => .bad)))
noncomputable def ndCmp (l : PySem.Expr) (ops : List CmpOp) (xs : List PySem.Expr) : Nd := match ops with
 | [] => .bad
 | op :: ops => (match xs with
  | [] => .bad
  | x :: xs => ndCmp2 l x op ops xs)
noncomputable def ndUn (op : UnaryOp) (x : PySem.Expr) : Nd := match op with
 | .Not => .not x
 | .USub => .usub x
 | .Invert => .bad
 | .UAdd => .bad
noncomputable def is0 (a : Int) : Bool := match a with
 | .ofNat n => Nat.beq n 0
 | .negSucc _ => false
noncomputable def ndComp (elt : PySem.Expr) (gens : List Comprehension) (sc : Scope) : Nd := match gens with
 | [] => .bad
 | c :: cs => (match cs with
  | _ :: _ => .bad
  | [] => (match c with
   | ⟨tg, it, ifs, a⟩ => bif is0 a then .comp elt tg it ifs sc else .bad))
noncomputable def isOne (x : PySem.Expr) : Bool := match x with
 | .Constant c _ _ => (match c with
  | .int i => (match i with
   | .ofNat n => Nat.beq n 1
   | .negSucc _ => false)
  | _ => false)
 | _ => false
noncomputable def isNeg1 (x : PySem.Expr) : Bool := match x with
 | .UnaryOp op y _ => (match op with
  | .USub => isOne y
  | _ => false)
 | _ => false
noncomputable def isRev (s : PySem.Expr) : Bool := match s with
 | .Slice a b c _ => (match a with
  | some _ => false
  | none => (match b with
   | some _ => false
   | none => (match c with
    | none => false
    | some x => isNeg1 x)))
 | _ => false
noncomputable def nd (e : PySem.Expr) : Nd := match e with
 | .Constant c _ _ => .const c
 | .Name x _ => .name x
 | .Attribute o x _ => .attr o x
 | .Call fe as kws pos => ndCall fe as kws pos
 | .Compare l ops xs _ => ndCmp l ops xs
 | .BoolOp op es _ => .bool op es
 | .UnaryOp op x _ => ndUn op x
 | .BinOp l op x _ => .bin l op x
 | .IfExp t a b _ => .ifexp t a b
 | .Tuple es _ _ => .tup es
 | .List es _ => .list es
 | .Dict ks vs _ => .dict ks vs
 | .Lambda ps b sc pos => .lam ps b sc pos
 | .ListComp elt gens sc _ => ndComp elt gens sc
 | .Subscript o s _ => bif isRev s then .rev o else .idx o s
 | _ => .bad
noncomputable def evN (f : Fr) (e : PySem.Expr) (σ : St) : Res V := Nd.casesOn (motive := fun _ => Res V) (nd e) (fun c => evConst c σ) (fun x => evName g f x σ) (fun o x => evAttr g r f o x σ) (fun o x p as pos => methE g r f o x p as pos σ) (fun fe as => callE g r f fe as σ)
 (fun l op x => evCmp g r f l op x σ) (fun op es => bools g r f op es σ) (fun x => evNot g r f x σ) (fun x => evSub r f x σ) (fun l op x => evBin g r f l op x σ) (fun t a b => evIf r f t a b σ) (fun es => evTup r f es σ) (fun es => evList r f es σ)
 (fun ks vs => evDict r f ks vs σ) (fun ps b sc pos => evLam f ps b sc pos σ) (fun elt tg it ifs sc => compE g r f elt tg it ifs sc σ) (fun o => evRev r f o σ) (fun o s => evIdx g r f o s σ) (fun _ _ _ _ _ => .stop "expr") (.stop "expr")
noncomputable def ev1 (f : Fr) (e : PySem.Expr) (σ : St) : Res V := evN g r f e σ
noncomputable def allT (f : Fr) (op : BoolOp) : List PySem.Expr → St → Res Bool
 | [], σ => .ok (op == .And) σ
 | e :: l, σ => (r.tst f e σ).bind fun b σ => match op with
  | .And => if b then allT f op l σ else .ok false σ
  | .Or => if b then .ok true σ else allT f op l σ
noncomputable def plainTest : PySem.Expr → Bool
 | .UnaryOp .Not _ _ | .BoolOp _ _ _ | .IfExp _ _ _ _ | .Compare _ _ _ _ => false
 | _ => true
noncomputable def tsNot (f : Fr) (x : PySem.Expr) (σ : St) : Res Bool := (r.tst f x σ).bind fun b σ => .ok (!b) σ
noncomputable def tsCmp (f : Fr) (l : PySem.Expr) (op : CmpOp) (x : PySem.Expr) (σ : St) : Res Bool := bif behindInMarks op x then .stop "marks" else (r.ev f l σ).bind fun a σ => (r.ev f x σ).bind fun b σ => cmp1 g op a b σ
noncomputable def tsCmp2 (f : Fr) (l : PySem.Expr) (op op' : CmpOp) (x y : PySem.Expr) (σ : St) : Res Bool := bif lastMarks [op, op'] [x, y] then .stop "marks" else (r.ev f l σ).bind fun a σ => (r.ev f x σ).bind fun b σ => (cmp1 g op a b σ).bind fun c σ => if c then (r.ev f y σ).bind fun d σ => cmp1 g op' b d σ else .ok false σ
noncomputable def zQ (f : Fr) (e : PySem.Expr) (σ : St) : Res Bool := if plainTest e then (r.ev f e σ).bind fun v σ => oJ "test" (truth g σ v) σ else .stop "test"
noncomputable def tstN (f : Fr) (e : PySem.Expr) (σ : St) : Res Bool := Nd.casesOn (motive := fun _ => Res Bool) (nd e) (fun _ => zQ g r f e σ) (fun _ => zQ g r f e σ) (fun _ _ => zQ g r f e σ) (fun _ _ _ _ _ => zQ g r f e σ) (fun _ _ => zQ g r f e σ)
 (fun l op x => tsCmp g r f l op x σ) (fun op es => allT r f op es σ) (fun x => tsNot r f x σ) (fun _ => zQ g r f e σ) (fun _ _ _ => zQ g r f e σ) (fun _ _ _ => zQ g r f e σ) (fun _ => zQ g r f e σ) (fun _ => zQ g r f e σ)
 (fun _ _ => zQ g r f e σ) (fun _ _ _ _ => zQ g r f e σ) (fun _ _ _ _ _ => zQ g r f e σ) (fun _ => zQ g r f e σ) (fun _ _ => zQ g r f e σ) (fun l op op' x y => tsCmp2 g r f l op op' x y σ) (zQ g r f e σ)
noncomputable def tst1 (f : Fr) (e : PySem.Expr) (σ : St) : Res Bool := tstN g r f e σ
noncomputable def setAttrV (σ : St) (ov : V) (x : Str) (v : V) : Option St := (newI ov).bind fun k => (instP (σ.get k)).bind fun p => bif mayAttr g p.1 x then (atI (σ.get p.2)).bind fun m => bif Nat.ble m.length 500 then some (σ.setF p.2 (.at (put m x v))) else none else none
noncomputable def setItemV (σ : St) (ov i v : V) : Option St := match ov, i with
 | .new k, .int j => (match σ.get k with
  | some (.list xs) => (if 0 ≤ j then (match idx xs.length j with | some q => some (σ.setF k (.list (xs.set q v))) | none => none) else none)
  | _ => none)
 | _, _ => none
noncomputable def isLocO (k : NameKind) : Bool := match k with
 | .local => true
 | _ => false
noncomputable def isLocK (k : Option NameKind) : Bool := sJ k isLocO
noncomputable def namesOf (f : Fr) (l : Nat) : List PySem.Expr → Option (List Str)
 | [] => some []
 | t :: r => (nameI t).bind fun n => bif isLocK (wQ f.scope n.1) && Nat.beq n.2.line l then (namesOf f l r).bind fun ns => some (n.1 :: ns) else none
noncomputable def apart2 (a b : Str) (r : List Str) : Bool := match r with
 | [] => !eqS a b
 | c :: r => nilB r && (!eqS a b && (!eqS a c && !eqS b c))
noncomputable def apart1 (a : Str) (r : List Str) : Bool := match r with
 | [] => false
 | b :: r => apart2 a b r
noncomputable def apart (l : List Str) : Bool := match l with
 | [] => false
 | a :: r => apart1 a r
noncomputable def lineOf : List PySem.Expr → Nat
 | [] => 0
 | e :: _ => e.pos.line
noncomputable def swapNames (f : Fr) (ts es : List PySem.Expr) : Option (List Str) := (namesOf f (lineOf ts) ts).bind fun ns => bif (apart ns && Nat.beq es.length ns.length) && (!es.all (foldedForSure 8) && !es.all (constantsAlone 8)) then some ns else none
noncomputable def isCelN (k : NameKind) : Bool := match k with
 | .cell => true
 | _ => false
noncomputable def notLoc (f : Fr) (e : PySem.Expr) : Bool := sJ (nameI e) fun n => sJ (wQ f.scope n.1) isCelN
noncomputable def storeNs (f : Fr) : List Str → List V → St → Option St
 | [], vs, σ => bif nilB vs then some σ else none
 | x :: xs, vs, σ => (headV vs).bind fun p => (storeN f σ x p.1).bind fun σ => storeNs f xs p.2 σ
noncomputable def rQ : Option St → Res Fl
 | some σ => .ok .next σ
 | none => .stop "store"
noncomputable def isComp : PySem.Expr → Bool
 | .ListComp .. => true
 | .SetComp .. => true
 | .DictComp .. => true
 | _ => false
noncomputable def tgtOk (t x : PySem.Expr) : Bool := match t with
 | .Name _ _ => true
 | .Tuple _ _ _ => !isTupE x
 | _ => false
noncomputable def swapC (f : Fr) (x : Str) (p q : Pos) (sc : Scope) : Bool := isLocK (wQ f.scope x) && (Nat.beq p.line q.line && !sc.names.any fun y => eqS y.1 x && (y.2 == .local || y.2 == .cell))
noncomputable def loopN (f : Fr) (t : PySem.Expr) (b : List Stmt) (c : Nat) : Nat → St → Res Fl
 | 0, _ => .stop "loop"
 | k + 1, σ => match fZ g t σ c with
  | .ok none σ => .ok .next σ
  | .ok (some x) σ => (match bindT g f t x σ with
   | none => .stop "target"
   | some σ => (match r.exs f b σ with
    | .ok .next σ => loopN f t b c k σ
    | .ok (.ret v) σ => .ok (.ret v) σ
    | _ => .stop "raise in a loop"))
  | _ => .stop "next"
noncomputable def whlN (f : Fr) (t : PySem.Expr) (b : List Stmt) : Nat → St → Res Fl
 | 0, _ => .stop "loop"
 | k + 1, σ => match r.tst f t σ with
  | .ok true σ => (match r.exs f b σ with
   | .ok .next σ => whlN f t b k σ
   | .ok (.ret v) σ => .ok (.ret v) σ
   | _ => .stop "raise in a loop")
  | .ok false σ => .ok .next σ
  | _ => .stop "raise in a loop"
noncomputable def exRet (f : Fr) (e : PySem.Expr) (σ : St) : Res Fl := (r.ev f e σ).bind fun v σ => .ok (.ret v) σ
noncomputable def exExpr (f : Fr) (e : PySem.Expr) (σ : St) : Res Fl := bif isComp e then .stop "comp" else (r.ev f e σ).bind fun _ σ => .ok .next σ
noncomputable def exIf (f : Fr) (t : PySem.Expr) (b o : List Stmt) (σ : St) : Res Fl := (r.tst f t σ).bind fun c σ => if c then r.exs f b σ else r.exs f o σ
noncomputable def exAttr (f : Fr) (o : PySem.Expr) (x : Str) (e : PySem.Expr) (σ : St) : Res Fl := (r.ev f e σ).bind fun v σ => (r.ev f o σ).bind fun ov σ => rQ (setAttrV g σ ov x v)
noncomputable def exItem (f : Fr) (o i e : PySem.Expr) (σ : St) : Res Fl := (r.ev f e σ).bind fun v σ => (r.ev f o σ).bind fun ov σ => (r.ev f i σ).bind fun iv σ => rQ (setItemV σ ov iv v)
noncomputable def exTup (f : Fr) (ts es : List PySem.Expr) (σ : St) : Res Fl := match swapNames f ts es with
  | some ns => bif pJ es then (evs r f es σ).bind fun vs σ => rQ (storeNs f ns.reverse vs.reverse σ) else .stop "star"
  | none => bif ts.any (notLoc f) && (pJ es && Nat.ble es.length 100) then (evs r f es σ).bind fun vs σ => rQ (bindNs f ts vs σ) else .stop "stores"
noncomputable def exComp (f : Fr) (x : Str) (p : Pos) (elt tg it : PySem.Expr) (ifs : List PySem.Expr) (sc : Scope) (pos : Pos) (σ : St) : Res Fl := bif swapC f x p pos sc then (compK g r f elt tg it ifs sc σ).bind fun d σ => rQ ((storeN f σ x (.new d)).map fun σ => σ.setF (d + 1) .junk)
  else (compE g r f elt tg it ifs sc σ).bind fun v σ => rQ (storeN f σ x v)
noncomputable def exStore (f : Fr) (t e : PySem.Expr) (σ : St) : Res Fl := bif isComp e || !tgtOk t e then .stop "assign" else (r.ev f e σ).bind fun v σ => rQ (bindT g f t v σ)
noncomputable def exFor (f : Fr) (t it : PySem.Expr) (b : List Stmt) (σ : St) : Res Fl := bif isSetE it then .stop "set" else (r.ev f it σ).bind fun iv σ => (iterOf g σ iv).bind fun c σ => loopN g r f t b c 64 σ
noncomputable def exRaise (f : Fr) (x : Str) (e : PySem.Expr) (σ : St) : Res Fl := bif g.quiet then .stop "quiet" else match lJ g f σ x with
  | some (.old a) => if Nat.beq a g.fault && noStar e then (r.ev f e σ).bind fun v σ => (match v with | .str _ => bif Nat.blt σ.size 4000 then .exc .fresh ((σ.pushF .junk).pushF .junk) else .stop "room" | _ => .stop "raise") else .stop "raise"
  | _ => .stop "raise"
noncomputable def exTry (f : Fr) (b : List Stmt) (x z : Str) (σ : St) : Res Fl := match r.exs f b σ with
  | .ok q σ => .ok q σ
  | .exc .fly σ => (match lJ g f σ x with
   | some (.old a) => if Nat.beq a g.fault then .ok (.ret (.str z)) σ else .stop "try"
   | _ => .stop "try")
  | .exc _ _ => .stop "try"
  | .stop w => .stop w
noncomputable def exDef (f : Fr) (nm : Str) (ps : Arguments) (b : List Stmt) (sc : Scope) (bnd : Str) (pos : Pos) (σ : St) : Res Fl := bif (noDef ps && noAnn ps) && (eqS nm bnd && ownName f nm) then (makeFn f ps (.stmts b) sc pos (f.qual ++ nm) σ).bind fun v σ => rQ (storeN f σ nm v) else .stop "def"
inductive Ns where
 | ret (e : PySem.Expr) | retNone | pass | expr (e : PySem.Expr) | ifs (t : PySem.Expr) (b o : List Stmt) | attr (o : PySem.Expr) (x : Str) (e : PySem.Expr) | item (o i e : PySem.Expr) | tup (ts es : List PySem.Expr)
 | comp (x : Str) (p : Pos) (elt tg it : PySem.Expr) (ifs : List PySem.Expr) (sc : Scope) (pos : Pos) | store (t e : PySem.Expr) | loop (t it : PySem.Expr) (b : List Stmt) | whl (t : PySem.Expr) (b : List Stmt) | raise (x : Str) (e : PySem.Expr)
 | trye (b : List Stmt) (x z : Str) | fdef (nm : Str) (ps : Arguments) (b : List Stmt) (sc : Scope) (bnd : Str) (pos : Pos) | bad
noncomputable def nstComp (x : Str) (p : Pos) (elt : PySem.Expr) (gens : List Comprehension) (sc : Scope) (pos : Pos) (t e : PySem.Expr) : Ns := match gens with
 | [] => .store t e
 | c :: cs => (match cs with
  | _ :: _ => .store t e
  | [] => (match c with
   | ⟨tg, it, ifs, a⟩ => bif is0 a then .comp x p elt tg it ifs sc pos else .store t e))
noncomputable def nstAsg (t e : PySem.Expr) : Ns := match t with
 | .Attribute o x _ => .attr o x e
 | .Subscript o i _ => .item o i e
 | .Tuple ts _ _ => (match e with
  | .Tuple es _ _ => .tup ts es
  | _ => .store t e)
 | .Name x p => (match e with
  | .ListComp elt gens sc pos => nstComp x p elt gens sc pos t e
  | _ => .store t e)
 | _ => .store t e
noncomputable def nstCall (fe : PySem.Expr) (as : List PySem.Expr) (kws : List Keyword) : Ns := match fe with
 | .Name x _ => (match as with
  | [] => .bad
  | a :: as => (match as with
   | _ :: _ => .bad
   | [] => (match kws with
    | [] => .raise x a
    | _ :: _ => .bad)))
 | _ => .bad
noncomputable def nstRaise (e c : Option PySem.Expr) : Ns := match c with
 | some _ => .bad
 | none => (match e with
  | none => .bad
  | some e => (match e with
   | .Call fe as kws _ => nstCall fe as kws
   | _ => .bad))
noncomputable def nstRet0 (e : PySem.Expr) : Option Str := match e with
 | .Constant c _ _ => (match c with
  | .str z => some z
  | _ => none)
 | _ => none
noncomputable def nstRet1 (s : Stmt) : Option Str := match s with
 | .Return e _ => (match e with
  | none => none
  | some e => nstRet0 e)
 | _ => none
noncomputable def nstHand (b : List Stmt) (h : ExceptHandler) : Ns := match h with
 | .ExceptHandler ty nm hb _ => (match nm with
  | some _ => .bad
  | none => (match ty with
   | none => .bad
   | some ty => (match ty with
    | .Name x _ => (match hb with
     | [] => .bad
     | s :: ss => (match ss with
      | _ :: _ => .bad
      | [] => (match nstRet1 s with
       | some z => .trye b x z
       | none => .bad)))
    | _ => .bad)))
noncomputable def nstTry (b : List Stmt) (hs : List ExceptHandler) (o fb : List Stmt) : Ns := match o with
 | _ :: _ => .bad
 | [] => (match fb with
  | _ :: _ => .bad
  | [] => (match hs with
   | [] => .bad
   | h :: hs => (match hs with
    | _ :: _ => .bad
    | [] => nstHand b h)))
noncomputable def nstDef (nm : Str) (ps : Arguments) (b : List Stmt) (ds : List PySem.Expr) (rt : Option PySem.Expr) (tp : List TypeParam) (sc : Scope) (ts : Option Scope) (bnd : Str) (pos : Pos) : Ns := match ds with
 | _ :: _ => .bad
 | [] => (match rt with
  | some _ => .bad
  | none => (match tp with
   | _ :: _ => .bad
   | [] => (match ts with
    | some _ => .bad
    | none => .fdef nm ps b sc bnd pos)))
noncomputable def nst (s : Stmt) : Ns := match s with
 | .Return e _ => (match e with
  | some e => .ret e
  | none => .retNone)
 | .Pass _ => .pass
 | .Expr e _ => .expr e
 | .If t b o _ => .ifs t b o
 | .Assign ts e _ => (match ts with
  | [] => .bad
  | t :: ts => (match ts with
   | [] => nstAsg t e
   | _ :: _ => .bad))
 | .For t it b o _ => (match o with
  | [] => .loop t it b
  | _ :: _ => .bad)
 | .While t b o _ => (match o with
  | [] => .whl t b
  | _ :: _ => .bad)
 | .Raise e c _ => nstRaise e c
 | .Try b hs o fb _ => nstTry b hs o fb
 | .FunctionDef nm ps b ds rt tp sc ts bnd pos => nstDef nm ps b ds rt tp sc ts bnd pos
 | _ => .bad
noncomputable def exN (f : Fr) (s : Stmt) (σ : St) : Res Fl := Ns.casesOn (motive := fun _ => Res Fl) (nst s) (fun e => exRet r f e σ) (.ok (.ret .none) σ) (.ok .next σ) (fun e => exExpr r f e σ) (fun t b o => exIf r f t b o σ) (fun o x e => exAttr g r f o x e σ) (fun o i e => exItem r f o i e σ)
 (fun ts es => exTup r f ts es σ) (fun x p elt tg it ifs sc pos => exComp g r f x p elt tg it ifs sc pos σ) (fun t e => exStore g r f t e σ) (fun t it b => exFor g r f t it b σ) (fun t b => whlN r f t b 64 σ) (fun x e => exRaise g r f x e σ) (fun b x z => exTry g r f b x z σ)
 (fun nm ps b sc bnd pos => exDef f nm ps b sc bnd pos σ) (.stop "stmt")
noncomputable def ex1 (f : Fr) (s : Stmt) (σ : St) : Res Fl := exN g r f s σ
noncomputable def exs1 (f : Fr) : List Stmt → St → Res Fl
 | [], σ => .ok .next σ
 | s :: l, σ => (ex1 g r f s σ).bind fun q σ => match q with
  | .next => exs1 f l σ
  | q => .ok q σ
noncomputable def fillD (slots : List (Str × V)) : List (Str × V) → List (Str × V)
 | [] => slots
 | (x, d) :: l => bif (look slots x).isSome then fillD slots l else fillD (slots ++ [(x, d)]) l
noncomputable def pick (slots : List (Str × V)) : List Str → List (Str × V)
 | [] => []
 | x :: l => (match look slots x with | some v => (x, v) :: pick slots l | none => pick slots l)
noncomputable def bindPs (ns : List Str) (vs ds : List V) : Option (List (Str × V)) :=
 bif Nat.ble vs.length ns.length && Nat.ble ds.length ns.length then
  (bif (ns.take (ns.length - ds.length)).all fun x => (look (ns.zip vs) x).isSome then some (pick (fillD (ns.zip vs) ((ns.drop (ns.length - ds.length)).zip ds)) ns) else none)
 else none
noncomputable def plainPs (ps : Arguments) : Bool := nilB ps.posonlyargs && (noB ps.vararg && (nilB ps.kwonlyargs && noB ps.kwarg))
theorem plainPs_ok {ps : Arguments} (h : plainPs ps = true) : ps = ⟨[], ps.args, none, [], ps.kw_defaults, none, ps.defaults⟩ := by
 obtain ⟨a, b, c, d, e, f, k⟩ := ps
 have e1 : a = [] := yQ (aL h)
 have e2 : c = none := noB_ok (aL (aR h))
 have e3 : d = [] := yQ (aL (aR (aR h)))
 have e4 : f = none := noB_ok (aR (aR (aR h)))
 subst e1 e2 e3 e4
 rfl
noncomputable def isCellK : NameKind → Bool
 | .cell => true
 | _ => false
noncomputable def cellsOf : Nat → List (Str × NameKind) → List (Str × Nat) → List (Str × Nat)
 | _, [], acc => acc
 | base, (x, k) :: l, acc => bif isCellK k then natK (base + 1) fun b => cellsOf b l ((x, base) :: acc) else cellsOf base l acc
noncomputable def nCells : List (Str × NameKind) → Nat
 | [] => 0
 | (_, k) :: l => bif isCellK k then nCells l + 1 else nCells l
noncomputable def body1 (f : Fr) (b : FuncBody) (σ : St) : Res V := match b with
  | .stmts b => (match r.exs f b σ with
   | .ok (.ret v) σ => .ok v σ
   | .ok .next σ => .ok .none σ
   | .exc _ σ => .exc .fly σ
   | .stop w => .stop w)
  | .expr e => (match r.ev f e σ with
   | .ok v σ => .ok v σ
   | .exc _ σ => .exc .fly σ
   | .stop w => .stop w)
noncomputable def plainSc (sc : Scope) : Bool := sc.kind == .function && (!sc.isCoroutine && !sc.isGenerator)
noncomputable def enterF (b : FuncBody) (sc : Scope) (qual : Str) (cl : List (Str × Nat)) (tab : Option Nat) (binds : List (Str × V)) (σ : St) : Res V :=
 bif binds.all fun x => isLocK (wQ sc x.1) then om (hJ [.ns binds.reverse] σ) "room" fun σ' => body1 r ⟨σ.size, sc, cl, qual ++ sOf ".<locals>.", tab⟩ b σ' else .stop "locals"
noncomputable def enterC (b : FuncBody) (sc : Scope) (qual : Str) (cl : List (Str × Nat)) (tab : Option Nat) (binds : List (Str × V)) (σ : St) : Res V :=
 om (hJ (.ns [] :: List.replicate (nCells sc.names) (.cell none)) σ) "room" fun σ' => om (storeNs ⟨σ.size, sc, cellsOf (σ.size + 1) sc.names cl, qual ++ sOf ".<locals>.", tab⟩ (binds.map (·.1)) (binds.map (·.2)) σ') "locals" fun σ' => body1 r ⟨σ.size, sc, cellsOf (σ.size + 1) sc.names cl, qual ++ sOf ".<locals>.", tab⟩ b σ'
noncomputable def enter (ps : Arguments) (b : FuncBody) (sc : Scope) (qual : Str) (cl : List (Str × Nat)) (tab : Option Nat) (ds vs : List V) (σ : St) : Res V :=
 bif plainSc sc && plainPs ps then om (bindPs (ps.args.map (·.arg)) vs ds) "args" fun binds => bif Nat.beq (nCells sc.names) 0 then enterF r b sc qual cl tab binds σ else enterC r b sc qual cl tab binds σ else .stop "scope"
noncomputable def callStr (v : V) (σ : St) : Res V := om (intI v) "type" fun i => bif Nat.blt i.natAbs.log2 1920 then .ok (.str (Str.ofString (toString i))) σ else .stop "digits"
noncomputable def callTy1 (t : Ty) (v : V) (σ : St) : Res V := match t with
 | .str => callStr v σ
 | .list => om (vQ g σ v) "list" fun y => newSeq σ false y.2
 | .tup => om (lstOf g σ v) "tuple" fun xs => newSeq σ true xs
 | .range => om (natI v) "type" fun i => newR σ (.rng i)
 | .enum => om (lstOf g σ v) "enum" fun _ => om (hJ [.iter true v 0, .enm σ.size 0] σ) "enum" fun σ' => .ok (.new (σ.size + 1)) σ'
 | _ => .stop "type"
noncomputable def callTy (t : Ty) (vs : List V) (σ : St) : Res V := om (oneI vs) "type" fun v => callTy1 g t v σ
noncomputable def isStrT (t : Ty) : Bool := match t with
 | .str => true
 | _ => false
noncomputable def callTyO (t : Ty) (vs : List V) (σ : St) : Res V := match (oneI vs).bind fun x => bif isStrT t then g.orc (.str x) else none with
 | some v => .ok v σ
 | none => callTy g t vs σ
noncomputable def anyI (a b : Option Bool) : Option Bool := match a with
 | some a => bif a then some true else b
 | none => none
noncomputable def anyInst (f : V → Option Bool) : List V → Option Bool
 | [] => some false
 | c :: l => anyI (f c) (anyInst f l)
noncomputable def lenS (x : Str) (σ : St) : Res V := bif Nat.ble x.cps.size 1000000 then .ok (.int x.cps.size) σ else .stop "long"
noncomputable def lenY (v : V) (σ : St) : Res V := om (vQ g σ v) "len" fun y => bif Nat.ble y.2.length 1000000 then .ok (.int y.2.length) σ else .stop "long"
noncomputable def lenO (v : V) (σ : St) : Res V := match v with
 | .str x => lenS x σ
 | _ => lenY g v σ
noncomputable def maxO (a b : V) (σ : St) : Res V := om (intI a) "max" fun i => om (intI b) "max" fun j => .ok (.int (if i < j then j else i)) σ
noncomputable def isaO (v c : V) (σ : St) : Res V := match vQ g σ c with
 | some y => bif y.1 || nilB y.2 then .stop "isinstance" else oJ "isinstance" ((anyInst (isInst1 g σ v) y.2).map .bool) σ
 | none => oJ "isinstance" ((isInst1 g σ v c).map .bool) σ
noncomputable def builtin (b : Bt) (vs : List V) (σ : St) : Res V := match b with
 | .len => om (oneI vs) "len" fun v => lenO g v σ
 | .abs => om (oneI vs) "abs" fun v => om (intI v) "abs" fun i => .ok (.int i.natAbs) σ
 | .max => om (twoI vs) "max" fun p => maxO p.1 p.2 σ
 | .isinstance => om (twoI vs) "isinstance" fun p => isaO g p.1 p.2 σ
noncomputable def isAbs (b : Bt) : Bool := match b with
 | .abs => true
 | _ => false
noncomputable def isMax (b : Bt) : Bool := match b with
 | .max => true
 | _ => false
noncomputable def builtinO (b : Bt) (vs : List V) (σ : St) : Res V := match (oneI vs).bind fun x => bif isAbs b then g.orc (.abs x) else none with
 | some v => .ok v σ
 | none => (match (twoI vs).bind fun p => bif isMax b then g.orc (.max p.1 p.2) else none with
  | some v => .ok v σ
  | none => builtin g b vs σ)
noncomputable def callCls (a i : Nat) (vs : List V) (σ : St) : Res V := match lk g.olds i, hJ [.at [], .inst a σ.size] σ with
   | some (.fn ps b sc q ds t), some σ₁ => (enter r ps (.stmts b) sc q [] t ds (.new (σ.size + 1) :: vs) σ₁).bind fun v σ' => match v with
    | .none => .ok (.new (σ.size + 1)) σ'
    | _ => .stop "init"
   | _, _ => .stop "room"
noncomputable def call1 (fv : V) (vs : List V) (σ : St) : Res V := match fv with
 | .old a => (match lk g.olds a with
  | some (.fn ps b sc q ds t) => enter r ps (.stmts b) sc q [] t ds vs σ
  | some (.cls _ i _ _) => callCls g r a i vs σ
  | _ => .stop "call")
 | .new k => (match σ.get k with
  | some (.fn c) => enter r c.params c.body c.scope c.qual c.cl c.tab [] vs σ
  | _ => .stop "call")
 | .bt id => builtinO g id vs σ
 | .ty t => callTyO g t vs σ
 | _ => .stop "call"
end
noncomputable abbrev Hook := Nat → V → List V → St → Option (Res V)
noncomputable def noHook : Hook := fun _ _ _ _ => none
noncomputable def callH (g : Cx) (H : Hook) (n : Nat) (r : Rc) (fv : V) (vs : List V) (σ : St) : Res V := match H n fv vs σ with
 | some q => q
 | none => call1 g r fv vs σ
section
variable (g : Cx) (r : Rc)
theorem evN_eq (f : Fr) (e : PySem.Expr) (σ : St) : evN g r f e σ = ev1 g r f e σ := rfl
theorem tstN_eq (f : Fr) (e : PySem.Expr) (σ : St) : tstN g r f e σ = tst1 g r f e σ := rfl
theorem exN_eq (f : Fr) (s : Stmt) (σ : St) : exN g r f s σ = ex1 g r f s σ := rfl
noncomputable def exsNI (f : Fr) : List Stmt → St → Res Fl
 | [], σ => .ok .next σ
 | s :: l, σ => (exN g r f s σ).bind fun q σ => match q with
  | .next => exsNI f l σ
  | q => .ok q σ
noncomputable def exsN (f : Fr) (l : List Stmt) : St → Res Fl := List.rec (motive := fun _ => St → Res Fl) (fun σ => .ok .next σ) (fun s _ ih σ => (exN g r f s σ).bind fun q σ => match q with
  | .next => ih σ
  | q => .ok q σ) l
theorem exsN_eq (f : Fr) : ∀ (l : List Stmt) (σ : St), exsN g r f l σ = exs1 g r f l σ
 | [], _ => rfl
 | s :: l, σ => by
  show ((exN g r f s σ).bind fun q σ => match q with | .next => exsN g r f l σ | q => .ok q σ) = _
  unfold exs1
  rw [exN_eq]
  congr 1
  funext q σ
  cases q with
  | next => exact exsN_eq f l σ
  | ret v => rfl
end
noncomputable def resK (r : Res V) : Res V := match r with
 | .ok v σ => vK v fun v => .ok v σ
 | .exc m σ => .exc m σ
 | .stop w => .stop w
theorem resK_eq (r : Res V) : resK r = r := by
 unfold resK
 split
 ·rw [vK_eq]
 ·rfl
 ·rfl
noncomputable def rcsHI (g : Cx) (H : Hook) : Nat → Rc
 | 0 => ⟨fun _ _ _ => .stop "fuel", fun _ _ _ => .stop "fuel", fun _ _ _ => .stop "fuel", fun _ _ _ => .stop "fuel"⟩
 | n + 1 => ⟨fun f e σ => ev1 g (rcsHI g H n) f e σ, fun f e σ => tst1 g (rcsHI g H n) f e σ, fun f b σ => exs1 g (rcsHI g H n) f b σ, fun fv vs σ => callH g H n (rcsHI g H n) fv vs σ⟩
noncomputable def rcsH (g : Cx) (H : Hook) (n : Nat) : Rc := Nat.rec (motive := fun _ => Rc) ⟨fun _ _ _ => .stop "fuel", fun _ _ _ => .stop "fuel", fun _ _ _ => .stop "fuel", fun _ _ _ => .stop "fuel"⟩
 (fun n r => ⟨fun f e σ => resK (evN g r f e σ), fun f e σ => tstN g r f e σ, fun f b σ => exsN g r f b σ, fun fv vs σ => resK (callH g H n r fv vs σ)⟩) n
noncomputable abbrev rcs (g : Cx) : Nat → Rc := rcsH g noHook
end Mine
end
section
open PySem PySem.W PySem.Calls PyProof.Rows PySem.SeqAt
namespace Mine
theorem nameI_ok {e : PySem.Expr} {q : Str × Pos} (h : nameI e = some q) : e = .Name q.1 q.2 := by cases e <;> first | exact nos h | ((injection h with q1; subst q1); rfl)
noncomputable def callI (e : PySem.Expr) : Option (PySem.Expr × List PySem.Expr × Pos) := match e with
 | .Call f as kws p => bif nilB kws then some (f, as, p) else none
 | _ => none
theorem callI_ok {e : PySem.Expr} {q : PySem.Expr × List PySem.Expr × Pos} (h : callI e = some q) : e = .Call q.1 q.2.1 [] q.2.2 := by
 cases e with
 | Call f as kws p =>
  refine iF (fun h1 q1 => ?_) h; subst q1
  rw [yQ h1]
 | _ => exact nos h
noncomputable def attrI (e : PySem.Expr) : Option (PySem.Expr × Str × Pos) := match e with
 | .Attribute o x p => some (o, x, p)
 | _ => none
theorem attrI_ok {e : PySem.Expr} {q : PySem.Expr × Str × Pos} (h : attrI e = some q) : e = .Attribute q.1 q.2.1 q.2.2 := by cases e <;> first | exact nos h | ((injection h with q1; subst q1); rfl)
theorem mapHalf {α β : Type} {f g : α → β} {l : List α} (n : Nat) (h1 : (l.take n).map f = (l.take n).map g) (h2 : (l.drop n).map f = (l.drop n).map g) : l.map f = l.map g := by
 rw [← List.take_append_drop n l, List.map_append, List.map_append, h1, h2]
end Mine
end
section
open PySem PySem.W PySem.Calls PyProof.Rows
namespace Mine
section
variable [Tau]
theorem look_eq {α : Type} (x : Str) : ∀ m : List (Str × α), look m x = m.lookup x
 | [] => rfl
 | (k, v) :: r => by
  rw [look_cons, List.lookup_cons]
  by_cases h : eqS k x = true
  ·have := eI.mp h
   subst this
   rw [h, cond_true, beq_self_eq_true]
  ·rw [Bool.eq_false_iff.mpr h, cond_false, look_eq x r]
   have : (x == k) = false := by
    refine qJ (x == k) (fun q => ?_) (fun q => ?_)
    ·rfl
    ·exact absurd (eI.mpr (eq_of_beq q).symm) h
   rw [this]
structure AOk (A : Around) (l : List Env) (n : Nat) : Prop where
 hand : A.handled = none
 frames : A.frames = some l
 depth : A.depth + 3 * n ≤ 999
 units : A.units + 10 * n ≤ 9000
theorem AOk.less {A : Around} {l : List Env} {n : Nat} (h : AOk A l (n + 1)) : AOk A l n := ⟨h.hand, h.frames, by have := h.depth; omega, by have := h.units; omega⟩
structure bQ (l : List Env) (X : Wl) (f : Fr) (env : Env) : Prop where
 frm : ∃ env₀ outer L, l = env₀ :: outer ∧ env₀.frame = some L ∧ env.frame = some L
 scope : env.scope = f.scope
 kind : f.scope.kind = .function
 loc : X.ρ[f.loc]? = some env.locals
 glob : env.globals = mainGlobals
 blt : env.builtins = builtinsNs
 cells : fJ X.ρ f.cells env.cells
 qual : env.qual = f.qual
 tab : ∀ t, f.tab = some t → ∃ c P, env.code = .ref c ∧ X.ρ[t]? = some P ∧ CodeHd X.B c P
theorem bQ.mono {l : List Env} {X Y : Wl} (h : X.Le Y) {f : Fr} {env : Env} (e : bQ l X f env) : bQ l Y f env :=
 ⟨e.frm, e.scope, e.kind, pG h.r e.loc, e.glob, e.blt, e.cells.mono h.r, e.qual, fun t ht => (e.tab t ht).imp fun _ => Exists.imp fun _ h1 => ⟨h1.1, pG h.r h1.2.1, h1.2.2.keeps h.b⟩⟩
noncomputable def FrR (X : Wl) (l : List Env) : Prop := ∀ env ∈ l, env.scope.kind ≠ .module ∧ ∃ L k, env.frame = some L ∧ k ∈ X.fr ∧ X.ρ[k]? = some L
theorem FrR.mono {X Y : Wl} (h : X.Le Y) {l : List Env} (e : FrR X l) : FrR Y l := fun env he => ⟨(e env he).1, (e env he).2.imp fun _ => Exists.imp fun _ h1 => ⟨h1.1, h.f ▸ h1.2.1, pG h.r h1.2.2⟩⟩
structure ClsD (K : Frag) (C : Addr) (mro : List Nat) (i : Nat) (ms : List (Str × Nat)) (as : List Str) : Prop where
 cd : ∃ cd, clsIn K C = some cd ∧ cd.hasDict = true
 ga : findIn K (.ref C) "__getattribute__" = some (some (.builtin "object.__getattribute__"))
 sa : findIn K (.ref C) "__setattr__" = some (some (.builtin "object.__setattr__"))
 po : plainOver K C = true
 gh : findIn K (.ref C) "__getattr__" = some none
 make : makesIn K C = true
 ini : findIn K (.ref C) "__init__" = some (some (.ref i))
 inf : typeIn K (.ref i) = some (.type "function")
 attr : ∀ x, hasS as x = true → findIn K (.ref C) x = some none ∧ copiedNames.contains x = false
 meth : ∀ x m, look ms x = some m → findIn K (.ref C) x = some (some (.ref m)) ∧ typeIn K (.ref m) = some (.type "function")
 sub : ∀ D, mroIn K C (.ref D) = some (hasN mro D)
 kit : plainGet K C "__class__" = true ∧ hasDictIn K C = true ∧ findIn K (.ref C) "__class__" = some (some (.builtin "object.__class__")) ∧ specialIn K (.builtin "object.__class__") "__get__" = some (some (.builtin "getset_descriptor.__get__")) ∧
  takesIn K (.builtin "object.__class__") = some true ∧ mroIn K C (.type "object") = some true
inductive FunO (K : Frag) (T : List Addr) (B : Heap) (a : Addr) (ps : Arguments) (b : List Stmt) (sc : Scope) (q : Str) (ds : List V) (t : Option Nat) : Prop
 | mk (od : Option Addr) (fd : FuncData) (sl : Array (Option Value)) (h1 : B.get? a = some ⟨.type "function", od, .func fd, sl⟩) (h2 : K.lookup a = some ⟨.type "function", od, .func fd, sl⟩) (h3 : fd.params = ps) (h4 : fd.body = .stmts b) (h5 : fd.scope = sc) (h6 : fd.qualname = q) (h7 : fd.globals = mainGlobals) (h8 : fd.builtins = builtinsNs) (h9 : fd.closure = [])
   (h10 : fd.kwdefaults = .none) (h11 : B.CodeRec fd.code fd.qualname) (h12 : (ds = [] ∧ fd.defaults = .none) ∨ ∃ d us n, fd.defaults = .ref d ∧ B.get? d = some { cls := .type "tuple", dict := none, data := .seq us n, slots := #[] } ∧ cQ [] ds us.toList)
   (h13 : ∀ k, t = some k → ∃ c P, fd.code = .ref c ∧ T[k]? = some P ∧ CodeHd B c P)
noncomputable def OldD (K : Frag) (T : List Addr) (B : Heap) (a : Addr) : Old → Prop
 | .tup xs => ∃ us n, B.get? a = some { cls := .type "tuple", dict := none, data := .seq us n, slots := #[] } ∧ cQ [] xs us.toList
 | .lst xs => ∃ us n, B.get? a = some { cls := .type "list", dict := none, data := .seq us n, slots := #[] } ∧ cQ [] xs us.toList
 | .fn ps b sc q ds t => FunO K T B a ps b sc q ds t
 | .cls mro i ms as => ClsD K a mro i ms as
theorem OldD.keeps {K : Frag} {T : List Addr} {B B' : Heap} {a : Addr} (k : ∀ b o, B.get? b = some o → B'.get? b = some o) : ∀ {o : Old}, OldD K T B a o → OldD K T B' a o
 | .tup _, ⟨us, n, h1, h2⟩ => ⟨us, n, k _ _ h1, h2⟩
 | .lst _, ⟨us, n, h1, h2⟩ => ⟨us, n, k _ _ h1, h2⟩
 | .fn .., ⟨od, fd, sl, h1, h2, h3, h4, h5, h6, h7, h8, h9, h10, h11, h12, h13⟩ => ⟨od, fd, sl, k _ _ h1, h2, h3, h4, h5, h6, h7, h8, h9, h10, jJ k h11,
   h12.elim .inl fun ⟨d, us, n, e1, e2, e3⟩ => .inr ⟨d, us, n, e1, k _ _ e2, e3⟩, fun t ht => let ⟨c, P, e1, e2, e3⟩ := h13 t ht; ⟨c, P, e1, e2, e3.keeps k⟩⟩
 | .cls .., h => h
noncomputable abbrev dZ (M : Addr) : List Value := [.ref M, .type "Exception", .type "BaseException", .type "object"]
structure InitD (ps : Arguments) (b : List Stmt) (sc : Scope) : Prop where
 args : ps.args.map (·.arg) = [sOf "self", sOf "message"]
 body : ∃ p1 p2 p3 p4 p5 p6 p7 p8 p9 p10, b = [.Expr (.Call (.Attribute (.Name (sOf "Exception") p1) (sOf "__init__") p2) [.Name (sOf "self") p3, .Name (sOf "message") p4] [] p5) p6, .Assign [.Attribute (.Name (sOf "self") p7) (sOf "message") p8] (.Name (sOf "message") p9) p10] ∧ Nat.beq p2.endLine p5.line = true
 psc : plainSc sc = true
 pl : plainPs ps = true
 nc : nCells sc.names = 0
 ks : wQ sc (sOf "self") = some .local
 km : wQ sc (sOf "message") = some .local
 ke : wQ sc (sOf "Exception") = some .globalImplicit
inductive FltO (F : Addr) (B : Heap) : Prop
 | mk (nm q : Str) (N : Addr) (bs : List Value) (Mk : Addr) (sn : List Str) (sub : List Value) (ab : Bool) (col : Option Bool) (dd : Option Addr) (k0 k1 k2 k3 k5 : Option Value) (h : B.get? F = some (excClassObj nm q F N bs (dZ Mk) true sn sub ab col dd k0 k1 k2 k3 k5 "Exception.__new__"))
structure FltD (g : Cx) (K : Frag) (B : Heap) : Prop where
 obj : FltO g.fault B
 sa : findIn K (.ref g.fault) "__setattr__" = some (some (.builtin "object.__setattr__"))
 ms : findIn K (.ref g.fault) (sOf "message") = some none
 ini : ∃ i ps b sc q, findIn K (.ref g.fault) "__init__" = some (some (.ref i)) ∧ typeIn K (.ref i) = some (.type "function") ∧ lk g.olds i = some (.fn ps b sc q [] none) ∧ InitD ps b sc
 exn : look g.globals (sOf "Exception") = some (.ty .exc)
theorem FltD.keeps {g : Cx} {K : Frag} {B B' : Heap} (h : FltD g K B) (k : ∀ b o, B.get? b = some o → B'.get? b = some o) : FltD g K B' :=
 ⟨let ⟨nm, q, N, bs, Mk, sn, sub, ab, col, dd, k0, k1, k2, k3, k5, e⟩ := h.obj; ⟨nm, q, N, bs, Mk, sn, sub, ab, col, dd, k0, k1, k2, k3, k5, k _ _ e⟩, h.sa, h.ms, h.ini, h.exn⟩
noncomputable def tyV : V → Value
 | .ty a => .type a.name
 | .old C => .ref C
 | _ => .none
noncomputable def dn : V → V
 | .sym t => Tau.tau t
 | v => v
theorem VR_sc {ρ : List Addr} {v : V} {u : Value} (h : isSc v = true) : VR ρ v u ↔ ScR v u := by cases v <;> first | exact Iff.rfl | injection h
theorem VR_dn {ρ : List Addr} {v : V} {u : Value} : VR ρ (dn v) u ↔ VR ρ v u := by
 cases v <;> first | exact Iff.rfl | skip
 exact VR_sc (Tau.sc _)
theorem AllR_dn {ρ : List Addr} : ∀ {vs : List V} {us : List Value}, cQ ρ (vs.map dn) us ↔ cQ ρ vs us
 | [], [] => Iff.rfl
 | [], _ :: _ => Iff.rfl
 | _ :: _, [] => Iff.rfl
 | v :: vs, u :: us => by show (VR ρ (dn v) u ∧ cQ ρ (vs.map dn) us) ↔ (VR ρ v u ∧ cQ ρ vs us); rw [VR_dn, AllR_dn]
noncomputable def Imp (a b : V) : Prop := ∀ ρ u, VR ρ a u → VR ρ b u
noncomputable def OrcD (g : Cx) : Qn → V → Prop
 | .bin op a b, r => ∀ σ, ∃ r₀, binV σ op (dn a) (dn b) = .ok r₀ σ ∧ Imp r₀ r
 | .cmp op a b, r => ∃ c, r = .bool c ∧ ∀ σ, cmpV g σ op (dn a) (dn b) = some c
 | .max a b, r => ∃ i j, dn a = .int i ∧ dn b = .int j ∧ Imp (.int (if i < j then j else i)) r
 | .sub xs i, r => ∃ k j r₀, dn i = .int k ∧ idx xs.length k = some j ∧ xs[j]? = some r₀ ∧ Imp r₀ r
 | .get es k d, r => ∃ y, dn k = .str y ∧ Imp ((look es y).getD d) r
 | .abs v, r => ∃ i, dn v = .int i ∧ Imp (.int i.natAbs) r
 | .str v, r => ∃ i, dn v = .int i ∧ Nat.blt i.natAbs.log2 1920 = true ∧ Imp (.str (Str.ofString (toString i))) r
 | .join s xs, r => ∃ r₀, joinV s (xs.map dn) = some r₀ ∧ Imp r₀ r
structure aJ (g : Cx) (K : Frag) (T : List Addr) (B : Heap) : Prop where
 kin : K.In B
 ns : ∃ mg mb, B.Ns mainGlobals mg ∧ B.Ns builtinsNs mb ∧ ∀ x v, look g.globals x = some v → (x == ("__debug__" : Str)) = false ∧ ((∃ u, mg x = some u ∧ VR [] v u) ∨ (mg x = none ∧ ∃ u, mb x = some u ∧ VR [] v u))
 nolimit : B.NoLimit
 bmain : ∃ mg bm o, B.Ns mainGlobals mg ∧ mg "__builtins__" = some (.ref bm) ∧ bm ≠ builtinsNs ∧ bm ≠ mainGlobals ∧ B.get? bm = some o ∧ o.cls = .type "module" ∧ o.dict = some builtinsNs ∧ o.data = .plain
 sysm : ∃ o, B.get? sysModules = some o
 olds : ∀ a o, lk g.olds a = some o → OldD K T B a o
 isi : ∀ t c b, isTy g t c = some b → kitOne K (tyV t) (tyV c) = some b
 flt : FltD g K B
 ne : ∀ t x, g.ne t x = true → Tau.tau t ≠ .str x
 orc : ∀ q v, g.orc q = some v → OrcD g q v
theorem aJ.keeps {g : Cx} {K : Frag} {T : List Addr} {B B' : Heap} (h : aJ g K T B) (k : ∀ b o, B.get? b = some o → B'.get? b = some o) : aJ g K T B' :=
 ⟨fun a o e => k a o (h.kin a o e), h.ns.imp fun _ => Exists.imp fun _ h => ⟨h.1.keeps k, h.2.1.keeps k, h.2.2⟩, h.nolimit.keeps k, h.bmain.imp fun _ => Exists.imp fun _ => Exists.imp fun _ h => ⟨h.1.keeps k, h.2.1, h.2.2.1, h.2.2.2.1, k _ _ h.2.2.2.2.1, h.2.2.2.2.2⟩, h.sysm.imp fun _ e => k _ _ e, fun a o e => (h.olds a o e).keeps k, h.isi, h.flt.keeps k, h.ne, h.orc⟩
structure Sit (P : Program) (w : World) (g : Cx) (K : Frag) (T : List Addr) (n : Nat) (l : List Env) (A : Around) (X : Wl) (σ : St) (s : Shared) : Prop where
 a : AOk A l n
 fr : g.quiet = false → FrR X l
 cx : aJ g K T X.B
 tabs : T <+: X.ρ
 rel : Rel P w X σ s
section
variable {P : Program} {w : World} {g : Cx} {K : Frag} {T : List Addr} {n : Nat} {l : List Env} {A : Around} {X Y : Wl} {σ σ' : St} {s s' : Shared}
theorem Sit.next (S : Sit P w g K T n l A X σ s) (h : X.Le Y) (r : Rel P w Y σ' s') : Sit P w g K T n l A Y σ' s' := ⟨S.a, fun q => (S.fr q).mono h, S.cx.keeps h.b, S.tabs.trans h.r, r⟩
theorem Sit.less (S : Sit P w g K T (n + 1) l A X σ s) : Sit P w g K T n l A X σ s := ⟨S.a.less, S.fr, S.cx, S.tabs, S.rel⟩
end
noncomputable def Cov (X : Wl) (σ : St) (s : Shared) (B : Heap) : Prop := ∀ n o, σ.get n = some o → (∀ m, o ≠ .ns m) → o ≠ .junk → ∀ a ob, X.ρ[n]? = some a → s.heap.get? a = some ob → B.get? a = some ob
noncomputable def ExcC (F : Addr) (l : List Env) (X : Wl) (σ : St) (s : Shared) (e : Addr) : Ex → Prop
 | .fresh => ∃ oe vs a0, s.heap.get? e = some oe ∧ oe.cls = .ref F ∧ oe.data = .fields vs ∧ vs[1]? = some .none ∧ vs[0]? = some a0 ∧ X.B.get? e = none ∧ ∀ n o, σ.get n = some o → o ≠ .junk → X.ρ[n]? = some e → False
 | .fly => ∃ B a0, X.B.StaysIn B ∧ Cov X σ s B ∧ Heap.FlyingW B l e (.ref F) a0 s.heap
 | .held => ∃ B a0 fl, X.B.StaysIn B ∧ Cov X σ s B ∧ B.StaysIn s.heap ∧ B.get? e = none ∧ s.heap.FunFrames B l ∧ s.heap.TracedAtW B e (.ref F) a0 fl
noncomputable def ExcR (F : Cx) (l : List Env) (X : Wl) (σ : St) (s : Shared) (e : Addr) (m : Ex) : Prop := F.quiet = false ∧ FrR X l ∧ ExcC F.fault l X σ s e m
noncomputable def OK (P : Program) (w : World) (F : Cx) (l : List Env) (X : Wl) {α β : Type} (R : Wl → α → β → Prop) (Q : β → Shared → Prop) (E : Value → Shared → Prop) : Res α → Prop
 | .ok a σ => ∀ Y s u, X.Le Y → Rel P w Y σ s → R Y a u → Q u s
 | .exc m σ => ∀ Y s e, X.Le Y → Rel P w Y σ s → ExcR F l Y σ s e m → E (.ref e) s
 | .stop _ => False
noncomputable abbrev RV : Wl → V → Value → Prop := fun Y v u => VR Y.ρ v u
noncomputable abbrev RVs : Wl → List V → List Value → Prop := fun Y v u => cQ Y.ρ v u
noncomputable abbrev REq {α : Type} : Wl → α → α → Prop := fun _ v u => v = u
noncomputable def RFl : Wl → Fl → Flow → Prop
 | _, .next, f => f = .next
 | Y, .ret v, f => ∃ u, f = .ret u ∧ VR Y.ρ v u
section
variable {P : Program} {w : World} {F : Cx} {l : List Env} {X Y : Wl} {α β γ δ : Type} {R : Wl → α → β → Prop} {R' : Wl → γ → δ → Prop} {Q Q' : β → Shared → Prop} {Q₂ : δ → Shared → Prop} {E : Value → Shared → Prop}
theorem OK.mono (h : X.Le Y) : ∀ {r : Res α}, OK P w F l X R Q E r → OK P w F l Y R Q E r
 | .ok _ _, H => fun Z s u hz hr hu => H Z s u (h.trans hz) hr hu
 | .exc _ _, H => fun Z s u hz hr hu => H Z s u (h.trans hz) hr hu
 | .stop _, H => H
theorem OK.bind {r : Res α} {k : α → St → Res γ} (H : OK P w F l X R' Q₂ E (r.bind k)) (h : ∀ a σ, r = .ok a σ → ∀ Y s u, X.Le Y → Rel P w Y σ s → R Y a u → OK P w F l Y R' Q₂ E (k a σ) → Q u s) : OK P w F l X R Q E r := by
 cases r with
 | ok a σ => exact fun Y s u hy hr hu => h a σ rfl Y s u hy hr hu (OK.mono hy H)
 | exc b σ => exact H
 | stop m => exact H
theorem OK.here {a : α} {σ : St} {s : Shared} {u : β} (H : OK P w F l X R Q E (.ok a σ)) (hr : Rel P w X σ s) (hu : R X a u) : Q u s := H X s u (Wl.Le.refl X) hr hu
theorem OK.opt {why : String} {o : Option α} {σ : St} (H : OK P w F l X R Q E (oJ why o σ)) : ∃ a, o = some a ∧ OK P w F l X R Q E (.ok a σ) := by
 cases o with
 | none => exact H.elim
 | some a => exact ⟨a, rfl, H⟩
theorem OK.optb {why : String} {o : Option α} {σ : St} {k : α → St → Res γ} (H : OK P w F l X R' Q₂ E ((oJ why o σ).bind k)) : ∃ a, o = some a ∧ OK P w F l X R' Q₂ E (k a σ) := by
 cases o with
 | none => exact H.elim
 | some a => exact ⟨a, rfl, H⟩
theorem OK.q (h : ∀ u s, Q u s → Q' u s) : ∀ {r : Res α}, OK P w F l X R Q E r → OK P w F l X R Q' E r
 | .ok _ _, H => fun Z s u hz hr hu => h _ _ (H Z s u hz hr hu)
 | .exc _ _, H => H
 | .stop _, H => H
theorem OK.om {o : Option γ} {m : String} {k : γ → Res α} (H : OK P w F l X R Q E (om o m k)) : ∃ a, o = some a ∧ OK P w F l X R Q E (k a) := by
 cases o with
 | none => exact H.elim
 | some a => exact ⟨a, rfl, H⟩
theorem OK.bif {c : Bool} {r : Res α} {m : String} (H : OK P w F l X R Q E (bif c then r else .stop m)) : c = true ∧ OK P w F l X R Q E r := by
 cases c with
 | true => exact ⟨rfl, H⟩
 | false => exact H.elim
theorem OK.bif' {c : Bool} {r : Res α} {m : String} (H : OK P w F l X R Q E (bif c then .stop m else r)) : c = false ∧ OK P w F l X R Q E r := by
 cases c with
 | true => exact H.elim
 | false => exact ⟨rfl, H⟩
end
end
end Mine
end
section
open PySem PySem.W
namespace Mine
noncomputable abbrev pw : Program := PySem.Challenge.pw_xw0220_01
noncomputable abbrev most : Int := (10 : Int) ^ (400 : Nat)
inductive OldK where
 | fn (i : Nat) (j : Option Nat) (q : Str) (ds : List V) (t : Option Nat)
 | cls (mro : List Nat) (init : Nat) (meths : List (Str × Nat)) (attrs : List Str)
 | tup (xs : List V)
noncomputable def defAt (i : Nat) : Option Nat → Option Stmt
 | none => pw.main.body[i]?
 | some j => match pw.main.body[i]? with
  | some (.ClassDef _ _ _ b _ _ _ _ _ _ _) => b[j]?
  | _ => none
noncomputable def defI (s : Stmt) : Option (Arguments × List Stmt × Scope) := match s with
 | .FunctionDef _ ps b _ _ _ sc _ _ _ => some (ps, b, sc)
 | _ => none
noncomputable def defO (i : Nat) (j : Option Nat) : Option (Arguments × List Stmt × Scope) := (defAt i j).bind defI
noncomputable def oldFn (o : Option (Arguments × List Stmt × Scope)) (q : Str) (ds : List V) (t : Option Nat) : Old := match o with
 | some p => .fn p.1 p.2.1 p.2.2 q ds t
 | none => .tup []
noncomputable def OldK.old (o : OldK) : Old := match o with
 | .fn i j q ds t => oldFn (defO i j) q ds t
 | .cls m i ms as => .cls m i ms as
 | .tup xs => .tup xs
noncomputable def gGl : List (Str × V) := [
 (sOf "law", .old 1304),
 (sOf "_law_take", .old 1235),
 (sOf "_law_one", .old 1242),
 (sOf "_law_made", .old 1263),
 (sOf "_law_worth", .old 1270),
 (sOf "_law_words", .old 1277),
 (sOf "_law_tried", .old 1249),
 (sOf "_law_kept", .old 1294),
 (sOf "_law_pool", .old 1228),
 (sOf "_law_context", .old 1256),
 (sOf "_law_asked_right", .old 1284),
 (sOf "_law_called_right", .old 1289),
 (sOf "_law_filtered_right", .old 1299),
 (sOf "evaluate", .old 967),
 (sOf "of_call", .old 946),
 (sOf "of_filter", .old 953),
 (sOf "asker", .old 934),
 (sOf "needs_nodes", .old 915),
 (sOf "kept", .old 652),
 (sOf "holds", .old 645),
 (sOf "call_core", .old 535),
 (sOf "is_core", .old 514),
 (sOf "bounds_of", .old 521),
 (sOf "check_many", .old 528),
 (sOf "call_of_sets", .old 410),
 (sOf "call_of_truths", .old 481),
 (sOf "call_of_texts", .old 500),
 (sOf "number_of", .old 46),
 (sOf "common_divisor", .old 31),
 (sOf "as_text", .old 209),
 (sOf "write_number", .old 173),
 (sOf "is_nan", .old 53),
 (sOf "as_truth", .old 223),
 (sOf "call_of_numbers", .old 488),
 (sOf "nodes_of", .old 347),
 (sOf "Call", .old 791),
 (sOf "VariableNode", .old 763),
 (sOf "NumberNode", .old 735),
 (sOf "Literal", .old 707),
 (sOf "Path", .old 903),
 (sOf "Binary", .old 819),
 (sOf "Negated", .old 847),
 (sOf "Filter", .old 875),
 (sOf "Context", .old 1006),
 (sOf "Tree", .old 1217),
 (sOf "NodeRow", .old 1028),
 (sOf "len", .bt .len),
 (sOf "isinstance", .bt .isinstance),
 (sOf "str", .ty .str),
 (sOf "bool", .ty .bool),
 (sOf "tuple", .ty .tup),
 (sOf "list", .ty .list),
 (sOf "range", .ty .range),
 (sOf "enumerate", .ty .enum),
 (sOf "abs", .bt .abs),
 (sOf "max", .bt .max),
 (sOf "Exception", .ty .exc),
 (sOf "SETS", .old 501),
 (sOf "TRUTHS", .old 502),
 (sOf "NUMBERS", .old 503),
 (sOf "TEXTS", .old 504),
 (sOf "NONE_LET", .old 505),
 (sOf "ONE_AT_MOST", .old 506),
 (sOf "TWO_WANTED", .old 507),
 (sOf "PARENTS", .old 1011),
 (sOf "MANY", .int 1000),
 (sOf "PathFault", .old 317),
 (sOf "MOST", .int most)]
noncomputable def gOk : List (Nat × OldK) := [
 (1235, .fn 149 none (sOf "_law_take") [] none),
 (1242, .fn 150 none (sOf "_law_one") [] none),
 (1263, .fn 153 none (sOf "_law_made") [] none),
 (1270, .fn 154 none (sOf "_law_worth") [] none),
 (1277, .fn 155 none (sOf "_law_words") [] none),
 (1249, .fn 151 none (sOf "_law_tried") [] none),
 (1294, .fn 158 none (sOf "_law_kept") [] none),
 (1228, .fn 148 none (sOf "_law_pool") [] none),
 (1256, .fn 152 none (sOf "_law_context") [] (some 4)),
 (1284, .fn 156 none (sOf "_law_asked_right") [] (some 0)),
 (1289, .fn 157 none (sOf "_law_called_right") [] (some 1)),
 (1299, .fn 159 none (sOf "_law_filtered_right") [] (some 2)),
 (967, .fn 140 none (sOf "evaluate") [] none),
 (946, .fn 137 none (sOf "of_call") [] none),
 (953, .fn 138 none (sOf "of_filter") [] none),
 (934, .fn 135 none (sOf "asker") [] (some 3)),
 (915, .fn 132 none (sOf "needs_nodes") [] none),
 (652, .fn 115 none (sOf "kept") [] none),
 (645, .fn 114 none (sOf "holds") [] none),
 (535, .fn 95 none (sOf "call_core") [] none),
 (514, .fn 92 none (sOf "is_core") [] none),
 (521, .fn 93 none (sOf "bounds_of") [] none),
 (528, .fn 94 none (sOf "check_many") [] none),
 (410, .fn 67 none (sOf "call_of_sets") [] none),
 (481, .fn 79 none (sOf "call_of_truths") [] none),
 (500, .fn 82 none (sOf "call_of_texts") [] none),
 (46, .fn 11 none (sOf "number_of") [.int 1] none),
 (31, .fn 9 none (sOf "common_divisor") [] none),
 (209, .fn 37 none (sOf "as_text") [] none),
 (173, .fn 29 none (sOf "write_number") [.int 15] none),
 (53, .fn 12 none (sOf "is_nan") [] none),
 (223, .fn 39 none (sOf "as_truth") [] none),
 (488, .fn 80 none (sOf "call_of_numbers") [] none),
 (347, .fn 58 none (sOf "nodes_of") [] none),
 (1304, .fn 160 none (sOf "law") [] none),
 (791, .cls [791] 781 [] [sOf "name", sOf "arguments"]),
 (781, .fn 125 (some 0) (sOf "Call.__init__") [] none),
 (763, .cls [763] 753 [] [sOf "name"]),
 (753, .fn 124 (some 0) (sOf "VariableNode.__init__") [] none),
 (735, .cls [735] 725 [] [sOf "value"]),
 (725, .fn 123 (some 0) (sOf "NumberNode.__init__") [] none),
 (707, .cls [707] 697 [] [sOf "value"]),
 (697, .fn 122 (some 0) (sOf "Literal.__init__") [] none),
 (903, .cls [903] 893 [] []),
 (893, .fn 129 (some 0) (sOf "Path.__init__") [] none),
 (819, .cls [819] 809 [] []),
 (809, .fn 126 (some 0) (sOf "Binary.__init__") [] none),
 (847, .cls [847] 837 [] []),
 (837, .fn 127 (some 0) (sOf "Negated.__init__") [] none),
 (875, .cls [875] 865 [] [sOf "base", sOf "predicates"]),
 (865, .fn 128 (some 0) (sOf "Filter.__init__") [] none),
 (1006, .cls [1006] 982 [(sOf "at", 989), (sOf "variable", 996)] [sOf "tree", sOf "node", sOf "position", sOf "size", sOf "variables", sOf "names", sOf "calls", sOf "current", sOf "ids"]),
 (982, .fn 142 (some 0) (sOf "Context.__init__") [.int 1, .int 1, .none, .none, .none, .none, .none] none),
 (989, .fn 142 (some 1) (sOf "Context.at") [] none),
 (996, .fn 142 (some 2) (sOf "Context.variable") [] none),
 (1217, .cls [1217] 1046 [(sOf "new_row", 1053), (sOf "row", 1060), (sOf "add_child", 1074), (sOf "add_element", 1081), (sOf "add_text", 1088)] [sOf "rows"]),
 (1046, .fn 146 (some 0) (sOf "Tree.__init__") [] none),
 (1053, .fn 146 (some 1) (sOf "Tree.new_row") [] none),
 (1060, .fn 146 (some 2) (sOf "Tree.row") [] none),
 (1074, .fn 146 (some 4) (sOf "Tree.add_child") [] none),
 (1081, .fn 146 (some 5) (sOf "Tree.add_element") [] none),
 (1088, .fn 146 (some 6) (sOf "Tree.add_text") [] none),
 (1028, .cls [1028] 1025 [] [sOf "kind", sOf "name", sOf "uri", sOf "local", sOf "value", sOf "parent", sOf "children", sOf "attributes", sOf "namespaces"]),
 (1025, .fn 145 (some 0) (sOf "NodeRow.__init__") [] none),
 (289, .fn 49 (some 0) (sOf "MarkupError.__init__") [] none),
 (501, .tup [.str (sOf "last"), .str (sOf "position"), .str (sOf "count"), .str (sOf "id"), .str (sOf "local-name"), .str (sOf "namespace-uri"), .str (sOf "name"), .str (sOf "sum"), .str (sOf "lang")]),
 (502, .tup [.str (sOf "boolean"), .str (sOf "not"), .str (sOf "true"), .str (sOf "false")]),
 (503, .tup [.str (sOf "number"), .str (sOf "floor"), .str (sOf "ceiling"), .str (sOf "round")]),
 (504, .tup [.str (sOf "string"), .str (sOf "concat"), .str (sOf "starts-with"), .str (sOf "contains"), .str (sOf "substring-before"), .str (sOf "substring-after"), .str (sOf "substring"), .str (sOf "string-length"), .str (sOf "normalize-space"), .str (sOf "translate")]),
 (505, .tup [.str (sOf "last"), .str (sOf "position"), .str (sOf "true"), .str (sOf "false")]),
 (506, .tup [.str (sOf "local-name"), .str (sOf "namespace-uri"), .str (sOf "name"), .str (sOf "string"), .str (sOf "number"), .str (sOf "string-length"), .str (sOf "normalize-space")]),
 (507, .tup [.str (sOf "starts-with"), .str (sOf "contains"), .str (sOf "substring-before"), .str (sOf "substring-after")]),
 (1011, .tup [.str (sOf "root"), .str (sOf "element")])]
noncomputable def gT : List Addr := [1279, 1286, 1296, 929, 1251]
noncomputable def gFault : Nat := 317
noncomputable def gLaw : Nat := 1304
noncomputable def gOlds : List (Nat × Old) := gOk.map fun p => (p.1, p.2.old)
noncomputable def dJ : Nat := 1305
noncomputable def gx (xs : List V) (q : Bool) (ne : List Nat → Str → Bool) (orc : Qn → Option V) : Cx := ⟨gGl, gOlds ++ [(dJ, .lst xs)], gFault, q, ne, orc⟩
noncomputable def gg (xs : List V) : Cx := gx xs false (fun _ _ => false) (fun _ => none)
noncomputable def st0 : St := (List.replicate 5 (O.tab [])).foldl (fun σ o => σ.pushF o) ⟨0, .nil⟩
noncomputable def runLaw (n : Nat) (xs : List Int) : Res V := (rcs (gg (xs.map .int)) n).call (.old gLaw) [.old dJ] st0
noncomputable def isTrueR : Res V → Bool
 | .ok (.bool b) _ => b
 | _ => false
end Mine
end
section
open PySem PySem.W PySem.Calls PyProof.Rows PySem.SeqAt
namespace Mine
noncomputable def iJ (h : Heap) (as : List Addr) : Frag := as.filterMap fun a => (h.get? a).map fun o => (a, o)
theorem fragOf_cons {h : Heap} {a : Addr} {as : List Addr} : iJ h (a :: as) = match h.get? a with | some o => (a, o) :: iJ h as | none => iJ h as := by
 unfold iJ
 rw [List.filterMap_cons]
 cases h.get? a <;> rfl
set_option tactic.hygienic true in
theorem fragOf_in {h : Heap} : ∀ (as : List Addr) (a : Addr) (o : Obj), (iJ h as).lookup a = some o → h.get? a = some o
 | [], _, _, e => by injection e
 | b :: as, a, o, e => by
  rw [fragOf_cons] at e
  split at e
  ·rename_i ob hb
   rw [List.lookup_cons] at e
   split at e
   ·rename_i q
    injection e with q1; subst q1
    rw [eq_of_beq q]; exact hb
   ·exact fragOf_in as a o e
  ·exact fragOf_in as a o e
theorem fragOf_mem {h : Heap} {a : Addr} {o : Obj} (e : h.get? a = some o) : ∀ (as : List Addr), a ∈ as → (iJ h as).lookup a = some o := by
 intro as
 induction as with
 | nil => intro hm; cases hm
 | cons b as ih =>
  intro hm
  rw [fragOf_cons]
  by_cases q : a = b
  ·subst q
   rw [e]
   dsimp only
   rw [List.lookup_cons, beq_self_eq_true]
  ·have hm' : a ∈ as := (List.mem_cons.mp hm).resolve_left q
   have hb : (a == b) = false := by simpa using q
   cases h.get? b with
   | none => exact ih hm'
   | some o' =>
    dsimp only
    rw [List.lookup_cons, hb]
    exact ih hm'
noncomputable def intU (u : Value) (i : Int) : Bool := match u with
 | .int j _ => decide (i = j)
 | _ => false
theorem intU_ok {u : Value} {i : Int} (h : intU u i = true) : ∃ n, u = .int i n := by
 cases u with
 | int j n => exact ⟨n, by rw [of_decide_eq_true h]⟩
 | _ => exact Bool.noConfusion h
noncomputable def strU (u : Value) (x : Str) : Bool := match u with
 | .str y _ => eqS x y
 | _ => false
theorem strU_ok {u : Value} {x : Str} (h : strU u x = true) : ∃ n, u = .str x n := by
 cases u with
 | str y n => exact ⟨n, by rw [eI.mp h]⟩
 | _ => exact Bool.noConfusion h
noncomputable def vrB (v : V) (u : Value) : Bool := match v with
 | .none => u == .none
 | .bool a => u == .bool a
 | .int i => intU u i
 | .str x => strU u x
 | .ty n => u == .type n.name
 | .bt n => u == .builtin n.name
 | .old a => u == .ref a
 | _ => false
noncomputable def vrsB : List V → List Value → Bool
 | [], us => nilB us
 | v :: vs, us => (match us with
  | [] => false
  | u :: us => vrB v u && vrsB vs us)
section
variable [Tau]
theorem vrB_ok {v : V} {u : Value} (h : vrB v u = true) : VR [] v u := by
 cases v with
 | none => exact eq_of_beq h
 | bool => exact eq_of_beq h
 | ty => exact eq_of_beq h
 | bt => exact eq_of_beq h
 | old => exact eq_of_beq h
 | int => exact intU_ok h
 | str => exact strU_ok h
 | _ => exact Bool.noConfusion h
theorem vrsB_ok {vs : List V} : ∀ {us : List Value}, vrsB vs us = true → cQ [] vs us := by
 induction vs with
 | nil => intro us h; rw [yQ h]; trivial
 | cons v vs ih =>
  intro us h
  cases us with
  | nil => exact Bool.noConfusion h
  | cons u us => exact ⟨vrB_ok (aL h), ih (aR h)⟩
end
noncomputable def clsT (c : Value) (t : String) : Bool := match c with
 | .type u => u == t
 | _ => false
theorem clsT_ok {c : Value} {t : String} (h : clsT c t = true) : c = .type t := by
 cases c with
 | type u => rw [eq_of_beq h]
 | _ => exact Bool.noConfusion h
noncomputable def dataS (d : Data) : Option (Array Value × Nat) := match d with
 | .seq us n => some (us, n)
 | _ => none
theorem dataS_ok {d : Data} {p : Array Value × Nat} (h : dataS d = some p) : d = .seq p.1 p.2 := by
 cases d with
 | seq => injection h with q1; subst q1; rfl
 | _ => exact nos h
noncomputable def dataF (d : Data) : Option (Array Value) := match d with
 | .fields us => some us
 | _ => none
theorem dataF_ok {d : Data} {p : Array Value} (h : dataF d = some p) : d = .fields p := by
 cases d with
 | fields => injection h with q1; subst q1; rfl
 | _ => exact nos h
noncomputable def dataN (d : Data) : Option FuncData := match d with
 | .func fd => some fd
 | _ => none
theorem dataN_ok {d : Data} {p : FuncData} (h : dataN d = some p) : d = .func p := by
 cases d with
 | func => injection h with q1; subst q1; rfl
 | _ => exact nos h
noncomputable def dataC (d : Data) : Option ClassData := match d with
 | .cls cd => some cd
 | _ => none
theorem dataC_ok {d : Data} {p : ClassData} (h : dataC d = some p) : d = .cls p := by
 cases d with
 | cls => injection h with q1; subst q1; rfl
 | _ => exact nos h
noncomputable def refU (u : Value) : Option Nat := match u with
 | .ref a => some a
 | _ => none
theorem refU_ok {u : Value} {a : Nat} (h : refU u = some a) : u = .ref a := by
 cases u with
 | ref => injection h with q1; subst q1; rfl
 | _ => exact nos h
noncomputable def isStrU (u : Value) : Bool := match u with
 | .str _ _ => true
 | _ => false
theorem isStrU_ok {u : Value} (h : isStrU u = true) : ∃ x n, u = .str x n := by
 cases u with
 | str => exact ⟨_, _, rfl⟩
 | _ => exact Bool.noConfusion h
noncomputable def isIntU (u : Value) : Bool := match u with
 | .int _ _ => true
 | _ => false
theorem isIntU_ok {u : Value} (h : isIntU u = true) : ∃ x n, u = .int x n := by
 cases u with
 | int => exact ⟨_, _, rfl⟩
 | _ => exact Bool.noConfusion h
noncomputable def isBoolU (u : Value) : Bool := match u with
 | .bool _ => true
 | _ => false
theorem isBoolU_ok {u : Value} (h : isBoolU u = true) : ∃ x, u = .bool x := by
 cases u with
 | bool => exact ⟨_, rfl⟩
 | _ => exact Bool.noConfusion h
noncomputable def seqB (h : Heap) (a : Addr) (l : Bool) (xs : List V) : Bool := sJ (h.get? a) fun o => clsT o.cls (if l then "list" else "tuple") && (noB o.dict && (nilB o.slots.toList && sJ (dataS o.data) fun p => vrsB xs p.1.toList))
noncomputable def codeHdB (h : Heap) (c P : Addr) : Bool := sJ (h.get? c) fun o => clsT o.cls "code" && sJ (dataF o.data) fun vs => (vs[11]? : Option Value) == some (.ref P) && (isStrU (vs.getD 18 .none) && (isIntU (vs.getD 7 .none) && (isBoolU (vs.getD 9 .none) && (isIntU (vs.getD 10 .none) && !Nat.beq c P))))
noncomputable def dfB (h : Heap) (ds : List V) (d : Value) : Bool := match d with
 | .none => nilB ds
 | .ref d => seqB h d false ds
 | _ => false
noncomputable def tabB (h : Heap) (t : Option Nat) (c : Value) : Bool := match t with
 | none => true
 | some k => sJ (refU c) fun c => sJ gT[k]? fun P => codeHdB h c P
noncomputable def fnB (h : Heap) (a : Addr) (q : Str) (ds : List V) (t : Option Nat) : Bool := sJ (h.get? a) fun o => clsT o.cls "function" && sJ (dataN o.data) fun fd => eqS fd.qualname q && (Nat.beq fd.globals mainGlobals && (Nat.beq fd.builtins builtinsNs && (nilB fd.closure && (fd.kwdefaults == .none && (h.codeRecOk fd.code fd.qualname && (dfB h ds fd.defaults && tabB h t fd.code))))))
noncomputable def refsOf : List Value → List Nat
 | [] => []
 | .ref a :: l => a :: refsOf l
 | _ :: l => refsOf l
noncomputable def clsB (K : Frag) (C : Addr) (mro : List Nat) (i : Nat) (ms : List (Str × Nat)) (as : List Str) : Bool :=
 (clsIn K C).any (fun cd => cd.hasDict && (!cd.mro.isEmpty && refsOf cd.mro == mro)) && (findIn K (.ref C) "__getattribute__" == some (some (.builtin "object.__getattribute__")) && (findIn K (.ref C) "__setattr__" == some (some (.builtin "object.__setattr__")) &&
 (plainOver K C && (findIn K (.ref C) "__getattr__" == some none && (makesIn K C && (findIn K (.ref C) "__init__" == some (some (.ref i)) && (typeIn K (.ref i) == some (.type "function") &&
 (as.all (fun x => findIn K (.ref C) x == some none && !copiedNames.contains x) && (ms.all (fun p => findIn K (.ref C) p.1 == some (some (.ref p.2)) && typeIn K (.ref p.2) == some (.type "function")) &&
 (plainGet K C "__class__" && (hasDictIn K C && (findIn K (.ref C) "__class__" == some (some (.builtin "object.__class__")) && (specialIn K (.builtin "object.__class__") "__get__" == some (some (.builtin "getset_descriptor.__get__")) &&
 (takesIn K (.builtin "object.__class__") == some true && mroIn K C (.type "object") == some true))))))))))))))
noncomputable def oldB (h : Heap) (K : Frag) (as : List Addr) (a : Addr) : OldK → Bool
 | .fn _ _ q ds t => fnB h a q ds t && as.any fun b => Nat.beq a b
 | .cls m i ms ats => clsB K a m i ms ats
 | .tup xs => seqB h a false xs
noncomputable def globB (h : Heap) (x : Str) (v : V) : Bool := !eqS x (sOf "__debug__") && (match h.nsMap mainGlobals x with
 | some u => vrB v u
 | none => match h.nsMap builtinsNs x with
  | some u => vrB v u
  | none => false)
noncomputable def kTys : List V := [.ty .none, .ty .bool, .ty .int, .ty .str, .ty .list, .ty .tup, .ty .dict] ++ gOk.filterMap fun p => match p.2 with | .cls .. => some (.old p.1) | _ => none
noncomputable def isiB (K : Frag) : Bool := kTys.all fun t => kTys.all fun c => match isTy (gg []) t c with
 | some b => kitOne K (tyV t) (tyV c) == some b
 | none => true
noncomputable def mroAt (l : List Value) : Nat := ((l[1]?).bind refU).getD 0
noncomputable def fltC (cd : ClassData) : Bool := cd.hasDict && (!cd.hasDel && cd.mro == [.ref gFault, .ref (mroAt cd.mro), .type "Exception", .type "BaseException", .type "object"])
noncomputable def fltS (l : List (Option Value)) : Bool := l == [l.getD 0 none, l.getD 1 none, l.getD 2 none, l.getD 3 none, some (.builtin "Exception.__new__"), l.getD 5 none]
noncomputable def fltB (h : Heap) (K : Frag) : Bool := sJ (h.get? gFault) (fun o => clsT o.cls "type" && (fltS o.slots.toList && sJ (dataC o.data) fltC)) && (findIn K (.ref gFault) "__setattr__" == some (some (.builtin "object.__setattr__")) && (findIn K (.ref gFault) (sOf "message") == some none && (findIn K (.ref gFault) "__init__" == some (some (.ref 289)) && typeIn K (.ref 289) == some (.type "function"))))
noncomputable def gAs : List Addr := gOk.map (·.1) ++ [706, 734, 762, 790, 818, 846, 874, 902, 1005, 1027, 1216, 317, 316, 292, 291]
noncomputable def tabOk (h : Heap) (P : Addr) : Bool := sJ (h.get? P) fun o => o.cls == .none && (noB o.dict && (nilB o.slots.toList && (sJ (dataF o.data) (fun vs => nilB vs.toList) && !gAs.any fun a => Nat.beq a P)))
noncomputable def ctxB (s : Shared) : Bool := (gGl.all fun p => globB s.heap p.1 p.2) && ((gOk.all fun p => oldB s.heap (iJ s.heap gAs) gAs p.1 p.2) && (isiB (iJ s.heap gAs) && (fltB s.heap (iJ s.heap gAs) && ((s.heap.get? sysModules).isSome && ((s.heap.get? mainGlobals).isSome && ((s.heap.get? builtinsNs).isSome && gT.all (tabOk s.heap)))))))
noncomputable abbrev FnO := Option (Arguments × FuncBody × Scope)
noncomputable def fnO (o : Obj) : FnO := (dataN o.data).bind fun fd => some (fd.params, fd.body, fd.scope)
noncomputable def fnObs (s : Shared) : List FnO := gOk.map fun p => (s.heap.get? p.1).bind fnO
noncomputable def fnDef (o : OldK) : FnO := match o with
 | .fn i j _ _ _ => (defO i j).bind fun p => some (p.1, .stmts p.2.1, p.2.2)
 | _ => none
noncomputable def fnVal : List FnO := gOk.map fun p => fnDef p.2
noncomputable def ctxObs (s : Shared) : Bool × List FnO × Nat × Nat := (ctxB s, fnObs s, s.heap.objs.size, s.toks)
noncomputable def ctxVal (_ : World) : Bool × List FnO × Nat × Nat := (true, fnVal, 1305, 2031)
end Mine
end
section
open PySem PySem.W PySem.W.X PySem.Calls PyProof.Rows PySem.SeqAt
set_option maxHeartbeats 0
namespace Mine
noncomputable abbrev rw0 := PySem.Challenge.rw_xw0220_01
theorem andT {a b : Bool} (h : a = true) (k : b = true) : (a && b) = true := by rw [h, k]; rfl
theorem wsN : Fast.tw8377067652309620493 rw0.prog = true := by kernel_rfl
theorem wsM : Fast.tw17119622794617984870 rw0.prog rw0.prog.main.body (fun _ n => Fast.tw17868728402115742887 n) = true := by kernel_rfl
theorem wsL : Fast.tw12908688711261696721 rw0.prog = true := by
 refine andT (andT (andT (andT ?_ wsN) ?_) ?_) wsM
 all_goals kernel_rfl
theorem wsP : Fast.tw2436336058641802641 (Fast.tw2368527892694137696 rw0) = true := by
 iterate 13 refine andT ?_ ?_
 ·exact wsL
 all_goals kernel_rfl
theorem ws : rw0.wellSaid = true := (congrFun Fast.te9446332074065402090 _).trans (by
 iterate 18 refine andT ?_ ?_
 ·exact andT (andT wsP (by kernel_rfl)) (by kernel_rfl)
 all_goals kernel_rfl)
noncomputable def qv : Program := { pw with main := { pw.main with body := pw.main.body.drop 160 } }
noncomputable def looseV : List Str := pw.boundNames
noncomputable def runT (p : Program) (w : World) : Nat → SharedT → Thread → Option SharedT
 | 0, _, _ => none
 | n + 1, s, t => match through t with
  | true => some s
  | false => match PySem.W.Fast.tw6613529449190102663 11 (some (.ref 6)) t with
   | false => none
   | true => match PySem.W.Fast.tw10156331382660048174 (PySem.W.Fast.tw11892475500146522536 PySem.W.Fast.tw14364793385576792824) p w s t with
    | some (s', t') => runT p w n s' t'
    | none => none
theorem runT_spec {p : Program} {w : World} : ∀ {n : Nat} {s s' : SharedT} {t : Thread}, runT p w n s t = some s' → topRun treeTable p w 11 (some (.ref 6)) n s.abs t = some s'.abs
 | 0, _, _, _, h => by cases h
 | n + 1, s, s', t, h => by
  unfold runT at h
  rw [← PySem.W.Fast.te6613529449190102663, ← PySem.W.Fast.te10156331382660048174, ← PySem.W.Fast.te11892475500146522536, ← PySem.W.Fast.te14364793385576792824] at h
  unfold topRun
  cases ht : through t with
  | true => rw [ht] at h; cases h; rfl
  | false =>
   rw [ht] at h
   cases hk : stepOk 11 (some (.ref 6)) t with
   | false => rw [hk] at h; cases h
   | true =>
    rw [hk] at h
    cases hs : stepT (denote treeTable) p w s t with
    | none => rw [hs] at h; cases h
    | some r =>
     obtain ⟨s₂, t₂⟩ := r
     rw [hs] at h
     rw [stepT_spec hs]
     exact runT_spec h
noncomputable def runN (p : Program) (w : World) : Nat → SharedT → Thread → Option SharedT
 | 0, _, _ => none
 | n + 1, s, t => match through t with
  | true => some s
  | false => match PySem.W.Fast.tw10156331382660048174 (PySem.W.Fast.tw11892475500146522536 PySem.W.Fast.tw14364793385576792824) p w s t with
   | some (s', t') => runN p w n s' t'
   | none => none
theorem runN_of {p : Program} {w : World} {s' : SharedT} : ∀ {n : Nat} {s : SharedT} {t : Thread}, runT p w n s t = some s' → runN p w n s t = some s'
 | 0, _, _, h => by injection h
 | n + 1, s, t, h => by
  unfold runT at h
  unfold runN
  cases ht : through t with
  | true => rw [ht] at h; exact h
  | false =>
   rw [ht] at h
   cases hk : PySem.W.Fast.tw6613529449190102663 11 (some (.ref 6)) t with
   | false => rw [hk] at h; injection h
   | true =>
    rw [hk] at h
    cases hs : PySem.W.Fast.tw10156331382660048174 (PySem.W.Fast.tw11892475500146522536 PySem.W.Fast.tw14364793385576792824) p w s t with
    | none => rw [hs] at h; injection h
    | some r => rw [hs] at h; exact runN_of h
noncomputable def bootTree (P : Params) : BT := [boot_o_0 P, boot_o_1 P, boot_o_2 P, boot_o_3 P, boot_o_4 P, boot_o_5 P, boot_o_6 P, boot_o_7 P, boot_o_8 P, boot_o_9 P, boot_o_10 P].zipIdx.foldl (fun t (o, i) => t.ins i o) .nil
noncomputable def S0 (P : Params) (os : OsState) : SharedT := ⟨bootTree P, 11, {}, #[], boot_drawn, boot_toks, os⟩
noncomputable def topOk (p : Program) (h₀ : Heap) (s : Shared) : Bool := staticsOk (importedModules p.main.body) h₀ s.heap && namesBound p s.heap && gensDone s && laidKept h₀ s.heap
noncomputable def treeAt (s : SharedT) (a : Addr) : Option Obj := match Nat.blt a s.n with
 | true => alive ((s.tree.get a).getD default)
 | false => none
theorem get_tree (s : SharedT) : s.abs.heap.get? = treeAt s := by
 funext a
 show (absHeap s.tree s.n s.life).get? a = _
 unfold treeAt
 cases h : Nat.blt a s.n with
 | true =>
  unfold Heap.get?
  rw [absHeap_at, if_pos (bI.mp h)]
  generalize (s.tree.get a).getD default = o
  obtain ⟨c, d, dt, sl⟩ := o
  cases dt <;> rfl
 | false => exact abs_get_none fun z => by rw [bI.mpr z] at h; injection h
section
variable (h : Heap) (g : Addr → Option Obj)
noncomputable def fragG (as : List Addr) : Frag := as.filterMap fun a => (g a).map fun o => (a, o)
noncomputable def seqG (a : Addr) (l : Bool) (xs : List V) : Bool := sJ (g a) fun o => clsT o.cls (if l then "list" else "tuple") && (noB o.dict && (nilB o.slots.toList && sJ (dataS o.data) fun p => vrsB xs p.1.toList))
noncomputable def codeHdG (c P : Addr) : Bool := sJ (g c) fun o => clsT o.cls "code" && sJ (dataF o.data) fun vs => (vs[11]? : Option Value) == some (.ref P) && (isStrU (vs.getD 18 .none) && (isIntU (vs.getD 7 .none) && (isBoolU (vs.getD 9 .none) && (isIntU (vs.getD 10 .none) && !Nat.beq c P))))
noncomputable def dfG (ds : List V) (d : Value) : Bool := match d with
 | .none => nilB ds
 | .ref d => seqG g d false ds
 | _ => false
noncomputable def tabG (t : Option Nat) (c : Value) : Bool := match t with
 | none => true
 | some k => sJ (refU c) fun c => sJ gT[k]? fun P => codeHdG g c P
noncomputable def fnG (a : Addr) (q : Str) (ds : List V) (t : Option Nat) : Bool := sJ (g a) fun o => clsT o.cls "function" && sJ (dataN o.data) fun fd => eqS fd.qualname q && (Nat.beq fd.globals mainGlobals && (Nat.beq fd.builtins builtinsNs && (nilB fd.closure && (fd.kwdefaults == .none && (h.codeRecOk fd.code fd.qualname && (dfG g ds fd.defaults && tabG g t fd.code))))))
noncomputable def oldG (K : Frag) (as : List Addr) (a : Addr) : OldK → Bool
 | .fn _ _ q ds t => fnG h g a q ds t && as.any fun b => Nat.beq a b
 | .cls m i ms ats => clsB K a m i ms ats
 | .tup xs => seqG g a false xs
noncomputable def fltG (K : Frag) : Bool := sJ (g gFault) (fun o => clsT o.cls "type" && (fltS o.slots.toList && sJ (dataC o.data) fltC)) && (findIn K (.ref gFault) "__setattr__" == some (some (.builtin "object.__setattr__")) && (findIn K (.ref gFault) (sOf "message") == some none && (findIn K (.ref gFault) "__init__" == some (some (.ref 289)) && typeIn K (.ref 289) == some (.type "function"))))
noncomputable def tabOkG (P : Addr) : Bool := sJ (g P) fun o => o.cls == .none && (noB o.dict && (nilB o.slots.toList && (sJ (dataF o.data) (fun vs => nilB vs.toList) && !gAs.any fun a => Nat.beq a P)))
noncomputable def ctxG : Bool := (gGl.all fun p => globB h p.1 p.2) && ((gOk.all fun p => oldG h g (fragG g gAs) gAs p.1 p.2) && (isiB (fragG g gAs) && (fltG g (fragG g gAs) && ((g sysModules).isSome && ((g mainGlobals).isSome && ((g builtinsNs).isSome && gT.all (tabOkG g)))))))
end
theorem ctxG_eq (s : Shared) : ctxB s = ctxG s.heap s.heap.get? := rfl
theorem seen1 : ∀ (w : World) (os : OsState), (runT pw w 9000 (S0 w.params os) (topStub pw)).map (fun sT => (topOk pw (boot_heap w.params) sT.abs, openSeen qv looseV (importedModules pw.main.body) (fun _ => true) true sT.abs)) = some (true, openGood qv looseV) := by
 intro w os; kernel_rfl
theorem seen2 : ∀ (w : World) (os : OsState), (runN pw w 9000 (S0 w.params os) (topStub pw)).map (fun sT => (ctxG sT.abs.heap (treeAt sT), gOk.map fun p => (treeAt sT p.1).bind fnO, sT.n, sT.toks)) = some (true, fnVal, 1305, 2031) := by
 intro w os; kernel_rfl
end Mine
end
section
open PySem PySem.W PySem.Calls PyProof.Rows
namespace Mine
section
variable [Tau]
structure Snd (P : Program) (w : World) (g : Cx) (K : Frag) (T : List Addr) (n : Nat) (r : Rc) : Prop where
 ev : ∀ {f : Fr} {e : PySem.Expr} {σ : St} {X : Wl} {s : Shared} {A : Around} {l : List Env} {env : Env} {Q : Value → Shared → Prop} {E : Value → Shared → Prop}, Sit P w g K T n l A X σ s → bQ l X f env →
  OK P w g l X RV Q E (r.ev f e σ) → wpAny (model P w) A (eval e env) Q E s
 tst : ∀ {f : Fr} {e : PySem.Expr} {σ : St} {X : Wl} {s : Shared} {A : Around} {l : List Env} {env : Env} {Q : Bool → Shared → Prop} {E : Value → Shared → Prop}, Sit P w g K T n l A X σ s → bQ l X f env →
  OK P w g l X REq Q E (r.tst f e σ) → wpAny (model P w) A (PySem.isTrue e env (eval e env)) Q E s
 exs : ∀ {f : Fr} {b : List Stmt} {σ : St} {X : Wl} {s : Shared} {A : Around} {l : List Env} {env : Env} {Q : Flow → Shared → Prop} {E : Value → Shared → Prop}, Sit P w g K T n l A X σ s → bQ l X f env →
  OK P w g l X RFl Q E (r.exs f b σ) → wpAny (model P w) A (execs b env) Q E s
 call : ∀ {fv : V} {vs : List V} {u : Value} {us : List Value} {σ : St} {X : Wl} {s : Shared} {A : Around} {l : List Env} {Q : Value → Shared → Prop} {E : Value → Shared → Prop}, Sit P w g K T n l A X σ s → VR X.ρ fv u → cQ X.ρ vs us →
  OK P w g l X RV Q E (r.call fv vs σ) → wpAny (model P w) A (PySem.call u us) Q E s
section
variable {P : Program} {w : World} {g : Cx} {K : Frag} {T : List Addr} {n : Nat} {r : Rc} {l : List Env} {A : Around} {X Y : Wl} {σ σ' : St} {s s' : Shared} {f : Fr} {env : Env} {E : Value → Shared → Prop}
theorem bQ.kindOf (e : bQ l X f env) (x : Str) : env.kindOf x = wQ f.scope x := by
 unfold wQ
 rw [look_eq, ← e.scope]; rfl
theorem bQ.fkind (e : bQ l X f env) : env.scope.kind = .function := e.scope ▸ e.kind
theorem Rel.ns (R : Rel P w X σ s) {n : Nat} {m : List (Str × V)} (h : σ.get n = some (.ns m)) {a : Addr} (ha : X.ρ[n]? = some a) : ∃ mm, s.heap.Ns a mm ∧ MapR X.ρ m mm := by
 refine xvpvvppp (fun ob h1 es ep h2 h3 h4 => ?_) (R.at h ha)
 exact ⟨_, ⟨ob, es, ep, h1, h2, h3, fun _ => rfl⟩, h4⟩
theorem Rel.cell (R : Rel P w X σ s) {n : Nat} {v : Option V} (h : rd (σ.get n) = some (.cell v)) {a : Addr} (ha : X.ρ[n]? = some a) : ∃ u, s.heap.IsCell a u ∧ OptR X.ρ v u := by
 refine xvpvpp (fun ob h1 u h2 h3 => ?_) (R.rat h ha)
 exact ⟨u, ⟨ob, h1, h2⟩, h3⟩
theorem VR.pre0 {v : V} {u : Value} (h : VR [] v u) (ρ : List Addr) : VR ρ v u := h.mono (List.nil_prefix)
theorem name_ok {A' : Around} (S : Sit P w g K T n l A X σ s) (e : bQ l X f env) {x : Str} {pos : Pos} {v : V} (h : lJ g f σ x = some v) {Q : Value → Shared → Prop} (q : ∀ u, VR X.ρ v u → Q u s) :
  wpAny (model P w) A' (eval (.Name x pos) env) Q E s := by
 unfold lJ at h
 have hd : (x == ("__debug__" : Str)) = false := by
  refine nJ (eqS x (sOf "__debug__")) (fun z => ?_) (fun z => ?_)
  ·rw [z] at h; injection h
  ·cases y : x == ("__debug__" : Str) with
   | false => rfl
   | true => exact absurd ((eI (b := sOf "__debug__")).mpr (eq_of_beq y)) (by rw [z]; decide)
 have hz : eqS x (sOf "__debug__") = false := by
  refine cZ (eqS x (sOf "__debug__")) (fun z => ?_) (fun z => ?_)
  ·rw [z] at h; injection h
  ·rfl
 rw [hz, cond_false] at h
 have hk := e.kindOf x
 split at h
 ·rename_i q1
  rw [q1] at hk
  split at h
  ·rename_i m hm
   refine aQ (fun mm hn hr => ?_) (S.rel.ns hm e.loc)
   have := hr x
   rw [h] at this
   refine aQ (fun u hu hv => ?_) (this.some')
   exact wpAny_Name (wpAny_loadName_local e.fkind hk hn hu (q u hv)) hd
  ·injection h
 ·rename_i q1
  rw [q1] at hk
  split at h
  ·rename_i c hc
   split at h
   ·rename_i v' hm
    subst h
    refine aQ (fun a ha hr => ?_) (e.cells.get hc)
    refine aQ (fun u' hu hv => ?_) (S.rel.cell hm hr)
    refine aQ (fun u q2 hv => ?_) (hv.some'); subst q2
    exact wpAny_Name (wpAny_loadName_cell e.fkind hk ha hu (q u hv)) hd
   ·injection h
  ·injection h
 ·rename_i q1
  rw [q1] at hk
  revert h; refine iN fun hc2 h => ?_
  have hcd : (x == ("__classdict__" : Str)) = false := by
   refine qJ (x == ("__classdict__" : Str)) (fun y => ?_) (fun y => ?_)
   ·rfl
   ·exact absurd ((eI (b := sOf "__classdict__")).mpr (eq_of_beq y)) (by rw [hc2]; decide)
  split at h
  ·rename_i c hc
   split at h
   ·rename_i v' hm
    subst h
    refine aQ (fun a ha hr => ?_) (e.cells.get hc)
    refine aQ (fun u' hu hv => ?_) (S.rel.cell hm hr)
    refine aQ (fun u q2 hv => ?_) (hv.some'); subst q2
    exact wpAny_Name (wpAny_loadName_free e.fkind hk ha hu (q u hv) hcd) hd
   ·injection h
  ·injection h
 ·rename_i q1
  rw [q1] at hk
  refine oQ (fun mg mb h1 h2 h3 => ?_) (S.cx.ns)
  have h1' := h1.keeps S.rel.keep
  have h2' := h2.keeps S.rel.keep
  rw [← e.glob] at h1'
  rw [← e.blt] at h2'
  refine orE (aQ fun u hu hv => ?_) (xpvpp fun hm u hu hv => ?_) ((h3 x v h).2)
  ·exact Name_function_global e.fkind hk (loadGlobal_global h1' hu (q u (hv.pre0 _))) hd
  ·exact Name_function_global e.fkind hk (loadGlobal_builtin h1' hm h2' hu (q u (hv.pre0 _))) hd
 ·injection h
theorem ev_name (S : Sit P w g K T n l A X σ s) (e : bQ l X f env) {x : Str} {pos : Pos} {Q : Value → Shared → Prop} (H : OK P w g l X RV Q E (ev1 g r f (.Name x pos) σ)) :
  wpAny (model P w) A (eval (.Name x pos) env) Q E s := by
 refine aQ (fun v h H => ?_) (OK.opt (show OK P w g l X RV Q E (oJ "name" (lJ g f σ x) σ) from H))
 exact name_ok S e h fun u hu => H.here S.rel hu
inductive StoreI (f : Fr) (σ : St) (x : Str) (v : V) : St → Prop
 | loc (m : List (Str × V)) (hk : wQ f.scope x = some .local) (hm : σ.get f.loc = some (.ns m)) : StoreI f σ x v (σ.set f.loc (.ns (put m x v)))
 | cell (c : Nat) (v' : Option V) (hk : wQ f.scope x = some .cell) (hc : look f.cells x = some c) (hm : σ.get c = some (.cell v')) : StoreI f σ x v (σ.set c (.cell (some v)))
omit [Tau] in
theorem nsI_ok {o : Option O} {m : List (Str × V)} (h : nsI o = some m) : o = some (.ns m) := by
 revert h; refine oB fun x q1 h => ?_; subst q1
 cases x <;> first | exact nos h | ((injection h with q1; subst q1); rfl)
omit [Tau] in
theorem storeI {x : Str} {v : V} (h : storeN f σ x v = some σ') : StoreI f σ x v σ' := by
 revert h; refine oB fun k hk h => ?_
 cases k with
 | «local» =>
  revert h; refine oB fun m hm h => ?_
  injection h with q1; subst q1
  rw [St.setF_eq]
  exact .loc m hk (nsI_ok hm)
 | cell =>
  revert h; refine oB fun c hc h => ?_
  revert h; refine iF fun hm h => ?_
  subst h
  rw [St.setF_eq]
  revert hm; refine iI fun o ho hm => ?_
  cases o with
  | cell v' => exact .cell c v' hk hc ho
  | _ => exact Bool.noConfusion hm
 | _ => exact nos h
theorem store_ok {l' : List Env} (S : Sit P w g K T n l A X σ s) (e : bQ l' X f env) {x : Str} {v : V} {u : Value} (hv : VR X.ρ v u) (h : storeN f σ x v = some σ') {Q : Unit → Shared → Prop} (q : ∀ s', Rel P w X σ' s' → Q () s') :
  wpAny (model P w) A (storeName env x u) Q E s := by
 have hk := e.kindOf x
 have hN := storeI h
 clear h
 induction hN with
 | loc m q1 hm =>
  refine aQ (fun mm hn hr => ?_) (S.rel.ns hm e.loc)
  refine wpAny_storeName_local (hk.trans q1) hn (fun h' hn' hs => q _ ?_) (by rw [e.fkind]; rfl)
  revert hn'; refine xvvvpppp fun ob es ep h1 h2 h3 h4 => ?_
  refine S.rel.set hm e.loc (qQ hs) h1 ⟨es, ep, h2, h3, fun y => ?_⟩ fun _ _ => ⟨_, rfl⟩
  rw [h4 y]
  exact hr.put hv y
 | cell c v' q1 hc hm =>
  refine aQ (fun a ha hr => ?_) (e.cells.get hc)
  refine xvpd (fun u' hu => ?_) (S.rel.cell (show rd (σ.get c) = _ by rw [hm]; rfl) hr)
  refine wpAny_storeName_cell e.fkind (hk.trans q1) ha hu fun h' hc' hs => q _ ?_
  revert hc'; refine aQ fun ob h1 h2 => ?_
  exact S.rel.set hm hr (qQ hs) h1 ⟨some u, h2, hv⟩ fun m q => by injection q
theorem ev_const (S : Sit P w g K T n l A X σ s) {c : Const} {k : Nat} {pos : Pos} {Q : Value → Shared → Prop} (H : OK P w g l X RV Q E (ev1 g r f (.Constant c k pos) σ)) :
  wpAny (model P w) A (eval (.Constant c k pos) env) Q E s := by
 cases c with
 | none => exact wpAny_Constant_none (OK.here H S.rel rfl)
 | bool b => exact wpAny_Constant_bool (OK.here H S.rel rfl)
 | int i => exact wpAny_Constant_int (OK.here H S.rel.same ⟨_, rfl⟩)
 | str x => exact wpAny_Constant_str (OK.here H S.rel.same ⟨_, rfl⟩)
 | _ => exact H.elim
end
end
section
variable [Tau]
section
variable {P : Program} {w : World} {g : Cx} {K : Frag} {T : List Addr} {n : Nat} {r : Rc} {l : List Env} {A : Around} {X Y : Wl} {σ σ' : St} {s s' : Shared} {f : Fr} {env : Env} {E : Value → Shared → Prop} {F : Cx}
theorem new_ok {o : O} {ob : Obj} {Q : Value → Shared → Prop} (H : OK P w F l X RV Q E (newR σ o)) (R : Rel P w X σ s) (hd : pQ P w (X.add s.heap.objs.size) ob o) (hf : autoParam (ob.isFreed = false) Mine.rf) (hh : autoParam (s'.heap = s.heap.push ob) Mine.rf)
  (hg : autoParam (s'.gens = s.gens) Mine.rf) (ho : autoParam (s'.os = s.os) Mine.rf) (hro : autoParam (∀ o', o ≠ .ro o') Mine.nk) : Q (.ref s.heap.objs.size) s' := by
 rw [newR_eq] at H
 refine xpp (fun hz H => ?_) (OK.bif H)
 refine H (X.add s.heap.objs.size) _ _ (X.le_add _) ?_ ⟨_, Wl.add_get R.len, rfl⟩
 rw [St.pushF_eq]
 exact R.alloc (bI.mp hz) (Heap.get?_none_of_le (Nat.le_refl _)) (fun b o' e => by rw [hh]; exact Heap.get?_push_of_some _ e) (by rw [hh]; exact Heap.get?_push_size _ hf) hd hg ho hro
theorem seq_ok {t : Bool} {xs : List V} {us : List Value} {Q : Value → Shared → Prop} (H : OK P w F l X RV Q E (newSeq σ t xs)) (R : Rel P w X σ s) (hx : cQ X.ρ xs us) :
  us.length ≤ sizeLine ∧ (∀ s' : Shared, s'.heap = s.heap.push { cls := .type (bif t then "tuple" else "list"), data := .seq us.toArray } → s'.gens = s.gens → s'.os = s.os → Q (.ref s.heap.objs.size) s') := by
 unfold newSeq at H
 refine xpp (fun hz H => ?_) (OK.bif H)
 have : xs.length ≤ 5000 := nL hz
 refine ⟨by rw [← hx.len]; exact Nat.le_trans this (by decide), fun s' h1 h2 h3 => new_ok H R ?_ (by rfl) h1 h2 h3 (by cases t <;> nofun)⟩
 have hx' := hx.mono (X.le_add s.heap.objs.size).r
 cases t
 ·exact ⟨us.toArray, 0, rfl, by simpa using hx'⟩
 ·exact ⟨us.toArray, 0, rfl, by simpa using hx'⟩
theorem starEach_no {e : PySem.Expr} {rest : List PySem.Expr} (h : noStar e = true) : starEach (e :: rest) env = (false, eval e env) :: starEach rest env := by
 cases e <;> first | rfl | injection h
theorem evs_ok (D : Snd P w g K T n r) {pos : Pos} : ∀ {es : List PySem.Expr} {X : Wl} {σ : St} {s : Shared} {Q : List Value → Shared → Prop}, Sit P w g K T n l A X σ s → bQ l X f env → OK P w g l X RVs Q E (evs r f es σ) →
  wpAny (model P w) A (spliced (backTo pos (starEach es env))) Q E s
 | [], X, σ, s, Q, S, e, H => spliced_none (OK.here H S.rel trivial)
 | x :: es, X, σ, s, Q, S, e, H => by
  unfold evs at H
  refine xpp (fun hz H => ?_) (OK.bif H)
  refine spliced_more (D.ev S e (H.bind fun v σ₁ _ Y s₁ u hy hr hu H => ?_)) (starEach_no hz)
  refine evs_ok D (S.next hy hr) (e.mono hy) (H.bind fun vs σ₂ _ Z s₂ us hz hr₂ hus H => ?_)
  exact OK.here H hr₂ ⟨hu.mono hz.r, hus⟩
theorem ev_tuple (D : Snd P w g K T n r) (S : Sit P w g K T n l A X σ s) (e : bQ l X f env) {es : List PySem.Expr} {k : Nat} {pos : Pos} {Q : Value → Shared → Prop} (H : OK P w g l X RV Q E (ev1 g r f (.Tuple es k pos) σ)) :
  wpAny (model P w) A (eval (.Tuple es k pos) env) Q E s := by
 refine wpAny_Tuple_spliced (evs_ok D S e (OK.bind (show OK P w g l X RV Q E ((evs r f es σ).bind fun vs σ => newSeq σ true vs) from H) fun vs σ₁ _ Y s₁ us hy hr hu H => ?_))
 have := seq_ok H hr hu
 exact ⟨this.1, this.2 _ rfl rfl rfl⟩
theorem ev_list (D : Snd P w g K T n r) (S : Sit P w g K T n l A X σ s) (e : bQ l X f env) {es : List PySem.Expr} {pos : Pos} {Q : Value → Shared → Prop} (H : OK P w g l X RV Q E (ev1 g r f (.List es pos) σ)) :
  wpAny (model P w) A (eval (.List es pos) env) Q E s := by
 refine wpAny_List_spliced (evs_ok D S e (OK.bind (show OK P w g l X RV Q E ((evs r f es σ).bind fun vs σ => newSeq σ false vs) from H) fun vs σ₁ _ Y s₁ us hy hr hu H => ?_))
 have := seq_ok H hr hu
 exact ⟨this.1, this.2 _ rfl rfl rfl⟩
end
end
end Mine
end
section
open PySem PySem.W PySem.Calls PyProof.Rows PySem.SeqAt
namespace Mine
section
variable [Tau]
theorem cQ.get' {ρ : List Addr} {vs : List V} {us : List Value} (a : cQ ρ vs us) {i : Nat} {u : Value} (q : us[i]? = some u) : ∃ v, vs[i]? = some v ∧ VR ρ v u :=
 a.ind (p := fun vs us => ∀ i u, us[i]? = some u → ∃ v, vs[i]? = some v ∧ VR ρ v u) (fun i u q => by injection q) (fun v vs u us e _ ih i u' q => by
  cases i with
  | zero => injection q with q1; subst q1; exact ⟨v, rfl, e⟩
  | succ i => exact ih i u' q) i u q
theorem range_all (n : Nat) (e : Nat → Bool) : (List.range (n + 1)).all e = (e 0 && (List.range n).all fun i => e (i + 1)) := by
 rw [List.range_succ_eq_map, List.all_cons, List.all_map]; rfl
theorem eqL_e {f : V → V → Option Bool} : ∀ {xs ys : List V} {c : Bool}, eqL f xs ys = some c →
  ∃ e : Nat → Bool, (∀ (j : Nat) (x y : V), xs[j]? = some x → ys[j]? = some y → f x y = some (e j)) ∧ c = ((List.range (min xs.length ys.length)).all e && xs.length == ys.length)
 | [], [], c, h => by (injection h with q1; subst q1); exact ⟨fun _ => true, fun j x y h => by (injection h), by simp⟩
 | x :: xs, [], c, h => by (injection h with q1; subst q1); exact ⟨fun _ => true, fun j x y _ h => by (injection h), by simp⟩
 | [], y :: ys, c, h => by (injection h with q1; subst q1); exact ⟨fun _ => true, fun j x y h => by (injection h), by simp⟩
 | x :: xs, y :: ys, c, h => by
  revert h; refine oB fun a ha h => ?_
  revert h; refine oB fun b hb h => ?_
  injection h with q1; subst q1
  refine aQ (fun e h1 h2 => ?_) (eqL_e hb)
  refine ⟨fun j => match j with | 0 => a | j + 1 => e j, fun j x' y' hx hy => ?_, ?_⟩
  ·cases j with
   | zero => injection hx with q1; subst q1; injection hy with q1; subst q1; exact ha
   | succ j => exact h1 j x' y' hx hy
  ·rw [List.length_cons, List.length_cons, Nat.succ_min_succ, range_all, h2, Bool.and_assoc]
   exact congrArg (fun z => (a && ((List.range (min xs.length ys.length)).all e && z))) (Bool.eq_iff_iff.mpr (by simp))
section
variable {P : Program} {w : World} {g : Cx} {K : Frag} {T : List Addr} {n : Nat} {r : Rc} {l : List Env} {A : Around} {X Y : Wl} {σ σ' : St} {s s' : Shared} {f : Fr} {env : Env} {E : Value → Shared → Prop} {F : Cx}
noncomputable def eZ (k : Bool) (us : Array Value) (n : Nat) : Obj := { cls := .type (bif k then "list" else "tuple"), dict := none, data := .seq us n, slots := #[] }
theorem seqN_ok {o : Option O} {k : Bool} {xs : List V} (h : (match o with | some (.list xs) => some (true, xs) | some (.tup xs) => some (false, xs) | _ => none) = some (k, xs)) : o = some (bif k then .list xs else .tup xs) := by
 cases o with
 | none => exact nos h
 | some o => cases o <;> first | exact nos h | ((injection h with q1; injection q1 with q2 q3; subst q2; subst q3); rfl)
theorem seqO_ok {o : Option Old} {k : Bool} {xs : List V} (h : (match o with | some (.tup xs) => some (false, xs) | some (.lst xs) => some (true, xs) | _ => none) = some (k, xs)) : o = some (bif k then .lst xs else .tup xs) := by
 cases o with
 | none => exact nos h
 | some o => cases o <;> first | exact nos h | ((injection h with q1; injection q1 with q2 q3; subst q2; subst q3); rfl)
theorem uJ (S : Sit P w g K T n l A X σ s) {v : V} {u : Value} {k : Bool} {xs : List V} (h : vQ g σ v = some (k, xs)) (hv : VR X.ρ v u) :
  ∃ a us n, u = .ref a ∧ s.heap.get? a = some (eZ k us n) ∧ cQ X.ρ xs us.toList := by
 cases v with
 | new n =>
  revert hv; refine aQ fun a ha q1 => ?_; subst q1
  have hy := seqN_ok h
  cases k with
  | true => refine kQ (fun us m h1 h3 => ?_) (S.rel.rat hy ha); exact ⟨a, us, m, rfl, h1, h3⟩
  | false => refine kQ (fun us m h1 h3 => ?_) (S.rel.rat hy ha); exact ⟨a, us, m, rfl, h1, h3⟩
 | old a =>
  have hy := seqO_ok h
  cases k with
  | true => refine xvvpp (fun us m h1 h2 => ?_) (S.cx.olds a _ hy); exact ⟨a, us, m, hv, S.rel.keep _ _ h1, h2.mono List.nil_prefix⟩
  | false => refine xvvpp (fun us m h1 h2 => ?_) (S.cx.olds a _ hy); exact ⟨a, us, m, hv, S.rel.keep _ _ h1, h2.mono List.nil_prefix⟩
 | _ => exact nos h
theorem eQ {h : Heap} {a : Addr} {us : Array Value} {n : Nat} (e : h.get? a = some (eZ true us n)) : h.IsList a us := ⟨_, e, rfl, n, rfl⟩
theorem gQ {h : Heap} {a : Addr} {us : Array Value} {n : Nat} (e : h.get? a = some (eZ false us n)) : h.IsTuple a us := ⟨_, e, rfl, n, rfl⟩
theorem truthS_ok (S : Sit P w g K T n l A X σ s) {v : V} {u : Value} {b : Bool} (h : truthS g σ v = some b) (hv : VR X.ρ v u) {Q : Bool → Shared → Prop} (q : ∀ s', Rel P w X σ s' → Q b s') : wpAny (model P w) A (truthy u) Q E s := by
 revert h; refine oB fun q1 hx h => ?_; obtain ⟨k, xs⟩ := q1
 refine iF (fun hz q1 => ?_) h; clear h; subst q1
 refine xQ (fun a us m q1 ho hr => ?_) (uJ S hx hv); clear hv; subst q1
 have hl : us.size = xs.length := by rw [hr.len]; rfl
 have hz' : (us.size : Int) < 2 ^ 63 := by rw [hl]; have hz : Nat.ble xs.length 1000000 = true := hz; have := nL hz; omega
 have he : us.isEmpty = xs.isEmpty := by
  rw [Array.isEmpty, hl]
  cases xs <;> rfl
 cases k with
 | true => exact wpAny_truthy_list (eQ ho) hz' (he ▸ q _ S.rel.same)
 | false => exact truthy_tuple (gQ ho) hz' (he ▸ q _ S.rel.same)
theorem truth_ok (S : Sit P w g K T n l A X σ s) {v : V} {u : Value} {b : Bool} (h : truth g σ v = some b) (hv : VR X.ρ v u) {Q : Bool → Shared → Prop} (q : ∀ s', Rel P w X σ s' → Q b s') : wpAny (model P w) A (truthy u) Q E s := by
 cases v with
 | none => cases hv; injection h with q1; subst q1; exact truthy_none (q _ S.rel)
 | bool b => cases hv; injection h with q1; subst q1; exact wpAny_truthy_bool (q _ S.rel)
 | int i => revert hv; refine xvp fun t q1 => ?_; subst q1; injection h with q1; subst q1; exact PySem.P.truthy_int (q _ S.rel)
 | str x =>
  revert hv; refine xvp fun t q1 => ?_; subst q1
  refine iF (fun hz q1 => ?_) h; subst q1
  have hl : x.length = x.cps.size := rfl
  refine PySem.P.truthy_str (by rw [hl]; have := nL hz; omega) ?_
  have : ((x.length : Int) != 0) = (x.cps.size != 0) := by
   rw [hl]
   cases x.cps.size with
   | zero => rfl
   | succ k => rfl
  rw [this]
  exact q _ S.rel.same
 | _ => exact truthS_ok S h hv q
structure Tri (A : Around) (s : Shared) (u v : Value) (c : Bool) : Prop where
 eq : EqAt A s u v c
 rc : RcAt A s u v c
 ne : RcNeAt A s u v (!c)
 same : u = v → c = true
theorem eqS_beq (a b : Str) : eqS a b = (a == b) := by
 refine cZ (a == b) (fun h => ?_) (fun h => ?_)
 ·exact eI.mpr (eq_of_beq h)
 ·cases q : eqS a b with
  | false => rfl
  | true => rw [eI.mp q, beq_self_eq_true] at h; injection h
theorem ScR.cases {v : V} {u : Value} (h : ScR v u) : (∃ b, v = .bool b ∧ u = .bool b) ∨ (∃ i t, v = .int i ∧ u = .int i t) ∨ ∃ x t, v = .str x ∧ u = .str x t := by
 cases v with
 | bool b => exact .inl ⟨b, rfl, h⟩
 | int i => revert h; refine xvp fun t h => ?_; exact .inr (.inl ⟨i, t, rfl, h⟩)
 | str x => revert h; refine xvp fun t h => ?_; exact .inr (.inr ⟨x, t, rfl, h⟩)
 | _ => exact h.elim
theorem eqNone_ok {ρ : List Addr} {b : V} {v : Value} {c : Bool} (h : eqNone b = some c) (hb : VR ρ b v) : Tri A s .none v c := by
 cases b with
 | none => cases hb; injection h with q1; subst q1; exact ⟨.same _, .none_none, .none_none, fun _ => rfl⟩
 | bool y => cases hb; injection h with q1; subst q1; exact ⟨.none_bool _, .none_bool _, .none_bool _, (fun h => by injection h)⟩
 | int y => revert hb; refine xvp fun t q1 => ?_; subst q1; injection h with q1; subst q1; exact ⟨.none_int _ _, .none_int _ _, .none_int _ _, (fun h => by injection h)⟩
 | str y => revert hb; refine xvp fun t q1 => ?_; subst q1; injection h with q1; subst q1; exact ⟨.none_str _ _, .none_str _ _, .none_str _ _, (fun h => by injection h)⟩
 | _ => exact nos h
theorem eqBool_ok {ρ : List Addr} {b : V} {x : Bool} {v : Value} {c : Bool} (h : eqBool x b = some c) (hb : VR ρ b v) : Tri A s (.bool x) v c := by
 cases b with
 | none => cases hb; injection h with q1; subst q1; exact ⟨.bool_none _, .bool_none _, .bool_none _, (fun h => by injection h)⟩
 | bool y => cases hb; injection h with q1; subst q1; exact ⟨.bool_bool _ _, .bool_bool _ _, .bool_bool _ _, fun q => by (injection q with q1; subst q1); exact beq_self_eq_true _⟩
 | int y => revert hb; refine xvp fun t q1 => ?_; subst q1; injection h with q1; subst q1; cases x <;> exact ⟨.bool_int _ _ _, .bool_int _ _ _, .bool_int _ _ _, (fun h => by injection h)⟩
 | str y => revert hb; refine xvp fun t q1 => ?_; subst q1; injection h with q1; subst q1; exact ⟨.bool_str _ _ _, .bool_str _ _ _, .bool_str _ _ _, (fun h => by injection h)⟩
 | _ => exact nos h
theorem int_dec (x y : Int) : decide (x = y) = (x == y) := rfl
theorem eqInt_ok {ρ : List Addr} {b : V} {x : Int} {t : Tok} {v : Value} {c : Bool} (h : eqInt x b = some c) (hb : VR ρ b v) : Tri A s (.int x t) v c := by
 cases b with
 | none => cases hb; injection h with q1; subst q1; exact ⟨.int_none _ _, .int_none _ _, .int_none _ _, (fun h => by injection h)⟩
 | bool y => cases hb; injection h with q1; subst q1; cases y <;> exact ⟨.int_bool _ _ _, .int_bool _ _ _, .int_bool _ _ _, (fun h => by injection h)⟩
 | int y => revert hb; refine xvp fun t' q1 => ?_; subst q1; injection h with q1; subst q1; rw [int_dec]; exact ⟨.int_int _ _ _ _, .int_int _ _ _ _, .int_int _ _ _ _, fun q => by (injection q with q1 q2; subst q1; subst q2); exact beq_self_eq_true _⟩
 | str y => revert hb; refine xvp fun t' q1 => ?_; subst q1; injection h with q1; subst q1; exact ⟨.int_str _ _ _ _, .int_str _ _ _ _, .int_str _ _ _ _, (fun h => by injection h)⟩
 | _ => exact nos h
theorem eqStr_ok {ρ : List Addr} {b : V} {x : Str} {t : Tok} {v : Value} {c : Bool} (h : eqStr x b = some c) (hb : VR ρ b v) : Tri A s (.str x t) v c := by
 cases b with
 | none => cases hb; injection h with q1; subst q1; exact ⟨.str_none _ _, .str_none _ _, .str_none _ _, (fun h => by injection h)⟩
 | bool y => cases hb; injection h with q1; subst q1; exact ⟨.str_bool _ _ _, .str_bool _ _ _, .str_bool _ _ _, (fun h => by injection h)⟩
 | int y => revert hb; refine xvp fun t' q1 => ?_; subst q1; injection h with q1; subst q1; exact ⟨.str_int _ _ _ _, .str_int _ _ _ _, .str_int _ _ _ _, (fun h => by injection h)⟩
 | str y => revert hb; refine xvp fun t' q1 => ?_; subst q1; injection h with q1; subst q1; rw [eqS_beq]; exact ⟨.str_str _ _ _ _, .str_str _ _ _ _, .str_str _ _ _ _, fun q => by (injection q with q1 q2; subst q1; subst q2); exact beq_self_eq_true _⟩
 | _ => exact nos h
theorem eqSelf_ok {v : V} {u u' : Value} (h : ScR v u) (h' : ScR v u') : Tri A s u u' true := by
 cases v with
 | bool b => exact eqBool_ok (ρ := []) (b := .bool b) (by show some (b == b) = _; rw [beq_self_eq_true]) h' |> fun z => by rw [show u = .bool b from h]; exact z
 | int i =>
  revert h; refine xvp fun t q1 => ?_; subst q1
  exact eqInt_ok (ρ := []) (b := .int i) (by show some (decide (i = i)) = _; rw [decide_eq_true rfl]) h'
 | str x =>
  revert h; refine xvp fun t q1 => ?_; subst q1
  exact eqStr_ok (ρ := []) (b := .str x) (by show some (eqS x x) = _; rw [eI.mpr rfl]) h'
 | _ => exact False.elim h
theorem eq0_ok {ρ : List Addr} {a b : V} {u v : Value} {c : Bool} (h : eq0 a b = some c) (ha : VR ρ a u) (hb : VR ρ b v) : Tri A s u v c := by
 cases a with
 | none => cases ha; exact eqNone_ok h hb
 | bool x => cases ha; exact eqBool_ok h hb
 | int x => revert ha; refine xvp fun t q1 => ?_; subst q1; exact eqInt_ok h hb
 | str x => revert ha; refine xvp fun t q1 => ?_; subst q1; exact eqStr_ok h hb
 | sym x => cases b with
  | sym y =>
   refine iF (fun h1 q1 => ?_) h; subst q1
   rw [← rJ.mp h1] at hb
   exact eqSelf_ok ha hb
  | _ => exact nos h
 | _ => exact nos h
theorem Tri.refs {l b : Addr} {c : Bool} (rc : RcAt A s (.ref l) (.ref b) c) (ne : RcNeAt A s (.ref l) (.ref b) (!c)) (same : l = b → c = true) : Tri A s (.ref l) (.ref b) c := by
 refine ⟨?_, rc, ne, fun q => same (by cases q; rfl)⟩
 by_cases h : l = b
 ·rw [same h, h]; exact .same _
 ·exact .of_refs h rc
theorem seqL {us : Array Value} {xs : List V} {ρ : List Addr} (h : cQ ρ xs us.toList) : us.size = xs.length := by rw [h.len]; simp
inductive ScU : Value → Prop
 | none : ScU .none
 | bool (b : Bool) : ScU (.bool b)
 | int (i : Int) (t : Tok) : ScU (.int i t)
 | str (x : Str) (t : Tok) : ScU (.str x t)
theorem ScR.scU {v : V} {u : Value} (h : ScR v u) : ScU u := by
 cases v with
 | bool b => cases h; exact .bool b
 | int i => revert h; refine xvp fun t q1 => ?_; subst q1; exact .int i t
 | str x => revert h; refine xvp fun t q1 => ?_; subst q1; exact .str x t
 | _ => exact False.elim h
theorem notSeq_ok {ρ : List Addr} {v : V} {u : Value} {c : Bool} (h : notSeq v = some c) (hv : VR ρ v u) : false = c ∧ ScU u := by
 cases v with
 | none => cases hv; injection h with q1; subst q1; exact ⟨rfl, .none⟩
 | bool b => cases hv; injection h with q1; subst q1; exact ⟨rfl, .bool b⟩
 | int i => revert hv; refine xvp fun t q1 => ?_; subst q1; injection h with q1; subst q1; exact ⟨rfl, .int i t⟩
 | str x => revert hv; refine xvp fun t q1 => ?_; subst q1; injection h with q1; subst q1; exact ⟨rfl, .str x t⟩
 | sym t => injection h with q1; subst q1; exact ⟨rfl, ScR.scU hv⟩
 | _ => exact nos h
theorem seq_sc {k : Bool} {p : Addr} {us : Array Value} {m : Nat} (ho : s.heap.get? p = some (eZ k us m)) (hA : A.units < cLine) {v : Value} (hv : ScU v) : Tri A s (.ref p) v false := by
 cases k with
 | true =>
  have ho := eQ ho
  cases hv with
  | none => exact ⟨.list_none ho hA, .list_none ho hA, .list_none ho hA, (fun h => by injection h)⟩
  | bool b => exact ⟨.list_bool _ ho hA, .list_bool _ ho hA, .list_bool _ ho hA, (fun h => by injection h)⟩
  | int i t => exact ⟨.list_int _ _ ho hA, .list_int _ _ ho hA, .list_int _ _ ho hA, (fun h => by injection h)⟩
  | str x t => exact ⟨.list_str _ _ ho hA, .list_str _ _ ho hA, .list_str _ _ ho hA, (fun h => by injection h)⟩
 | false =>
  have ho := gQ ho
  cases hv with
  | none => exact ⟨.tuple_none ho hA, .tuple_none ho hA, .tuple_none ho hA, (fun h => by injection h)⟩
  | bool b => exact ⟨.tuple_bool _ ho hA, .tuple_bool _ ho hA, .tuple_bool _ ho hA, (fun h => by injection h)⟩
  | int i t => exact ⟨.tuple_int _ _ ho hA, .tuple_int _ _ ho hA, .tuple_int _ _ ho hA, (fun h => by injection h)⟩
  | str x t => exact ⟨.tuple_str _ _ ho hA, .tuple_str _ _ ho hA, .tuple_str _ _ ho hA, (fun h => by injection h)⟩
theorem sc_seq {k : Bool} {p : Addr} {us : Array Value} {m : Nat} (ho : s.heap.get? p = some (eZ k us m)) (hA : A.units < cLine) {v : Value} (hv : ScU v) : Tri A s v (.ref p) false := by
 cases k with
 | true =>
  have ho := eQ ho
  cases hv with
  | none => exact ⟨.none_list ho hA, .none_list ho hA, .none_list ho hA, (fun h => by injection h)⟩
  | bool b => exact ⟨.bool_list _ ho hA, .bool_list _ ho hA, .bool_list _ ho hA, (fun h => by injection h)⟩
  | int i t => exact ⟨.int_list _ _ ho hA, .int_list _ _ ho hA, .int_list _ _ ho hA, (fun h => by injection h)⟩
  | str x t => exact ⟨.str_list _ _ ho hA, .str_list _ _ ho hA, .str_list _ _ ho hA, (fun h => by injection h)⟩
 | false =>
  have ho := gQ ho
  cases hv with
  | none => exact ⟨.none_tuple ho hA, .none_tuple ho hA, .none_tuple ho hA, (fun h => by injection h)⟩
  | bool b => exact ⟨.bool_tuple _ ho hA, .bool_tuple _ ho hA, .bool_tuple _ ho hA, (fun h => by injection h)⟩
  | int i t => exact ⟨.int_tuple _ _ ho hA, .int_tuple _ _ ho hA, .int_tuple _ _ ho hA, (fun h => by injection h)⟩
  | str x t => exact ⟨.str_tuple _ _ ho hA, .str_tuple _ _ ho hA, .str_tuple _ _ ho hA, (fun h => by injection h)⟩
theorem sym_str {t : List Nat} {x : Str} {tk : Tok} {u : Value} (hne : Tau.tau t ≠ .str x) (h : ScR (Tau.tau t) u) : Tri A s u (.str x tk) false ∧ Tri A s (.str x tk) u false := by
 have key : ∀ v : V, v ≠ .str x → ScR v u → Tri A s u (.str x tk) false ∧ Tri A s (.str x tk) u false := by
  intro v hv h
  cases v with
  | bool b => cases h; exact ⟨⟨.bool_str _ _ _, .bool_str _ _ _, .bool_str _ _ _, (fun h => by injection h)⟩, ⟨.str_bool _ _ _, .str_bool _ _ _, .str_bool _ _ _, (fun h => by injection h)⟩⟩
  | int i => revert h; refine xvp fun t q1 => ?_; subst q1; exact ⟨⟨.int_str _ _ _ _, .int_str _ _ _ _, .int_str _ _ _ _, (fun h => by injection h)⟩, ⟨.str_int _ _ _ _, .str_int _ _ _ _, .str_int _ _ _ _, (fun h => by injection h)⟩⟩
  | str y =>
   revert h; refine xvp fun t q1 => ?_; subst q1
   have no : ∀ {p q : Str}, p ≠ q → eqStr p (.str q) = some false := fun hpq => congrArg some (eqS_no hpq)
   have hyx : y ≠ x := fun q => hv (congrArg V.str q)
   exact ⟨eqStr_ok (ρ := []) (no hyx) ⟨_, rfl⟩, eqStr_ok (ρ := []) (no fun q => hyx q.symm) ⟨_, rfl⟩⟩
  | _ => exact False.elim h
 exact key _ hne h
theorem eqA_ok (S : Sit P w g K T n l A X σ s) {A' : Around} {ρ : List Addr} {a b : V} {u v : Value} {c : Bool} (h : eqA g a b = some c) (ha : VR ρ a u) (hb : VR ρ b v) : Tri A' s u v c := by
 cases a with
 | sym t => cases b with
  | str x =>
   refine iF (fun h1 q1 => ?_) h; subst q1
   revert hb; refine xvp fun tk q1 => ?_; subst q1
   exact (sym_str (S.cx.ne t x h1) ha).1
  | _ => exact eq0_ok (a := .sym t) (by exact h) ha hb
 | str x => cases b with
  | sym t =>
   refine iF (fun h1 q1 => ?_) h; subst q1
   revert ha; refine xvp fun tk q1 => ?_; subst q1
   exact (sym_str (S.cx.ne t x h1) hb).2
  | _ => exact eq0_ok (a := .str x) (by exact h) ha hb
 | none => exact eq0_ok (a := .none) (by exact h) ha hb
 | bool z => exact eq0_ok (a := .bool z) (by exact h) ha hb
 | int z => exact eq0_ok (a := .int z) (by exact h) ha hb
 | _ => exact nos h
inductive EqI (g : Cx) (σ : St) (n : Nat) (a b : V) (c : Bool) : Prop
 | seqs (k k' : Bool) (xs ys : List V) (h1 : vQ g σ a = some (k, xs)) (h2 : vQ g σ b = some (k', ys)) (h : (bif k == k' then eqL (eqV g σ n) xs ys else some false) = some c)
 | left (k : Bool) (xs : List V) (h1 : vQ g σ a = some (k, xs)) (h : notSeq b = some c)
 | right (k : Bool) (xs : List V) (h2 : vQ g σ b = some (k, xs)) (h : notSeq a = some c)
 | none (h : eqA g a b = some c)
theorem eqI {g : Cx} {σ : St} {n : Nat} {a b : V} {c : Bool} (h : eqV g σ (n + 1) a b = some c) : EqI g σ n a b c := by
 unfold eqV at h
 cases h1 : vQ g σ a with
 | none =>
  refine oE (vQ g σ b) (fun h2 => ?_) (fun q h2 => ?_)
  ·rw [h1, h2] at h; exact .none h
  ·rw [h1, h2] at h; exact .right q.1 q.2 h2 h
 | some p =>
  refine oE (vQ g σ b) (fun h2 => ?_) (fun q h2 => ?_)
  ·rw [h1, h2] at h; exact .left p.1 p.2 h1 h
  ·rw [h1, h2] at h; exact .seqs p.1 q.1 p.2 q.2 h1 h2 h
theorem seqs_eq {k : Bool} {p p' : Addr} {us us' : Array Value} {m m' : Nat} (ho : s.heap.get? p = some (eZ k us m)) (ho' : s.heap.get? p' = some (eZ k us' m')) (hA : A.units < cLine) {e : Nat → Bool}
  (st : ∀ j (h1 : j < us.size) (h2 : j < us'.size), Tri A.in1 s us[j] us'[j] (e j)) : Tri A s (.ref p) (.ref p') ((List.range (min us.size us'.size)).all e && us.size == us'.size) := by
 have same : p = p' → ((List.range (min us.size us'.size)).all e && us.size == us'.size) = true := fun q => by
  subst q
  rw [ho] at ho'
  injection ho' with q1; injection q1 with q2 q3 q4 q5; clear q2; clear q3; injection q4 with q6 q7; subst q6; subst q7; clear q5
  rw [Nat.min_self, beq_self_eq_true, Bool.and_true, List.all_eq_true]
  exact fun j hj => (st j (List.mem_range.mp hj) (List.mem_range.mp hj)).same rfl
 cases k with
 | false => exact .refs (.tuples (gQ ho) (gQ ho') hA fun j h1 h2 => (st j h1 h2).eq) (.tuples (gQ ho) (gQ ho') hA fun j h1 h2 => (st j h1 h2).eq) same
 | true =>
  by_cases hz : us.size = us'.size
  ·rw [← hz, Nat.min_self, beq_self_eq_true, Bool.and_true] at same ⊢
   exact .refs (.lists (eQ ho) (eQ ho') hz hA fun j h1 h2 => (st j h1 h2).eq) (.lists (eQ ho) (eQ ho') hz hA fun j h1 h2 => (st j h1 h2).eq) same
  ·have e1 : (us.size == us'.size) = false := beq_eq_false_iff_ne.mpr hz
   rw [e1, Bool.and_false] at same ⊢
   exact .refs (.lists_lengths (eQ ho) (eQ ho') (bne_iff_ne.mpr hz) hA) (.lists_lengths (eQ ho) (eQ ho') (bne_iff_ne.mpr hz) hA) same
theorem seqs_ne {k k' : Bool} {p p' : Addr} {us us' : Array Value} {m m' : Nat} (ho : s.heap.get? p = some (eZ k us m)) (ho' : s.heap.get? p' = some (eZ k' us' m')) (hk : (k == k') = false) (hA : A.units < cLine) : Tri A s (.ref p) (.ref p') false := by
 have hne : p = p' → false = true := fun q => by
  subst q
  have hc : (eZ k us m).cls = (eZ k' us' m').cls := congrArg Obj.cls (Option.some.inj (ho.symm.trans ho'))
  cases k <;> cases k' <;> first | exact hk.symm | exact absurd (Value.type.inj hc) (by decide)
 cases k <;> cases k'
 ·injection hk
 ·exact .refs (.tuple_list (gQ ho) (eQ ho') hA) (.tuple_list (gQ ho) (eQ ho') hA) hne
 ·exact .refs (.list_tuple (eQ ho) (gQ ho') hA) (.list_tuple (eQ ho) (gQ ho') hA) hne
 ·injection hk
theorem eq_ok (S : Sit P w g K T n l A X σ s) : ∀ (k : Nat) {A : Around} {a b : V} {u v : Value} {c : Bool}, A.units + k < cLine → eqV g σ k a b = some c → VR X.ρ a u → VR X.ρ b v → Tri A s u v c
 | 0, _, _, _, _, _, _, _, h, _, _ => by injection h
 | k + 1, A, a, b, u, v, c, hu, h, ha, hb => by
  have hu' : A.units < cLine := Nat.lt_of_le_of_lt (Nat.le_add_right _ _) hu
  cases eqI h with
  | seqs k1 k2 xs ys h1 h2 h =>
   refine xQ (fun p us m q1 ho hr => ?_) (uJ S h1 ha); subst q1
   refine xQ (fun p' us' m' q1 ho' hr' => ?_) (uJ S h2 hb); subst q1
   refine bE (k1 == k2) (fun hk => ?_) (fun hk => ?_)
   ·rw [hk] at h; injection h with q1; subst q1; exact seqs_ne ho ho' hk hu'
   ·
    rw [hk] at h
    have hk := eq_of_beq hk
    subst hk
    refine aQ (fun e he q1 => ?_) (eqL_e h); subst q1
    rw [← seqL hr, ← seqL hr']
    refine seqs_eq ho ho' hu' fun j h1 h2 => ?_
    refine aQ (fun x hx vx => ?_) (hr.get' (i := j) (u := us[j]) (by rw [Array.getElem?_toList]; exact Array.getElem?_eq_getElem h1))
    refine aQ (fun y hy vy => ?_) (hr'.get' (i := j) (u := us'[j]) (by rw [Array.getElem?_toList]; exact Array.getElem?_eq_getElem h2))
    exact eq_ok S k (by show A.units + 1 + k < cLine; rw [Nat.add_assoc, Nat.add_comm 1 k]; exact hu) (he j x y hx hy) vx vy
  | left k1 xs h1 h =>
   refine xQ (fun p us m q1 ho hr => ?_) (uJ S h1 ha); subst q1
   refine xpp (fun q1 hs => ?_) (notSeq_ok h hb); subst q1
   exact seq_sc ho hu' hs
  | right k1 xs h1 h =>
   refine xQ (fun p us m q1 ho hr => ?_) (uJ S h1 hb); subst q1
   refine xpp (fun q1 hs => ?_) (notSeq_ok h ha); subst q1
   exact sc_seq ho hu' hs
  | none h => exact eqA_ok S h ha hb
end
end
section
variable [Tau]
section
variable {P : Program} {w : World} {g : Cx} {K : Frag} {T : List Addr} {n : Nat} {r : Rc} {l : List Env} {A : Around} {X Y : Wl} {σ σ' : St} {s s' : Shared} {f : Fr} {env : Env} {E : Value → Shared → Prop} {F : Cx}
theorem bits64 {i : Int} (h : Nat.blt i.natAbs 4294967296 = true) : Builtin.Int.intBits i ≤ 64 := by
 have h := bI.mp h
 unfold Builtin.Int.intBits
 split
 ·omega
 ·rename_i hne
  have h0 : i.natAbs ≠ 0 := fun q => hne (by simpa using q)
  have : i.natAbs.log2 < 32 := (Nat.log2_lt h0).mpr h
  omega
theorem binInt_ok (S : Sit P w g K T n l A X σ s) {op : Operator} {x y : Int} {t t' : Tok} {Q : Value → Shared → Prop} (H : OK P w F l X RV Q E (binInt σ x y op)) : wpAny (model P w) A (binaryOp op (.int x t) (.int y t')) Q E s := by
 cases op with
 | Add => exact PySem.P.add_int (OK.here H S.rel.same ⟨_, rfl⟩)
 | Sub => exact PySem.P.sub_int (OK.here H S.rel.same ⟨_, rfl⟩)
 | Mult =>
  refine xpp (fun hz H => ?_) (OK.bif H)
  exact PySem.P.mul_int (H.here S.rel.same ⟨_, rfl⟩) ((Bool.or_eq_true_iff.mp hz).elim (fun q => .of_left (bits64 q)) fun q => .of_right (bits64 q))
 | FloorDiv =>
  refine xpp (fun hz H => ?_) (OK.bif' H)
  refine xpp (fun hy H => ?_) (OK.bif H)
  exact AutoIntOps.floordiv_1 (by rw [hz]; decide) (by rw [PyProof.noPylong_of_log2 (bI.mp hy)]; decide) (H.here S.rel.same ⟨_, rfl⟩)
 | Mod =>
  refine xpp (fun hz H => ?_) (OK.bif' H)
  exact AutoIntOps.mod_1 (by rw [hz]; decide) (H.here S.rel.same ⟨_, rfl⟩)
 | Pow =>
  refine xpp (fun hz H => ?_) (OK.bif H)
  have e2 := bI.mp (aL (aR hz))
  have e3 : 0 < y := of_decide_eq_true (aR (aR hz))
  have e1 : x = 10 := eq_of_beq (aL hz)
  subst e1
  refine AutoIntOps.pow_4 (by omega) (by simp; omega) (by decide) (by decide) ?_ (H.here S.rel.same ⟨_, rfl⟩)
  unfold Builtin.Int.intTooBig
  have : Builtin.Int.intBits 10 = 4 := by decide
  rw [this]
  simp [bitsLine]
  omega
 | _ => exact False.elim H
theorem lists2_ok {a b : Option O} {p : List V × List V} (h : lists2 a b = some p) : a = some (.list p.1) ∧ b = some (.list p.2) := by
 cases a with
 | none => exact nos h
 | some x => cases x with
  | list xs => cases b with
   | none => exact nos h
   | some y => cases y with
    | list ys => injection h with q1; subst q1; exact ⟨rfl, rfl⟩
    | _ => exact nos h
  | _ => exact nos h
theorem binNew_ok (S : Sit P w g K T n l A X σ s) {op : Operator} {x y : Nat} {p q : Addr} (hp : X.ρ[x]? = some p) (hq : X.ρ[y]? = some q) {Q : Value → Shared → Prop} (H : OK P w F l X RV Q E (binNew σ x y op)) : wpAny (model P w) A (binaryOp op (.ref p) (.ref q)) Q E s := by
 cases op with
 | Add =>
  change OK P w F l X RV Q E (match lists2 (σ.get x) (σ.get y) with | some p => newSeq σ false (p.1 ++ p.2) | none => .stop "add") at H
  refine oE (lists2 (σ.get x) (σ.get y)) (fun hl => ?_) (fun z hl => ?_)
  ·rw [hl] at H; exact False.elim H
  ·
   rw [hl] at H
   refine xpp (fun h1 h2 => ?_) (lists2_ok hl)
   refine kQ (fun us m ho hr => ?_) (S.rel.at h1 hp)
   refine kQ (fun us' m' ho' hr' => ?_) (S.rel.at h2 hq)
   have := seq_ok H S.rel (hr.append hr')
   refine PySem.P.add_list ho ho' (this.2 _ ?_ rfl rfl) ?_
   ·have : (us.toList ++ us'.toList).toArray = us ++ us' := by simp
    rw [this]; rfl
   ·have h3 := this.1
    simpa using h3
 | _ => exact False.elim H
theorem bin_ok (S : Sit P w g K T n l A X σ s) {op : Operator} {a b : V} {u v : Value} (ha : VR X.ρ a u) (hb : VR X.ρ b v) {Q : Value → Shared → Prop} (H : OK P w F l X RV Q E (binV σ op a b)) : wpAny (model P w) A (binaryOp op u v) Q E s := by
 cases a with
 | int x => cases b with
  | int y => revert ha; refine xvp fun t q1 => ?_; subst q1; revert hb; refine xvp fun t' q1 => ?_; subst q1; exact binInt_ok S H
  | _ => exact False.elim H
 | str x => cases b with
  | str y =>
   revert ha; refine xvp fun t q1 => ?_; subst q1
   revert hb; refine xvp fun t' q1 => ?_; subst q1
   cases op with
   | Add =>
    refine xpp (fun hz H => ?_) (OK.bif H)
    exact SB.add (fun t' k => H.here S.rel.same ⟨_, rfl⟩) (Nat.le_trans (nL hz) (by decide))
   | _ => exact False.elim H
  | _ => exact False.elim H
 | new x => cases b with
  | new y => revert ha; refine aQ fun p hp q1 => ?_; subst q1; revert hb; refine aQ fun q hq q1 => ?_; subst q1; exact binNew_ok S hp hq H
  | _ => exact False.elim H
 | _ => exact False.elim H
theorem binO_ok (S : Sit P w g K T n l A X σ s) {op : Operator} {a b : V} {u v : Value} (ha : VR X.ρ a u) (hb : VR X.ρ b v) {Q : Value → Shared → Prop} (H : OK P w F l X RV Q E (binO g σ op a b)) : wpAny (model P w) A (binaryOp op u v) Q E s := by
 unfold binO at H
 refine oE (g.orc (.bin op a b)) (fun q => ?_) (fun r q => ?_)
 ·rw [q] at H; exact bin_ok S ha hb H
 ·
  rw [q] at H
  refine aQ (fun r₀ h1 h2 => ?_) (S.cx.orc _ _ q σ)
  refine bin_ok S (VR_dn.mpr ha) (VR_dn.mpr hb) (F := F) (l := l) ?_
  rw [h1]
  exact fun Y s u hy hr hu => H Y s u hy hr (h2 _ _ hu)
theorem ev_bin (D : Snd P w g K T n r) (S : Sit P w g K T n l A X σ s) (e : bQ l X f env) {a b : PySem.Expr} {op : Operator} {pos : Pos} {Q : Value → Shared → Prop} (H : OK P w g l X RV Q E (ev1 g r f (.BinOp a op b pos) σ)) :
  wpAny (model P w) A (eval (.BinOp a op b pos) env) Q E s := by
 refine wpAny_BinOp (D.ev S e (OK.bind (k := fun a σ => (r.ev f b σ).bind fun b σ => binO g σ op a b) H fun va σ₁ _ Y s₁ u hy hr hu H => ?_))
 refine D.ev (S.next hy hr) (e.mono hy) (OK.bind (k := fun b σ => binO g σ op va b) H fun vb σ₂ _ Z s₂ v hz hr₂ hv H => ?_)
 exact binO_ok ((S.next hy hr).next hz hr₂) (hu.mono hz.r) hv H
theorem ev_usub (D : Snd P w g K T n r) (S : Sit P w g K T n l A X σ s) (e : bQ l X f env) {a : PySem.Expr} {pos : Pos} {Q : Value → Shared → Prop} (H : OK P w g l X RV Q E (ev1 g r f (.UnaryOp .USub a pos) σ)) :
  wpAny (model P w) A (eval (.UnaryOp .USub a pos) env) Q E s := by
 refine wpAny_UnaryOp (D.ev S e (OK.bind (k := fun v σ => negR v σ) H fun v σ₁ _ Y s₁ u hy hr hu H => ?_))
 cases v with
 | int i =>
  revert hu; refine xvp fun t q1 => ?_; subst q1
  exact PySem.P.neg_int (OK.here H hr.same ⟨_, rfl⟩)
 | _ => exact H.elim
theorem ev_not (D : Snd P w g K T n r) (S : Sit P w g K T n l A X σ s) (e : bQ l X f env) {a : PySem.Expr} {pos : Pos} {Q : Value → Shared → Prop} (H : OK P w g l X RV Q E (ev1 g r f (.UnaryOp .Not a pos) σ)) :
  wpAny (model P w) A (eval (.UnaryOp .Not a pos) env) Q E s := by
 refine wpAny_UnaryOp (D.ev S e (OK.bind (k := fun v σ => (oJ "not" (truth g σ v) σ).bind fun b σ => Res.ok (V.bool !b) σ) H fun v σ₁ _ Y s₁ u hy hr hu H => ?_))
 refine aQ (fun b hb H => ?_) (H.optb)
 exact not_value (truth_ok (S.next hy hr) hb hu fun s' hr' => OK.here H hr' rfl)
theorem ev_ifexp (D : Snd P w g K T n r) (S : Sit P w g K T n l A X σ s) (e : bQ l X f env) {t a b : PySem.Expr} {pos : Pos} {Q : Value → Shared → Prop} (H : OK P w g l X RV Q E (ev1 g r f (.IfExp t a b pos) σ)) :
  wpAny (model P w) A (eval (.IfExp t a b pos) env) Q E s := by
 refine wpAny_IfExp (D.tst S e (OK.bind (k := fun c σ => if c then r.ev f a σ else r.ev f b σ) H fun c σ₁ _ Y s₁ u hy hr hu H => ?_))
 subst hu
 cases c with
 | true => rw [if_pos rfl]; exact D.ev (S.next hy hr) (e.mono hy) H
 | false => rw [if_neg (by decide)]; exact D.ev (S.next hy hr) (e.mono hy) H
theorem bools_ok (D : Snd P w g K T n r) {op : BoolOp} {pos : Pos} : ∀ {es : List PySem.Expr} {X : Wl} {σ : St} {s : Shared} {Q : Value → Shared → Prop}, Sit P w g K T n l A X σ s → bQ l X f env → OK P w g l X RV Q E (bools g r f op es σ) →
  wpAny (model P w) A (boolOp pos op (evalEach es env)) Q E s
 | [], _, _, _, _, _, _, H => H.elim
 | [x], X, σ, s, Q, S, e, H => D.ev S e H
 | x :: y :: es, X, σ, s, Q, S, e, H => by
  show wpAny _ _ (do
   let v ← eval x env
   standAt pos
   let t ← holding [v] (truthy v)
   match op, t with
   | .And, false | .Or, true => pure v
   | _, _ => boolOp pos op (evalEach (y :: es) env)) _ _ _
  refine wpAny_bind (D.ev S e (OK.bind (k := fun v σ => (oJ "bool" (truth g σ v) σ).bind fun t σ => match op with
   | .And => if t then bools g r f op (y :: es) σ else .ok v σ
   | .Or => if t then .ok v σ else bools g r f op (y :: es) σ) H fun v σ₁ _ Y s₁ u hy hr hu H => ?_))
  refine aQ (fun b hb H => ?_) (H.optb)
  refine wpAny_bind (wpAny_standAt (wpAny_bind (wpAny_holding (truth_ok (S.next hy hr) hb hu fun s' hr' => ?_))))
  cases op <;> cases b
  ·exact wpAny_pure (OK.here H hr' hu)
  ·exact bools_ok D (S.next hy hr') (e.mono hy) H
  ·exact bools_ok D (S.next hy hr') (e.mono hy) H
  ·exact wpAny_pure (OK.here H hr' hu)
theorem ev_bool (D : Snd P w g K T n r) (S : Sit P w g K T n l A X σ s) (e : bQ l X f env) {op : BoolOp} {es : List PySem.Expr} {pos : Pos} {Q : Value → Shared → Prop} (H : OK P w g l X RV Q E (ev1 g r f (.BoolOp op es pos) σ)) :
  wpAny (model P w) A (eval (.BoolOp op es pos) env) Q E s := by
 rw [arm_eval_BoolOp]; exact bools_ok D S e H
end
end
section
variable [Tau]
noncomputable def updE (e : Value → Bool) (u : Value) (b : Bool) : Value → Bool := fun v => if v = u then b else e v
theorem updE_self (e : Value → Bool) (u : Value) (b : Bool) : updE e u b u = b := if_pos rfl
theorem updE_ne (e : Value → Bool) {u v : Value} (b : Bool) (h : ¬ v = u) : updE e u b v = e v := if_neg h
theorem MapR.get {ρ : List Addr} {m : List (Str × V)} {f : Str → Option Value} (h : MapR ρ m f) (x : Str) : (look m x).isSome = (f x).isSome := by
 have := h x
 revert this
 cases look m x <;> cases f x <;> simp [OptR]
section
variable {P : Program} {w : World} {g : Cx} {K : Frag} {T : List Addr} {n : Nat} {r : Rc} {l : List Env} {A : Around} {X Y : Wl} {σ σ' : St} {s s' : Shared} {f : Fr} {env : Env} {E : Value → Shared → Prop} {F : Cx}
theorem inGo_ok (S : Sit P w g K T n l A X σ s) {A' : Around} (hA : A'.units + 4 < cLine) {x : V} {ux : Value} (hx : VR X.ρ x ux) {ys : List V} {us : List Value} {c : Bool} (hr : cQ X.ρ ys us) (h : inGo g σ x ys = some c) :
  ∃ e : Value → Bool, (∀ y, y ∈ us → EqAt A' s y ux (e y)) ∧ us.any e = c := by
 refine hr.ind (p := fun ys us => ∀ c, inGo g σ x ys = some c → ∃ e : Value → Bool, (∀ y, y ∈ us → EqAt A' s y ux (e y)) ∧ us.any e = c) (fun c h => ?_) (fun y ys u us hu _ ih c h => ?_) c h
 ·injection h with q1; subst q1; exact ⟨fun _ => false, ⟨fun y hy => (List.not_mem_nil hy).elim, rfl⟩⟩
 revert h; refine oB fun a ha h => ?_
 revert h; refine oB fun b hb h => ?_
 injection h with q1; subst q1
 refine aQ (fun e h1 h2 => ?_) (ih b hb)
 have t := (eq_ok S 4 hA ha hu hx).eq
 cases a with
 | true =>
  refine ⟨updE e u true, fun v hv => ?_, ?_⟩
  ·by_cases z : v = u
   ·rw [z, updE_self]; exact t
   ·rw [updE_ne _ _ z]; exact h1 v ((List.mem_cons.mp hv).resolve_left z)
  ·rw [List.any_cons, updE_self]; rfl
 | false =>
  by_cases z : u ∈ us
  ·refine ⟨e, fun v hv => (List.mem_cons.mp hv).elim (fun q => q ▸ h1 _ z) (h1 v), ?_⟩
   rw [List.any_cons, Bool.false_or, ← h2]
   refine qJ (e u) (fun he => ?_) (fun he => ?_)
   ·rfl
   ·rw [Bool.true_or]; exact (List.any_eq_true.mpr ⟨u, z, he⟩).symm
  ·refine ⟨updE e u false, fun v hv => ?_, ?_⟩
   ·by_cases y : v = u
    ·rw [y, updE_self]; exact t
    ·rw [updE_ne _ _ y]; exact h1 v ((List.mem_cons.mp hv).resolve_left y)
   ·rw [List.any_cons, updE_self, Bool.false_or, Bool.false_or, ← h2]
    refine Bool.eq_iff_iff.mpr ⟨fun k => ?_, fun k => ?_⟩
    ·refine aQ (fun v hv k => ?_) (List.any_eq_true.mp k)
     by_cases y : v = u
     ·clear hu t; subst y; exact absurd hv z
     ·rw [updE_ne _ _ y] at k; exact List.any_eq_true.mpr ⟨v, hv, k⟩
    ·refine aQ (fun v hv k => ?_) (List.any_eq_true.mp k)
     exact List.any_eq_true.mpr ⟨v, hv, by rw [updE_ne _ _ (fun (y : v = u) => z (y ▸ hv))]; exact k⟩
theorem own_ne (S : Sit P w g K T n l A X σ s) {k : Nat} {a : Addr} {o : Obj} {o' : O} (e : rd (σ.get k) = some o') (h : X.ρ[k]? = some a) (hb : X.B.get? sysModules = some o) (hj : autoParam (o'.mut = true) Mine.rf) : (a == sysModules) = false := by
 refine qJ (a == sysModules) (fun q => ?_) (fun q => ?_)
 ·rfl
 ·
  refine orE (fun e => ?_) (fun e => ?_) (rd_some e)
  ·rw [← eq_of_beq q, S.rel.fresh _ _ a e hj h] at hb; injection hb
  ·exact (S.rel.sys _ _ _ e h (eq_of_beq q)).elim
theorem inDictO_ok {x : V} {o : Option O} {b : Bool} (h : inDictO x o = some b) : ∃ es z, o = some (.dict es) ∧ x = .str z ∧ b = (look es z).isSome := by
 cases o with
 | none => exact nos h
 | some o => cases o with
  | dict es => cases x with
   | str z => injection h with q1; subst q1; exact ⟨es, z, rfl, rfl, rfl⟩
   | _ => exact nos h
  | _ => exact nos h
theorem inDict_ok {x c : V} {b : Bool} (h : inDict σ x c = some b) : ∃ k es z, c = .new k ∧ rd (σ.get k) = some (.dict es) ∧ x = .str z ∧ b = (look es z).isSome := by
 cases c with
 | new k => refine oQ (fun es z h1 h2 h3 => ?_) (inDictO_ok h); exact ⟨k, es, z, rfl, h1, h2, h3⟩
 | _ => exact nos h
theorem in_ok (S : Sit P w g K T n l A X σ s) {x c : V} {u v : Value} {b : Bool} (hx : VR X.ρ x u) (hc : VR X.ρ c v) (h : inV g σ x c = some b) {Q : Value → Shared → Prop} :
  ((∀ s', Rel P w X σ s' → Q (.bool b) s') → wpAny (model P w) A (compareOp .In u v) Q E s) ∧ ((∀ s', Rel P w X σ s' → Q (.bool !b) s') → wpAny (model P w) A (compareOp .NotIn u v) Q E s) := by
 have hA : A.in1.units + 4 < cLine := by
  have := S.a.units
  show A.units + 1 + 4 < 9900
  omega
 unfold inV at h
 refine jZ (vQ g σ c) (fun y hy => ?_) (fun hy => ?_)
 ·
  rw [hy] at h
  obtain ⟨k, ys⟩ := y
  refine xQ (fun a us m q1 ho hr => ?_) (uJ S hy hc); subst q1
  refine aQ (fun e h1 h2 => ?_) (inGo_ok S hA hx hr h)
  have h1' : ∀ y, y ∈ us → EqAt A.in1 s y u (e y) := fun y hy => h1 y (Array.mem_toList_iff.mpr hy)
  have h2' : us.any e = b := by rw [← Array.any_toList]; exact h2
  cases k with
  | true => exact ⟨fun q => in_listAt e (eQ ho) h1' (h2' ▸ q _ S.rel), fun q => notIn_listAt e (eQ ho) h1' (h2' ▸ q _ S.rel)⟩
  | false => exact ⟨fun q => in_tupleAt e (gQ ho) h1' (h2' ▸ q _ S.rel), fun q => notIn_tupleAt e (gQ ho) h1' (h2' ▸ q _ S.rel)⟩
 ·
  rw [hy] at h
  refine xvvvpppp (fun k es z q1 hes q2 q3 => ?_) (inDict_ok h); clear h hy; subst q1; subst q2; subst q3
  revert hc; refine aQ fun a ha q1 => ?_; subst q1
  revert hx; refine xvp fun t q1 => ?_; subst q1
  refine aQ (fun kvs hD hm => ?_) (S.rel.dict hes ha)
  have hM := hD.mapOf
  refine xvp (fun o hs => ?_) (S.cx.sysm)
  have hne := own_ne S hes ha hs
  have hi : (strKind P w).is z (.str z t) = true := beq_self_eq_true z
  rw [MapR.get hm.look z]
  exact ⟨fun q => wpAny_in_of hi hne hM (q _ S.rel.same), fun q => wpAny_notIn_of hi hne hM (q _ S.rel.same)⟩
theorem isN_ok {ρ : List Addr} {x : V} {u : Value} {b : Bool} (hx : VR ρ x u) (h : isN x = some b) : PySem.plainIs u .none = true ∧ PySem.plainIs .none u = true ∧ (u == .none) = b ∧ (Value.none == u) = b := by
 cases x with
 | none => cases hx; injection h with q1; subst q1; exact ⟨rfl, rfl, rfl, rfl⟩
 | bool => cases hx; injection h with q1; subst q1; exact ⟨rfl, rfl, rfl, rfl⟩
 | int => revert hx; refine xvp fun t q1 => ?_; subst q1; injection h with q1; subst q1; exact ⟨rfl, rfl, rfl, rfl⟩
 | str => revert hx; refine xvp fun t q1 => ?_; subst q1; injection h with q1; subst q1; exact ⟨rfl, rfl, rfl, rfl⟩
 | ty => cases hx; injection h with q1; subst q1; exact ⟨rfl, rfl, rfl, rfl⟩
 | old => cases hx; injection h with q1; subst q1; exact ⟨rfl, rfl, rfl, rfl⟩
 | new => revert hx; refine xvdp fun a q1 => ?_; subst q1; injection h with q1; subst q1; exact ⟨rfl, rfl, rfl, rfl⟩
 | sym t =>
  injection h with q1; subst q1
  rcases (show ScR _ _ from hx).cases with ⟨b, _, rfl⟩ | ⟨i, tk, _, rfl⟩ | ⟨y, tk, _, rfl⟩ <;> exact ⟨rfl, rfl, rfl, rfl⟩
 | _ => exact nos h
theorem isI {x c : V} {b : Bool} (h : isV x c = some b) : (∃ k, x = .new k ∧ c = .new k ∧ b = true) ∨ (c = .none ∧ isN x = some b) ∨ (x = .none ∧ isN c = some b) := by
 have gen : ∀ {x : V}, (bif isNone c then isN x else none) = some b → (c = .none ∧ isN x = some b) := fun {x} h => by
  refine iQ (fun h1 h2 => ?_) h
  cases c <;> first | exact ⟨rfl, h2⟩ | exact Bool.noConfusion h1
 cases x with
 | new k => cases c with
  | new j =>
   refine iF (fun h1 q1 => ?_) h; subst q1
   exact .inl ⟨k, rfl, congrArg V.new (nE h1).symm, rfl⟩
  | none => exact .inr (.inl ⟨rfl, h⟩)
  | _ => exact nos h
 | none => exact .inr (.inr ⟨rfl, h⟩)
 | _ => exact .inr (.inl (gen h))
theorem is_ok {x c : V} {u v : Value} {b : Bool} (hx : VR X.ρ x u) (hc : VR X.ρ c v) (h : isV x c = some b) {Q : Value → Shared → Prop} :
  (Q (.bool b) s → wpAny (model P w) A (compareOp .Is u v) Q E s) ∧ (Q (.bool !b) s → wpAny (model P w) A (compareOp .IsNot u v) Q E s) := by
 rcases isI h with ⟨k, rfl, rfl, rfl⟩ | ⟨rfl, h'⟩ | ⟨rfl, h'⟩
 ·revert hx; refine aQ fun a ha q1 => ?_; subst q1; revert hc; refine aQ fun b hb q1 => ?_; subst q1
  rw [ha] at hb; injection hb with q1; subst q1
  exact ⟨fun q => wpAny_is_ref_self q, fun q => wpAny_isNot_ref_self q⟩
 ·cases hc
  refine xpppp (fun h1 h2 h3 h4 => ?_) (isN_ok hx h')
  exact ⟨fun q => wpAny_is_plain h1 (h3.symm ▸ q), fun q => wpAny_isNot_plain h1 (h3.symm ▸ q)⟩
 ·cases hx
  refine xpppp (fun h1 h2 h3 h4 => ?_) (isN_ok hc h')
  exact ⟨fun q => wpAny_is_plain h2 (h4.symm ▸ q), fun q => wpAny_isNot_plain h2 (h4.symm ▸ q)⟩
theorem cmpInt_ok {ρ : List Addr} {a b : V} {u v : Value} {f : Int → Int → Bool} {c : Bool} (ha : VR ρ a u) (hb : VR ρ b v) (h : cmpInt a b f = some c) : ∃ x y t t', u = .int x t ∧ v = .int y t' ∧ f x y = c := by
 cases a with
 | int x => cases b with
  | int y => revert ha; refine xvp fun t q1 => ?_; subst q1; revert hb; refine xvp fun t' q1 => ?_; subst q1; injection h with q1; subst q1; exact ⟨x, y, t, t', rfl, rfl, rfl⟩
  | _ => exact nos h
 | _ => exact nos h
theorem cmp_ok (S : Sit P w g K T n l A X σ s) {op : CmpOp} {a b : V} {u v : Value} {c : Bool} (ha : VR X.ρ a u) (hb : VR X.ρ b v) (h : cmpV g σ op a b = some c) {Q : Value → Shared → Prop} (q : ∀ s', Rel P w X σ s' → Q (.bool c) s') :
  wpAny (model P w) A (compareOp op u v) Q E s := by
 have hA : A.units + 6 < cLine := by
  have := S.a.units
  show A.units + 6 < 9900
  omega
 unfold cmpV at h
 cases op with
 | Eq => exact (eq_ok S 6 hA h ha hb).rc P w E Q (q _ S.rel)
 | NotEq =>
  refine aQ (fun c' h' q1 => ?_) (Option.map_eq_some_iff.mp h); subst q1
  exact (eq_ok S 6 hA h' ha hb).ne P w E Q (q _ S.rel)
 | Is => exact (is_ok ha hb h).1 (q _ S.rel)
 | IsNot =>
  refine aQ (fun c' h' q1 => ?_) (Option.map_eq_some_iff.mp h); subst q1
  exact (is_ok ha hb h').2 (q _ S.rel)
 | In => exact (in_ok S ha hb h).1 q
 | NotIn =>
  refine aQ (fun c' h' q1 => ?_) (Option.map_eq_some_iff.mp h); subst q1
  exact (in_ok S ha hb h').2 q
 | Lt => refine xvvvvppp (fun x y t t' q1 q2 q3 => ?_) (cmpInt_ok ha hb h); subst q1; subst q2; subst q3; exact PySem.P.lt_int (q _ S.rel)
 | LtE => refine xvvvvppp (fun x y t t' q1 q2 q3 => ?_) (cmpInt_ok ha hb h); subst q1; subst q2; subst q3; exact PySem.P.le_int (q _ S.rel)
 | Gt => refine xvvvvppp (fun x y t t' q1 q2 q3 => ?_) (cmpInt_ok ha hb h); subst q1; subst q2; subst q3; exact PySem.P.gt_int (q _ S.rel)
 | GtE => refine xvvvvppp (fun x y t t' q1 q2 q3 => ?_) (cmpInt_ok ha hb h); clear ha; subst q1; clear hb; subst q2; clear h; subst q3; exact PySem.P.ge_int (q _ S.rel)
theorem cmpO_ok (S : Sit P w g K T n l A X σ s) {op : CmpOp} {a b : V} {u v : Value} {c : Bool} (ha : VR X.ρ a u) (hb : VR X.ρ b v) (h : cmpO g σ op a b = some c) {Q : Value → Shared → Prop} (q : ∀ s', Rel P w X σ s' → Q (.bool c) s') :
  wpAny (model P w) A (compareOp op u v) Q E s := by
 unfold cmpO at h
 refine oE (g.orc (.cmp op a b)) (fun z => ?_) (fun r z => ?_)
 ·rw [z] at h; exact cmp_ok S ha hb h q
 ·
  rw [z] at h
  refine aQ (fun c' e h1 => ?_) (S.cx.orc _ _ z)
  clear z; subst e
  injection h with q1; subst q1
  exact cmp_ok S (VR_dn.mpr ha) (VR_dn.mpr hb) (h1 σ) q
theorem ev_cmp (D : Snd P w g K T n r) (S : Sit P w g K T n l A X σ s) (e : bQ l X f env) {a b : PySem.Expr} {op : CmpOp} {pos : Pos} {Q : Value → Shared → Prop} (H : OK P w g l X RV Q E (ev1 g r f (.Compare a [op] [b] pos) σ)) :
  wpAny (model P w) A (eval (.Compare a [op] [b] pos) env) Q E s := by
 cases hm : behindInMarks op b with
 | true => rw [show ev1 g r f (.Compare a [op] [b] pos) σ = .stop "marks" from by show evCmp g r f a op b σ = _; unfold evCmp; rw [hm]; rfl] at H; exact H.elim
 | false =>
 rw [show ev1 g r f (.Compare a [op] [b] pos) σ = (r.ev f a σ).bind fun a σ => (r.ev f b σ).bind fun b σ => (cmp1 g op a b σ).bind fun c σ => .ok (.bool c) σ from by show evCmp g r f a op b σ = _; unfold evCmp; rw [hm]; rfl] at H
 refine wpAny_Compare1 (D.ev S e (OK.bind (k := fun a σ => (r.ev f b σ).bind fun b σ => (cmp1 g op a b σ).bind fun c σ => Res.ok (V.bool c) σ) H fun va σ₁ _ Y s₁ u hy hr hu H => ?_)) hm
 refine D.ev (S.next hy hr) (e.mono hy) (OK.bind (k := fun b σ => (cmp1 g op va b σ).bind fun c σ => Res.ok (V.bool c) σ) H fun vb σ₂ _ Z s₂ v hz hr₂ hv H => ?_)
 refine aQ (fun c hc H => ?_) (H.optb)
 exact cmpO_ok ((S.next hy hr).next hz hr₂) (hu.mono hz.r) hv hc fun s' hr' => H.here hr' rfl
end
end
section
variable [Tau]
section
variable {P : Program} {w : World} {g : Cx} {K : Frag} {T : List Addr} {n : Nat} {r : Rc} {l : List Env} {A : Around} {X Y : Wl} {σ σ' : St} {s s' : Shared} {f : Fr} {env : Env} {E : Value → Shared → Prop} {F : Cx}
theorem allT_ok (D : Snd P w g K T n r) {op : BoolOp} : ∀ {es : List PySem.Expr} {X : Wl} {σ : St} {s : Shared} {Q : Bool → Shared → Prop}, Sit P w g K T n l A X σ s → bQ l X f env → OK P w g l X REq Q E (allT r f op es σ) →
  wpAny (model P w) A (allTrue op es env) Q E s
 | [], X, σ, s, Q, S, e, H => wpAny_pure (OK.here H S.rel rfl)
 | x :: es, X, σ, s, Q, S, e, H => by
  cases op with
  | And =>
   refine wpAny_allTrue_And_cons (D.tst S e (OK.bind (k := fun b σ => if b then allT r f .And es σ else .ok false σ) H fun b σ₁ _ Y s₁ u hy hr hu H => ?_))
   subst hu
   cases b with
   | true => exact allT_ok D (S.next hy hr) (e.mono hy) H
   | false => exact OK.here H hr rfl
  | Or =>
   refine wpAny_allTrue_Or_cons (D.tst S e (OK.bind (k := fun b σ => if b then .ok true σ else allT r f .Or es σ) H fun b σ₁ _ Y s₁ u hy hr hu H => ?_))
   subst hu
   cases b with
   | true => exact OK.here H hr rfl
   | false => exact allT_ok D (S.next hy hr) (e.mono hy) H
theorem plain_eq {e : PySem.Expr} (h : plainTest e = true) (whole : Sem Value) : PySem.isTrue e env whole = (do
     let v ← whole
     standAt e.pos
     holding [v] (truthy v)) := by
 cases e with
 | UnaryOp op => cases op <;> first | rfl | injection h
 | BoolOp => injection h
 | IfExp => injection h
 | Compare => injection h
 | _ => rfl
theorem tst_plain (D : Snd P w g K T n r) (S : Sit P w g K T n l A X σ s) (e : bQ l X f env) {x : PySem.Expr} (hp : plainTest x = true) {Q : Bool → Shared → Prop}
  (H : OK P w g l X REq Q E ((r.ev f x σ).bind fun v σ => oJ "test" (truth g σ v) σ)) : wpAny (model P w) A (PySem.isTrue x env (eval x env)) Q E s := by
 refine isTrue_plain (D.ev S e (OK.bind (k := fun v σ => oJ "test" (truth g σ v) σ) H fun v σ₁ _ Y s₁ u hy hr hu H => ?_)) (plain_eq hp _)
 refine aQ (fun b hb H => ?_) (H.opt)
 exact truth_ok (S.next hy hr) hb hu fun s' hr' => OK.here H hr' rfl
theorem truthy_b {b : Bool} {Q : Bool → Shared → Prop} (h : Q b s) : wpAny (model P w) A (truthy (.bool b)) Q E s := wpAny_truthy_bool h
theorem tst_any (D : Snd P w g K T n r) (S : Sit P w g K T n l A X σ s) (e : bQ l X f env) {x : PySem.Expr} {Q : Bool → Shared → Prop} (H : OK P w g l X REq Q E (zQ g r f x σ)) :
  wpAny (model P w) A (PySem.isTrue x env (eval x env)) Q E s := by
 unfold zQ at H
 refine nJ (plainTest x) (fun hp => ?_) (fun hp => ?_)
 ·rw [hp] at H; exact tst_plain D S e hp H
 ·rw [hp] at H; exact H.elim
theorem tst_cmp (D : Snd P w g K T n r) (S : Sit P w g K T n l A X σ s) (e : bQ l X f env) {a b : PySem.Expr} {op : CmpOp} {pos : Pos} {Q : Bool → Shared → Prop} (H : OK P w g l X REq Q E (tsCmp g r f a op b σ)) :
  wpAny (model P w) A (PySem.isTrue (.Compare a [op] [b] pos) env (eval (.Compare a [op] [b] pos) env)) Q E s := by
 unfold tsCmp at H
 refine xpp (fun hm H => ?_) (OK.bif' H)
 refine wpAny_isTrue_Compare1 (D.ev S e (OK.bind (k := fun a σ => (r.ev f b σ).bind fun b σ => cmp1 g op a b σ) H fun va σ₁ _ Y s₁ u hy hr hu H => ?_)) hm
 refine D.ev (S.next hy hr) (e.mono hy) (OK.bind (k := fun b σ => cmp1 g op va b σ) H fun vb σ₂ _ Z s₂ v hz hr₂ hv H => ?_)
 refine aQ (fun c hc H => ?_) (H.opt)
 exact cmpO_ok ((S.next hy hr).next hz hr₂) (hu.mono hz.r) hv hc fun s' hr' => truthy_b (OK.here H hr' rfl)
theorem tst_cmp2 (D : Snd P w g K T n r) (S : Sit P w g K T n l A X σ s) (e : bQ l X f env) {a b c : PySem.Expr} {op op' : CmpOp} {pos : Pos} {Q : Bool → Shared → Prop} (H : OK P w g l X REq Q E (tsCmp2 g r f a op op' b c σ)) :
  wpAny (model P w) A (PySem.isTrue (.Compare a [op, op'] [b, c] pos) env (eval (.Compare a [op, op'] [b, c] pos) env)) Q E s := by
 unfold tsCmp2 at H
 refine xpp (fun hm H => ?_) (OK.bif' H)
 refine isTrue_chain (D.ev S e (OK.bind (k := fun a σ => (r.ev f b σ).bind fun b σ => (cmp1 g op a b σ).bind fun k σ => if k then (r.ev f c σ).bind fun d σ => cmp1 g op' b d σ else Res.ok false σ) H fun va σ₁ _ Y s₁ u hy hr hu H => ?_)) hm
 refine test_link (D.ev (S.next hy hr) (e.mono hy) (OK.bind (k := fun b σ => (cmp1 g op va b σ).bind fun k σ => if k then (r.ev f c σ).bind fun d σ => cmp1 g op' b d σ else Res.ok false σ) H fun vb σ₂ _ Z s₂ v hz hr₂ hv H => ?_))
 refine aQ (fun k hk H => ?_) (H.optb)
 have S₂ := (S.next hy hr).next hz hr₂
 refine cmpO_ok S₂ (hu.mono hz.r) hv hk fun s₃ hr₃ => truthy_b ?_
 cases k with
 | false => exact OK.here H hr₃ rfl
 | true =>
  refine test_last (D.ev (S₂.next (.refl _) hr₃) ((e.mono hy).mono hz) (OK.bind (k := fun d σ => cmp1 g op' vb d σ) H fun vd σ₄ _ W s₄ x hw hr₄ hx H => ?_))
  refine aQ (fun c hc H => ?_) (H.opt)
  exact cmpO_ok ((S₂.next (.refl _) hr₃).next hw hr₄) (hv.mono hw.r) hx hc fun s' hr' => truthy_b (OK.here H hr' rfl)
noncomputable def tstF (g : Cx) (r : Rc) (f : Fr) (e : PySem.Expr) (σ : St) (d : Nd) : Res Bool := Nd.casesOn (motive := fun _ => Res Bool) d (fun _ => zQ g r f e σ) (fun _ => zQ g r f e σ) (fun _ _ => zQ g r f e σ) (fun _ _ _ _ _ => zQ g r f e σ) (fun _ _ => zQ g r f e σ)
 (fun l op x => tsCmp g r f l op x σ) (fun op es => allT r f op es σ) (fun x => tsNot r f x σ) (fun _ => zQ g r f e σ) (fun _ _ _ => zQ g r f e σ) (fun _ _ _ => zQ g r f e σ) (fun _ => zQ g r f e σ) (fun _ => zQ g r f e σ)
 (fun _ _ => zQ g r f e σ) (fun _ _ _ _ => zQ g r f e σ) (fun _ _ _ _ _ => zQ g r f e σ) (fun _ => zQ g r f e σ) (fun _ _ => zQ g r f e σ) (fun l op op' x y => tsCmp2 g r f l op op' x y σ) (zQ g r f e σ)
theorem tst_eq {e : PySem.Expr} : tst1 g r f e σ = tstF g r f e σ (nd e) := rfl
theorem tstF_call {e fe : PySem.Expr} {as : List PySem.Expr} {kws : List Keyword} {pos : Pos} : tstF g r f e σ (ndCall fe as kws pos) = zQ g r f e σ := by
 cases kws with
 | nil => cases fe <;> rfl
 | cons => rfl
theorem tstF_comp {e elt : PySem.Expr} {gens : List Comprehension} {sc : Scope} : tstF g r f e σ (ndComp elt gens sc) = zQ g r f e σ := by
 cases gens with
 | nil => rfl
 | cons c cs => cases cs with
  | cons => rfl
  | nil =>
   obtain ⟨tg, it, ifs, a⟩ := c
   show tstF g r f e σ (bif is0 a then _ else _) = _
   cases is0 a <;> rfl
theorem tstF_idx {e o s : PySem.Expr} : tstF g r f e σ (bif isRev s then .rev o else .idx o s) = zQ g r f e σ := by cases isRev s <;> rfl
theorem tst_ok (D : Snd P w g K T n r) (S : Sit P w g K T n l A X σ s) (e : bQ l X f env) {x : PySem.Expr} {Q : Bool → Shared → Prop} (H : OK P w g l X REq Q E (tst1 g r f x σ)) :
  wpAny (model P w) A (PySem.isTrue x env (eval x env)) Q E s := by
 rw [tst_eq] at H
 cases x with
 | UnaryOp op a pos => cases op with
  | Not =>
   refine wpAny_isTrue_Not (D.tst S e (OK.bind (k := fun b σ => Res.ok (!b) σ) H fun b σ₁ _ Y s₁ u hy hr hu H => ?_))
   subst hu
   exact OK.here H hr rfl
  | _ => exact tst_any D S e H
 | BoolOp op es pos => exact wpAny_isTrue_BoolOp (allT_ok D S e H)
 | Compare a ops xs pos => cases ops with
  | nil => exact tst_any D S e H
  | cons op ops => cases xs with
   | nil => exact tst_any D S e H
   | cons b xs => cases ops with
    | nil => cases xs with
     | nil => exact tst_cmp D S e H
     | cons => exact tst_any D S e H
    | cons op' ops => cases ops with
     | cons => exact tst_any D S e H
     | nil => cases xs with
      | nil => exact tst_any D S e H
      | cons c xs => cases xs with
       | nil => exact tst_cmp2 D S e H
       | cons => exact tst_any D S e H
 | Call fe as kws pos => exact tst_any D S e (tstF_call ▸ H)
 | ListComp elt gens sc pos => exact tst_any D S e (tstF_comp ▸ H)
 | Subscript o i pos => exact tst_any D S e (tstF_idx ▸ H)
 | _ => exact tst_any D S e H
end
end
section
variable [Tau]
theorem put_len {α : Type} (x : Str) (v : α) : ∀ m : List (Str × α), (put m x v).length = if (look m x).isSome then m.length else m.length + 1
 | [] => by simp [put_nil, look_nil]
 | (k, w) :: r => by
  rw [put_cons, look_cons]
  refine cZ (eqS k x) (fun h => ?_) (fun h => ?_)
  ·simp
  ·
   rw [cond_false, cond_false, List.length_cons, put_len x v r]
   split <;> simp_all
section
variable {M : Model} {A : Around} {E : Value → Shared → Prop} {s : Shared}
theorem nsSet_sz {a : Addr} {o : Obj} {es : Array DictEntry} {ep : Nat} {name : Str} {v : Value} {Q : Unit → Shared → Prop} (ho : s.heap.get? a = some o) (hd : o.data = .dict es ep) (hk : StrKeys es)
  (h : ∀ h' o' es' ep', h'.get? a = some o' → o'.data = .dict es' ep' → StrKeys es' → (nsFind es' = fun x => if x = name then some v else nsFind es x) → (es'.size = if (nsFind es name).isSome then es.size else es.size + 1) → Heap.SameBut a s.heap h' →
   Q () { s with heap := h', toks := s.toks + 1 }) : wpAny M A (nsSet a name v) Q E s := fun Γ p _ => by
 simp only [nsSet, strHash, Sem.wp_bind', Sem.wp_cmd_ask, Sem.wp_pure', Sem.wp_cmd_mkText]
 rw [Sem.wp_loadPart_of M Γ _ p { s with toks := s.toks + 1 } (o := o) _ ho]
 have hany : es.any (·.refKey) = false := by
  rw [Array.any_eq_false']; intro e he; refine xvvp (fun n t h => ?_) (hk e he); simp [DictEntry.refKey, h]
 simp only [hd, aRefKeyMayBeTheName_eq, aRefKeyMayBeTheNameByArray, hany, Bool.and_false, Bool.false_eq_true, if_false, Sem.wp_cmd_updatePart]
 refine ⟨by rw [ho]; rfl, ?_⟩
 obtain ⟨c, d, dt, sl⟩ := o
 subst hd
 have hf : nsFind es name = match es.findIdx? (·.key.isStr name) with | some i => es[i]?.map (·.val) | none => none := findBy_of_findIdx? (fun n v => v.isStr n) es name
 refine jZ (es.findIdx? (·.key.isStr name)) (fun i hi => ?_) (fun hi => ?_)
 ·
  have hlt : i < es.size := by
   obtain ⟨h1, _⟩ := Array.findIdx?_eq_some_iff_getElem.mp hi
   exact h1
  refine h _ _ (es.modify i fun e => { e with val := v }) ep (Heap.get?_update_self _ ho (by simp only [Obj.putName_eq, Obj.putNameByArray, hi]; rfl)) (by simp only [Obj.putName_eq, Obj.putNameByArray, hi]) (hk.modify _ _) (funext fun x => ?_) ?_ (Heap.SameBut.update ..)
  ·exact findBy_modify (fun n v => v.isStr n) Value.isStr_inj es name x v i hi
  ·rw [hf, hi]
   simp [hlt]
 ·
  refine h _ _ (es.push ⟨_, .str name s.toks, v⟩) (ep + 1) (Heap.get?_update_self _ ho (by simp only [Obj.putName_eq, Obj.putNameByArray, hi]; rfl)) (by simp only [Obj.putName_eq, Obj.putNameByArray, hi]; rfl) (hk.push _ _ _ _) (funext fun x => ?_) ?_ (Heap.SameBut.update ..)
  ·exact findBy_push (fun n v => v.isStr n) es name x _ _ v (fun y => by
    show (name == y) = decide (y = name)
    by_cases h : y = name
    ·subst h; simp
    ·rw [decide_eq_false h]; exact beq_eq_false_iff_ne.mpr fun q => h q.symm) hi
  ·rw [hf, hi]
   simp
end
section
variable {P : Program} {w : World} {g : Cx} {K : Frag} {T : List Addr} {n : Nat} {r : Rc} {l : List Env} {A : Around} {X Y : Wl} {σ σ' : St} {s s' : Shared} {f : Fr} {env : Env} {E : Value → Shared → Prop} {F : Cx}
theorem lookIn_ns {o : Obj} {es : Array DictEntry} {ep : Nat} (hd : o.data = .dict es ep) (hk : StrKeys es) (x : Str) : lookIn x o = some (nsFind es x) := by
 unfold lookIn
 rw [hd]
 dsimp only
 have hany : es.toList.any (·.refKey) = false := by
  rw [Array.any_toList, Array.any_eq_false']; intro e he; refine xvvp (fun n t h => ?_) (hk e he); simp [DictEntry.refKey, h]
 have : nsFind es x = (es.toList.find? fun e => e.key.isStr x).map (·.val) := by unfold nsFind findBy; rw [Array.find?_toList]
 rw [this]
 cases es.toList.find? fun e => e.key.isStr x with
 | none => simp only [hany]; rfl
 | some e => rfl
theorem VR.handed {ρ : List Addr} {v : V} {u : Value} (h : VR ρ v u) : handedIn u = true := by
 cases v with
 | bt b => cases h; cases b <;> decide +kernel
 | int => revert h; refine xvp fun _ q1 => ?_; subst q1; rfl
 | str => revert h; refine xvp fun _ q1 => ?_; subst q1; rfl
 | new => revert h; refine xvdp fun _ q1 => ?_; subst q1; rfl
 | sym t => rcases (show ScR _ _ from h).cases with ⟨_, _, rfl⟩ | ⟨_, _, _, rfl⟩ | ⟨_, _, _, rfl⟩ <;> rfl
 | any => exact h
 | _ => cases h; rfl
theorem inst_of (S : Sit P w g K T n l A X σ s) {k : Nat} {C d : Nat} {m : List (Str × V)} (h1 : rd (σ.get k) = some (.inst C d)) (h2 : atOf (rd (σ.get d)) = some m) {a : Addr} (ha : X.ρ[k]? = some a) :
  ∃ dx od es ep, X.ρ[d]? = some dx ∧ InstAt s.heap a (instObj C dx) C (some od) ∧ s.heap.get? dx = some od ∧ od.data = .dict es ep ∧ StrKeys es ∧ es.size ≤ m.length ∧ MapR X.ρ m (nsFind es) := by
 refine xvpvpr0 (fun dx ho hd => ?_) (S.rel.rat h1 ha)
 have hx : ∃ od, s.heap.get? dx = some od ∧ ∃ es ep, od.data = .dict es ep ∧ StrKeys es ∧ es.size ≤ m.length ∧ MapR X.ρ m (nsFind es) := by
  refine oE (rd (σ.get d)) (fun hq => ?_) (fun o hq => ?_)
  ·rw [hq] at h2; injection h2
  ·
   rw [hq] at h2
   cases o <;> cases h2
   ·exact S.rel.rat hq hd
   ·exact S.rel.rat hq hd
 revert hx; refine xvpvvpppp fun od hod es ep e1 e2 e3 e4 => ?_
 exact ⟨dx, od, es, ep, hd, ⟨ho, rfl, rfl, hod⟩, hod, e1, e2, e3, e4⟩
theorem mayAttr_cls (S : Sit P w g K T n l A X σ s) {C : Nat} {x : Str} (h : mayAttr g C x = true) : ∃ mro i ms as, ClsD K C mro i ms as ∧ hasS as x = true := by
 refine iI (fun as h1 h2 => ?_) h
 refine oB (fun o h3 h4 => ?_) h1
 cases o with
 | cls mro i ms as' =>
  cases h4
  exact ⟨mro, i, ms, as, S.cx.olds C _ h3, h2⟩
 | _ => exact nos h4
theorem instP_ok {o : Option O} {p : Nat × Nat} (h : instP o = some p) : o = some (.inst p.1 p.2) := by
 revert h; refine oB fun x q1 h => ?_; subst q1
 cases x with
 | inst C d => injection h with q1; subst q1; rfl
 | _ => exact nos h
theorem attr_ok (S : Sit P w g K T n l A X σ s) {x : Str} {v o : V} {u : Value} (h : attrV g σ x o = some v) (ho : VR X.ρ o u) {Q : Value → Shared → Prop} (q : ∀ s' u', Rel P w X σ s' → VR X.ρ v u' → Q u' s') {b : Bool} :
  wpAny (model P w) A (getAttr u x b) Q E s := by
 revert h; refine oB fun k h1 h => ?_
 rw [iZ h1] at ho
 revert h; refine oB fun p h2 h => ?_
 revert h; refine iQ fun hm h => ?_
 revert h; refine oB fun m hd h => ?_
 revert ho; refine aQ fun a ha q1 => ?_; subst q1
 refine xvvvvppppppp (fun dx od es ep e1 I e2 e3 e4 e5 e6 => ?_) (inst_of S (instP_ok h2) hd ha)
 refine xvvvvpp (fun mro i ms as D hx => ?_) (mayAttr_cls S hm)
 refine aQ (fun cd hcd hdict => ?_) (D.cd)
 have := e6 x
 rw [h] at this
 refine aQ (fun u' hu' hv => ?_) (this.some')
 have hf : findObj K p.1 (some od) x = some (.value u') := by
  unfold findObj
  rw [hcd, Option.bind_some, (D.attr x hx).1, Option.bind_some, Option.bind_some, Option.bind_some]
  unfold PySem.W.ownOf
  rw [if_pos hdict]
  dsimp only
  rw [lookIn_ns e3 e4, hu', Option.bind_some]
 exact get_value (fun a o e => S.rel.keep _ _ (S.cx.kin a o e)) I D.ga hf hv.handed (q _ _ S.rel.same hv)
theorem base_eq {o : PySem.Expr} (h : noCall0 o = true) (x : Str) (t : Sem Value) : attributeBase o x env t = t := by
 cases o with
 | Call f as ks p => cases f with
  | Name => cases as with
   | nil => cases ks with
    | nil => exact Bool.noConfusion h
    | cons => rfl
   | cons => rfl
  | _ => rfl
 | _ => rfl
theorem ev_attr (D : Snd P w g K T n r) (S : Sit P w g K T n l A X σ s) (e : bQ l X f env) {o : PySem.Expr} {x : Str} {pos : Pos} {Q : Value → Shared → Prop} (H : OK P w g l X RV Q E (ev1 g r f (.Attribute o x pos) σ)) :
  wpAny (model P w) A (eval (.Attribute o x pos) env) Q E s := by
 refine xpp (fun hb H => ?_) (OK.bif (show OK P w g l X RV Q E (evAttr g r f o x σ) from H))
 refine Attribute_any_ (D.ev S e (OK.bind (k := fun v σ => oJ "attr" (attrV g σ x v) σ) H fun v σ₁ _ Y s₁ u hy hr hu H => ?_)) (by rw [arm_eval_Attribute, base_eq hb])
 refine aQ (fun v' hv' H => ?_) (H.opt)
 exact attr_ok (S.next hy hr) hv' hu fun s' u' hr' hv => OK.here H hr' hv
end
end
end Mine
end
section
open PySem PySem.W PySem.Calls PyProof.Rows PySem.SeqAt Builtin Builtin.ObjectAttr
namespace Mine
section
variable [Tau]
section
variable {P : Program} {w : World} {g : Cx} {K : Frag} {T : List Addr} {n : Nat} {r : Rc} {l : List Env} {A : Around} {X Y : Wl} {σ σ' : St} {s s' : Shared} {f : Fr} {env : Env} {E : Value → Shared → Prop} {F : Cx}
theorem setattr_ok (S : Sit P w g K T n l A X σ s) {x : Str} {o v : V} {u uo : Value} (h : setAttrV g σ o x v = some σ') (ho : VR X.ρ o uo) (hv : VR X.ρ v u) {Q : Unit → Shared → Prop} (q : ∀ s', Rel P w X σ' s' → Q () s') :
  wpAny (model P w) A (setAttr uo x u) Q E s := by
 revert h; refine oB fun k h1 h => ?_
 rw [iZ h1] at ho
 revert h; refine oB fun p h2 h => ?_
 revert h; refine iQ fun hm h => ?_
 revert h; refine oB fun m hd h => ?_
 revert h; refine iF fun hz h => ?_
 subst h
 have hk := instP_ok h2
 replace hd := atI_ok hd
 have hz' := nL hz
 clear h1 h2
 revert ho; refine aQ fun a ha q1 => ?_; subst q1
 refine xvvvvppppppp (fun dx od es ep e1 I e2 e3 e4 e5 e6 => ?_) (inst_of S (show rd (σ.get k) = _ by rw [hk]; rfl) (show atOf (rd (σ.get p.2)) = _ by rw [hd]; rfl) ha)
 refine xvvvvpp (fun mro i ms as D hx => ?_) (mayAttr_cls S hm)
 refine aQ (fun cd hcd hdict => ?_) (D.cd)
 have X₀ : K.In s.heap := fun a o e => S.rel.keep _ _ (S.cx.kin a o e)
 refine set_plain X₀ I D.sa ?_
 refine osa_open (r := none) (s := { s with toks := s.toks + 1 }) X₀ I D.po (by unfold takerIn; rw [(D.attr x hx).1]; rfl) fun b => ?_
 dsimp only
 unfold storeInOwnDict
 refine wpAny_bind (wpAny_pure (wpAny_bind (wpAny_bind (wpAny_loadPart I.at_ (wpAny_bind (looks_clsIn X₀ hcd _ _ _ _ (fun _ _ e => e) ?_))))))
 rw [hdict]
 refine wpAny_pure (a := some dx) (wpAny_bind (wpAny_pure (wpAny_bind ?_)))
 refine nsSet_sz (s := { s with toks := s.toks + 1 }) e2 e3 e4 fun h' o' es' ep' k1 k2 k3 k4 k5 k6 => ?_
 have hs' : es'.size ≤ (put m x v).length := by
  rw [k5, put_len, e6.get x]
  split <;> omega
 have hs2 : (put m x v).length ≤ 501 := by rw [put_len]; split <;> omega
 refine wpAny_bind (wpAny_lookBehind k1 (by rw [k2]; exact pastItsLine_dict (Nat.le_trans hs' (Nat.le_trans hs2 (by decide)))) ?_)
 refine wpAny_pure (q _ ?_)
 rw [St.setF_eq]
 refine S.rel.set hd e1 (qQ k6) k1 ⟨es', ep', k2, k3, hs', fun y => ?_⟩ fun m' z => by injection z
 rw [k4]
 exact e6.put hv y
end
end
end Mine
end
section
open PySem PySem.W PySem.Calls PyProof.Rows PySem.SeqAt
namespace Mine
section
variable [Tau]
section
variable {P : Program} {w : World} {g : Cx} {K : Frag} {T : List Addr} {n : Nat} {r : Rc} {l : List Env} {A : Around} {X Y : Wl} {σ σ' : St} {s s' : Shared} {f : Fr} {env : Env} {E : Value → Shared → Prop} {F : Cx}
theorem idx_some {n : Nat} {k : Int} {j : Nat} (h : idx n k = some j) : n ≤ 1000000 ∧ ((0 ≤ k ∧ k < n ∧ j = k.toNat) ∨ (k < 0 ∧ -(n : Int) ≤ k ∧ j = (k + n).toNat)) := by
 unfold idx at h
 revert h; refine iQ fun hz h => ?_
 refine ⟨nL hz, ?_⟩
 split at h
 ·split at h
  ·injection h with q1; subst q1; left; omega
  ·injection h
 ·split at h
  ·injection h with q1; subst q1; right; omega
  ·injection h
theorem seq_item (S : Sit P w g K T n l A X σ s) {k : Bool} {us : Array Value} {m : Nat} {a : Addr} {xs : List V} (ho : s.heap.get? a = some (eZ k us m)) (hr : cQ X.ρ xs us.toList) {i : Int} {j : Nat} {v : V} {t : Tok} (hj : idx xs.length i = some j) (hv : xs[j]? = some v)
  {Q : Value → Shared → Prop} (q : ∀ u, VR X.ρ v u → Q u s) : wpAny (model P w) A (getItem (.ref a) (.int i t)) Q E s := by
 refine xpp (fun hn hc => ?_) (idx_some hj)
 refine aQ (fun u hu hvu => ?_) (hr.get hv)
 have hl := seqL hr
 have hu' : us[j]? = some u := by rw [← Array.getElem?_toList]; exact hu
 cases k with
 | true =>
  rcases hc with ⟨h1, h2, rfl⟩ | ⟨h1, h2, rfl⟩
  ·exact wpAny_getItem_list (eQ ho) h1 (by omega) hu' (q u hvu)
  ·exact wpAny_getItem_list_neg (eQ ho) h1 (by rw [hl]; exact h2) (by omega) (by rw [hl]; exact hu') (q u hvu)
 | false =>
  refine getItem_tuple (j := j) (gQ ho) (by omega) (by omega) ?_ hu' (q u hvu)
  unfold seqIndex?
  rw [hl]
  rcases hc with ⟨h1, h2, rfl⟩ | ⟨h1, h2, rfl⟩
  ·simp only [if_neg (show ¬ i < 0 by omega), h1, h2, decide_true, Bool.and_self, if_true]
  ·simp only [if_pos h1, show (0 : Int) ≤ i + xs.length by omega, show i + (xs.length : Int) < xs.length by omega, decide_true, Bool.and_self, if_true]
set_option tactic.hygienic true in
theorem sub_ok (S : Sit P w g K T n l A X σ s) {o i v : V} {uo ui : Value} (h : subV g σ o i = some v) (ho : VR X.ρ o uo) (hi : VR X.ρ i ui) {Q : Value → Shared → Prop} (q : ∀ s' u, Rel P w X σ s' → VR X.ρ v u → Q u s') {value slice : PySem.Expr} (hs : isSl slice = false) :
  wpAny (model P w) A (subscriptTail value slice uo ui) Q E s := by
 have hsub : ∀ a i, ∃ ops, subscripted slice false a i = operate ops (getItem a i) := fun a i => by
  cases slice <;> first | exact ⟨_, rfl⟩ | injection hs
 unfold subV at h
 split at h
 ·rename_i b xs k hq
  refine xQ (fun a us m q1 hob hr => ?_) (uJ S hq ho); subst q1
  refine aQ (fun j hj hv => ?_) (Option.bind_eq_some_iff.mp h)
  revert hi; refine xvp fun t q1 => ?_; subst q1
  refine xvp (fun ops e => ?_) (hsub (.ref a) (.int k t))
  cases b with
  | true => exact tail_any (eQ hob).typeIs slot_list_getitem.lookup (seq_item S hob hr hj hv fun u hu => q _ _ S.rel hu) e
  | false => exact tail_any (T := "tuple") ⟨_, hob, rfl⟩ slot_tuple_getitem.lookup (seq_item S hob hr hj hv fun u hu => q _ _ S.rel hu) e
 ·rename_i z hq
  split at h
  ·rename_i k
   split at h
   ·rename_i es hes
    revert ho; refine aQ fun a ha q1 => ?_; subst q1
    revert hi; refine xvp fun t q1 => ?_; subst q1
    refine aQ (fun kvs hD hm => ?_) (S.rel.dict hes ha)
    have hM := hD.mapOf
    have hz : (strKind P w).is z (.str z t) = true := by show (z == z) = true; exact beq_self_eq_true z
    have := hm.look z
    rw [h] at this
    refine aQ (fun u hu hv => ?_) (this.some')
    refine xvp (fun ops e => ?_) (hsub (.ref a) (.str z t))
    exact tail_any hM.typeIs slot_dict_getitem.lookup (wpAny_getItem_of hz hM hu (q _ _ S.rel.same hv)) e
   ·injection h
  ·injection h
 ·injection h
theorem subO_ok (S : Sit P w g K T n l A X σ s) {o i v : V} {uo ui : Value} (h : subO g σ o i = some v) (ho : VR X.ρ o uo) (hi : VR X.ρ i ui) {Q : Value → Shared → Prop} (q : ∀ s' u, Rel P w X σ s' → VR X.ρ v u → Q u s') {value slice : PySem.Expr} (hs : isSl slice = false) :
  wpAny (model P w) A (subscriptTail value slice uo ui) Q E s := by
 unfold subO at h
 split at h
 ·rename_i xs hq
  split at h
  ·rename_i z
   injection h with q1; subst q1
   refine xvvvpppp (fun k j r₀ h1 h2 h3 h4 => ?_) (S.cx.orc _ _ z)
   have e : subV g σ o (dn i) = some r₀ := by
    unfold subV
    rw [h1, hq]
    dsimp only
    rw [h2]
    exact h3
   exact sub_ok S e ho (VR_dn.mpr hi) (fun s' u hr hu => q s' u hr (h4 _ _ hu)) hs
  ·exact sub_ok S h ho hi q hs
 ·exact sub_ok S h ho hi q hs
theorem ev_sub (D : Snd P w g K T n r) (S : Sit P w g K T n l A X σ s) (e : bQ l X f env) {o i : PySem.Expr} {pos : Pos} (hs : isSl i = false) {Q : Value → Shared → Prop} (H : OK P w g l X RV Q E ((r.ev f o σ).bind fun v σ => (r.ev f i σ).bind fun i σ => oJ "item" (subO g σ v i) σ)) :
  wpAny (model P w) A (eval (.Subscript o i pos) env) Q E s := by
 rw [eval_Subscript]
 refine wpAny_bind (D.ev S e (OK.bind (k := fun v σ => (r.ev f i σ).bind fun i σ => oJ "item" (subO g σ v i) σ) H fun vo σ₁ _ Y s₁ u hy hr hu H => wpAny_bind (wpAny_holding ?_)))
 refine D.ev (S.next hy hr) (e.mono hy) (OK.bind (k := fun i σ => oJ "item" (subO g σ vo i) σ) H fun vi σ₂ _ Z s₂ v hz hr₂ hv H => wpAny_bind (wpAny_standAt ?_))
 refine aQ (fun v' hv' H => ?_) (H.opt)
 exact subO_ok (value := o) ((S.next hy hr).next hz hr₂) hv' (hu.mono hz.r) hv (fun s' u' hr' hv => OK.here H hr' hv) hs
end
end
section
variable [Tau]
noncomputable def Keeps (M : Model) (h : Heap) (u : Value) : Prop := ∃ k, (k = Keeper.frame ∨ k = Keeper.machine ∨ k = Keeper.boundFrame) ∧ Looks M h (keeperOf u) k
section
variable {P : Program} {w : World} {g : Cx} {K : Frag} {T : List Addr} {n : Nat} {r : Rc} {l : List Env} {A : Around} {X Y : Wl} {σ σ' : St} {s s' : Shared} {f : Fr} {env : Env} {E : Value → Shared → Prop} {F : Cx}
theorem keeps_fn {M : Model} {h : Heap} {a : Addr} {o : Obj} {fd : FuncData} (ho : h.get? a = some o) (hd : o.data = .func fd) : Keeps M h (.ref a) :=
 ⟨.frame, .inl rfl, by
  unfold keeperOf
  refine (Looks.ld (part := none) ho).andThen ?_
  rw [hd]; exact Looks.now⟩
set_option tactic.hygienic true in
theorem keeps_cls {M : Model} {h : Heap} (X₀ : K.In h) {C : Addr} (hm : makesIn K C = true) : Keeps M h (.ref C) := by
 unfold makesIn at hm
 split at hm
 ·rename_i oc od cd sl ho
  simp only [Bool.and_eq_true, beq_iff_eq] at hm
  refine ⟨.machine, .inr (.inl rfl), ?_⟩
  unfold keeperOf
  refine (Looks.ld (part := none) (X₀ _ _ ho)).andThen ?_
  dsimp only
  refine (looks_specialIn X₀ hm.1.2).andThen ?_
  exact Looks.now
 ·injection hm
theorem keeps_ty {M : Model} {h : Heap} {t : String} : Keeps M h (.type t) := ⟨.machine, .inr (.inl rfl), Looks.now⟩
theorem keeps_bt {M : Model} {h : Heap} {t : String} : Keeps M h (.builtin t) := ⟨.machine, .inr (.inl rfl), Looks.now⟩
theorem keeps_of (S : Sit P w g K T n l A X σ s) {v : V} {u : Value} (hc : callable g σ v = true) (hv : VR X.ρ v u) : Keeps (model P w) s.heap u := by
 have X₀ : K.In s.heap := fun a o e => S.rel.keep _ _ (S.cx.kin a o e)
 cases v with
 | old a =>
  cases hv
  revert hc; refine iI fun o hq hc => ?_
  cases o with
  | fn =>
   obtain ⟨od, fd, sl, h1, _⟩ := S.cx.olds a _ hq
   exact keeps_fn (S.rel.keep _ _ h1) rfl
  | cls => exact keeps_cls X₀ (S.cx.olds a _ hq : ClsD ..).make
  | _ => exact Bool.noConfusion hc
 | new k =>
  revert hv; refine aQ fun a ha q1 => ?_; subst q1
  refine oE (fnI (σ.get k)) (fun hq => ?_) (fun fn hq => ?_)
  ·
   change (!noB (fnI (σ.get k))) = true at hc
   rw [hq] at hc
   exact Bool.noConfusion hc
  ·
   refine xvpddvpd (fun ob ho fd hd => ?_) (S.rel.at (fnI_ok hq) ha)
   exact keeps_fn ho hd
 | bt => cases hv; exact keeps_bt
 | ty => cases hv; exact keeps_ty
 | _ => exact Bool.noConfusion hc
theorem noStars_any {pos : Pos} : ∀ {es : List PySem.Expr}, pJ es = true → (backTo pos (starEach es env)).any (·.1) = false
 | [], _ => rfl
 | e :: es, h => by
  unfold pJ at h
  refine bE (noStar e) (fun hz => ?_) (fun hz => ?_)
  ·rw [hz] at h; injection h
  ·
   rw [hz, cond_true] at h
   rw [starEach_no hz]
   show (false || (backTo pos (starEach es env)).any (·.1)) = false
   rw [noStars_any h]; rfl
theorem callw_ok (D : Snd P w g K T n r) (S : Sit P w g K T n l A X σ s) (e : bQ l X f env) {es : List PySem.Expr} {pos : Pos} {u : Value} {first : List Value} {Q : Value → Shared → Prop} {Q₁ : List Value → Shared → Prop} (hn : pJ es = true)
  (H : OK P w g l X RVs Q₁ E (evs r f es σ)) (q : ∀ us s', Q₁ us s' → Keeps (model P w) s'.heap u ∧ wpAny (model P w) A (PySem.call u (first ++ us)) Q E s') :
  wpAny (model P w) A (callWith pos u first (backTo pos (starEach es env)) []) Q E s := by
 refine callWith_of (P := fun h => Keeps (model P w) h u) (by rw [noStars_any hn]; rfl) (fun h x => x) ?_
 have h := evs_ok D (pos := pos) S e (H.q q)
 cases es with
 | nil =>
  have h0 : Q₁ [] s := OK.here H S.rel (show RVs X [] [] from trivial)
  exact evalArgs_nil3 (q [] s h0)
 | cons x es =>
  have hz : noStar x = true := by
   unfold pJ at hn
   refine qJ (noStar x) (fun hz => ?_) (fun hz => ?_)
   ·rw [hz] at hn; injection hn
   ·rfl
  rw [starEach_no hz] at h ⊢
  exact evalArgs_plain h
noncomputable def isAttr : PySem.Expr → Bool
 | .Attribute _ _ _ => true
 | _ => false
theorem ev_call (D : Snd P w g K T n r) (S : Sit P w g K T n l A X σ s) (e : bQ l X f env) {fe : PySem.Expr} {es : List PySem.Expr} {pos : Pos} (hf : isAttr fe = false) {Q : Value → Shared → Prop} (H : OK P w g l X RV Q E (callE g r f fe es σ)) :
  wpAny (model P w) A (eval (.Call fe es [] pos) env) Q E s := by
 have he : eval (.Call fe es [] pos) env = (do callWith pos (← eval fe env) [] (backTo pos (starEach es env)) (backToKw pos (keywordEach [] env))) := by
  cases fe <;> first | rfl | injection hf
 unfold callE at H
 refine xpp (fun hn H => ?_) (OK.bif H)
 rw [he]
 refine wpAny_bind (D.ev S e (OK.bind (k := fun fv σ => (evs r f es σ).bind fun vs σ => bif callable g σ fv then r.call fv vs σ else .stop "callable") H fun fv σ₁ _ Y s₁ u hy hr hu H => ?_))
 refine callw_ok D (S.next hy hr) (e.mono hy) hn (OK.bind (k := fun vs σ => bif callable g σ fv then r.call fv vs σ else .stop "callable") H fun vs σ₂ _ Z s₂ us hz hr₂ hus H => ?_) fun us s' z => z
 refine bE (callable g σ₂ fv) (fun hc => ?_) (fun hc => ?_)
 ·rw [hc] at H; exact H.elim
 ·
  rw [hc, cond_true] at H
  have S₂ := (S.next hy hr).next hz hr₂
  exact ⟨keeps_of S₂ hc (hu.mono hz.r), D.call S₂ (hu.mono hz.r) hus H⟩
end
end
section
variable [Tau]
noncomputable def MT.fn : MT → Value
 | .own m => .ref m
 | .append => .builtin "list.append" | .get => .builtin "dict.get" | .update => .builtin "dict.update" | .join => .builtin "str.join" | .rpartition => .builtin "str.rpartition"
section
variable {P : Program} {w : World} {g : Cx} {K : Frag} {T : List Addr} {n : Nat} {r : Rc} {l : List Env} {A : Around} {X Y : Wl} {σ σ' : St} {s s' : Shared} {f : Fr} {env : Env} {E : Value → Shared → Prop} {F : Cx}
theorem eqS_of {a : Str} {b : String} (h : eqS a (sOf b) = true) : a = Str.ofString b := eI.mp h
theorem gm_of {nm nm' : Str} {T' : String} {u : Value} {id : String} (h : nm = nm') (hT : s.TypeIs u T') (pa : PlainAttrs T') (slot : Slot T' nm' id) (hty : typeOf (.builtin id) = pure (.type "method_descriptor")) (hd : ∀ a, u = .ref a → ∃ ob, s.heap.get? a = some ob ∧ ob.dict = none) {pl : Sem Bool}
  {Q : Value × List Value → Shared → Prop} (q : Q (.builtin id, [u]) s) : wpAny (model P w) A (getMethod u nm pl) Q E s := by
 subst h; exact getMethod_builtin hT pa slot hty hd q
theorem no_ref {x : Str} {tk : Tok} : ∀ a, Value.str x tk = .ref a → ∃ ob, s.heap.get? a = some ob ∧ ob.dict = none := fun a z => by injection z
theorem one_ref {a : Addr} {ob : Obj} (ho : s.heap.get? a = some ob) (hd : ob.dict = none) : ∀ b, Value.ref a = .ref b → ∃ ob, s.heap.get? b = some ob ∧ ob.dict = none := fun b z => by (injection z with q1; subst q1); exact ⟨_, ho, hd⟩
theorem methsOf_ok {C : Nat} {ms : List (Str × Nat)} (h : methsOf g C = some ms) : ∃ mro i as, lk g.olds C = some (.cls mro i ms as) := by
 revert h; refine oB fun o h1 h => ?_
 cases o with
 | cls mro i ms' as => injection h with q1; subst q1; exact ⟨mro, i, as, h1⟩
 | _ => exact nos h
theorem ite2 {α : Type} {a b : Bool} {x y r : α} (h : (bif a then some x else bif b then some y else none) = some r) : (a = true ∧ x = r) ∨ (b = true ∧ y = r) := by
 cases a with
 | true => injection h with q1; subst q1; exact .inl ⟨rfl, rfl⟩
 | false => exact .inr (bifs h)
theorem own_target (S : Sit P w g K T n l A X σ s) {k C d : Nat} {a : Addr} {x : Str} {t : MT} (hk : rd (σ.get k) = some (.inst C d)) (ha : X.ρ[k]? = some a) (h : targetO g σ x (.inst C d) = some t) {pl : Sem Bool} {Q : Value × List Value → Shared → Prop} (q : Q (t.fn, [.ref a]) s) :
  wpAny (model P w) A (getMethod (.ref a) x pl) Q E s := by
 revert h; refine oB fun ms h1 h => ?_
 revert h; refine oB fun m h2 h => ?_
 revert h; refine iQ fun h3 h => ?_
 revert h; refine oB fun mm h4 h => ?_
 injection h with q1; subst q1
 refine xvvvp (fun mro i as hC => ?_) (methsOf_ok h1)
 refine xvvvvppppppp (fun dx od es ep e1 I e2 e3 e4 e5 e6 => ?_) (inst_of S hk h2 ha)
 have D : ClsD K C mro i ms as := S.cx.olds C _ hC
 have hf := D.meth x mm h4
 refine method_fn (fun a o e => S.rel.keep _ _ (S.cx.kin a o e)) I D.ga D.gh hf.1 hf.2 ?_ q
 have := e6 x
 rw [noB_ok h3] at this
 show (lookIn x od).map _ = _
 rw [lookIn_ns e3 e4, this.none']; rfl
theorem target_ok (S : Sit P w g K T n l A X σ s) {ov : V} {u : Value} {x : Str} {t : MT} (h : target g σ ov x = some t) (hu : VR X.ρ ov u) {pl : Sem Bool} {Q : Value × List Value → Shared → Prop} (q : Q (t.fn, [u]) s) :
  wpAny (model P w) A (getMethod u x pl) Q E s := by
 cases ov with
 | str z =>
  revert hu; refine xvp fun tk q1 => ?_; subst q1
  rcases ite2 h with ⟨h1, rfl⟩ | ⟨h1, rfl⟩
  ·exact gm_of (eqS_of h1) (typeIs_str _ _ _) PySem.F.plainAttrs_str PySem.F.slot_str_join PySem.F.type_str_join no_ref q
  ·exact gm_of (eqS_of h1) (typeIs_str _ _ _) PySem.F.plainAttrs_str PySem.F.slot_str_rpartition PySem.F.type_str_rpartition no_ref q
 | new k =>
  revert hu; refine aQ fun a ha q1 => ?_; subst q1
  revert h; refine oB fun o hk h => ?_
  cases o with
  | list xs =>
   refine kQ (fun us m ho hr => ?_) (S.rel.rat hk ha)
   refine iF (fun h1 q1 => ?_) h; subst q1
   exact gm_of (eqS_of h1) (T' := "list") (u := .ref a) (s := s) (show ∃ o, s.heap.get? a = some o ∧ o.cls = _ from ⟨_, ho, rfl⟩) PySem.F.plainAttrs_list PySem.F.slot_list_append PySem.F.type_list_append (one_ref ho rfl) q
  | dict es =>
   refine xvpvpd (fun ob ho kvs q1 => ?_) (S.rel.rat hk ha); revert q1; refine xvvpd fun es' ep hx => ?_
   have hT : s.TypeIs (.ref a) "dict" := show ∃ o, s.heap.get? a = some o ∧ o.cls = _ from ⟨_, ho, hx.1⟩
   rcases ite2 h with ⟨h1, rfl⟩ | ⟨h1, rfl⟩
   ·exact gm_of (eqS_of h1) hT PySem.F.plainAttrs_dict PySem.F.slot_dict_get PySem.F.type_dict_get (one_ref ho hx.2.1) q
   ·exact gm_of (eqS_of h1) hT PySem.F.plainAttrs_dict PySem.F.slot_dict_update PySem.F.type_dict_update (one_ref ho hx.2.1) q
  | inst C d => exact own_target S hk ha h q
  | _ => exact nos h
 | _ => exact nos h
end
end
section
variable [Tau]
section
variable {P : Program} {w : World} {g : Cx} {K : Frag} {T : List Addr} {n : Nat} {r : Rc} {l : List Env} {A : Around} {X Y : Wl} {σ σ' : St} {s s' : Shared} {f : Fr} {env : Env} {E : Value → Shared → Prop} {F : Cx}
theorem hasN_iff {x : Nat} : ∀ {l : List Nat}, hasN l x = true ↔ x ∈ l
 | [] => by simp [hasN]
 | a :: l => by
  unfold hasN
  split
  ·rename_i h; rw [nE h]; simp
  ·rename_i h
   rw [hasN_iff, List.mem_cons]
   constructor
   ·exact .inr
   ·rintro (rfl | q)
    ·exact absurd (Nat.beq_refl _) h
    ·exact q
theorem no_last {x : Str} {c : Nat} (h : hasN x.cps.toList c = false) : Builtin.Str.lastOccurrence x ⟨⟨[c]⟩⟩ 0 x.length = none := by
 rcases PySem.StrLaws.last_spec x ⟨⟨[c]⟩⟩ with h1 | ⟨i, _, ⟨h2, h3⟩, _⟩
 ·exact h1.1
 ·exfalso
  have h4 : x.cps.extract i (i + 1) = #[c] := eq_of_beq h3
  have h5 : c ∈ x.cps.extract i (i + 1) := by rw [h4]; simp
  have h6 : c ∈ x.cps.toList := by
   rw [Array.mem_toList_iff]
   rw [Array.mem_extract_iff_getElem] at h5
   obtain ⟨k, hk, e⟩ := h5
   rw [← e]; exact Array.getElem_mem _
  rw [hasN_iff.mpr h6] at h; injection h
theorem allStr_of {ρ : List Addr} : ∀ {xs : List V} {us : List Value} {ys : List Str}, cQ ρ xs us → allStr xs = some ys → StrsAre us ys
 | [], [], _, _, h => by (injection h with q1; subst q1); exact .nil
 | x :: xs, u :: us, ys, ⟨e, r⟩, h => by
  unfold allStr at h
  split at h
  ·rename_i h0; injection h0
  ·rename_i h0
   injection h0 with q1 q2; subst q1; subst q2
   revert e; refine xvp fun t q1 => ?_; subst q1
   split at h
   ·rename_i l hl; injection h with q1; subst q1; exact .cons _ _ (allStr_of r hl)
   ·injection h
  ·injection h
theorem sumLen_eq : ∀ ys : List Str, sumLen ys = (ys.map (·.length)).sum
 | [] => rfl
 | y :: ys => by rw [List.map_cons, List.sum_cons, ← sumLen_eq ys]; rfl
set_option tactic.hygienic true in
theorem joinV_ok {sep : Str} {xs : List V} {v : V} (h : joinV sep xs = some v) : ∃ ys, allStr xs = some ys ∧ v = .str (PySem.Txt.join sep ys) ∧ (ys.map (·.length)).sum + ys.length * sep.length ≤ 16777216 := by
 unfold joinV at h
 split at h
 ·rename_i ys hy
  revert h; refine iQ fun hz h => ?_
  injection h with q1; subst q1
  have := nL hz
  rw [sumLen_eq] at this
  exact ⟨ys, hy, rfl, by omega⟩
 ·injection h
theorem list_line {xs : List V} {us : Array Value} {ρ : List Addr} {b : Nat} (h : cQ ρ xs us.toList) (hz : xs.length ≤ 1000000) : us.size ≤ sizeLine := by
 rw [seqL h]; exact Nat.le_trans hz (by decide)
theorem append_ok (S : Sit P w g K T n l A X σ s) {k : Nat} {xs : List V} {v : V} {u : Value} {a : Addr} (h : σ.get k = some (.list xs)) (ha : X.ρ[k]? = some a) (hv : VR X.ρ v u) (hz : Nat.ble xs.length 1000000 = true) {Q : Value → Shared → Prop}
  (q : ∀ s', Rel P w X (σ.setF k (.list (xs ++ [v]))) s' → Q .none s') : wpAny (model P w) A (PySem.call (.builtin "list.append") [.ref a, u]) Q E s := by
 refine kQ (fun us m ho hr => ?_) (S.rel.at h ha)
 refine call_meets PySem.F.slot_list_append (s := s) (self := .ref a) (show ∃ o, s.heap.get? a = some o ∧ o.cls = _ from ⟨_, ho, rfl⟩) PySem.F.entry_list_append (PySem.F.args_list_append_2 _ _) (list_append a us m u (list_line (b := 0) hr (nL hz))) ⟨ho, show Q _ _ from q _ ?_⟩
 rw [St.setF_eq]
 refine S.rel.set h ha (fun b hb o e => (Heap.get?_update_other _ _ (Ne.symm hb)).trans e) (IsL.update ho _) ⟨_, _, rfl, ?_⟩ fun m q => by injection q
 rw [Array.toList_push]
 exact hr.append ⟨hv, trivial⟩
theorem strIs (z : Str) (t : Tok) : (PySem.strKind P w).is z (.str z t) = true := PySem.strKind_is P w z t
theorem OptR.getD {ρ : List Addr} {o : Option V} {x : Option Value} {d : V} {u : Value} (h : OptR ρ o x) (hd : VR ρ d u) : VR ρ (o.getD d) (x.getD u) := by
 cases o <;> cases x
 ·exact hd
 ·exact (h).elim
 ·exact (h).elim
 ·exact h
theorem one_val {ρ : List Addr} {v : V} {us : List Value} (h : cQ ρ [v] us) : ∃ u, us = [u] ∧ VR ρ v u := by
 cases us with
 | nil => exact h.elim
 | cons u us => cases us with
  | nil => exact ⟨u, rfl, h.1⟩
  | cons => exact h.2.elim
theorem two_val {ρ : List Addr} {v w : V} {us : List Value} (h : cQ ρ [v, w] us) : ∃ u u', us = [u, u'] ∧ VR ρ v u ∧ VR ρ w u' := by
 cases us with
 | nil => exact h.elim
 | cons u us => refine aQ (fun u' q1 h2 => ?_) (one_val h.2); subst q1; exact ⟨u, u', rfl, h.1, h2⟩
theorem join_ok (S : Sit P w g K T n l A X σ s) {ov v : V} {vs : List V} {u : Value} {us : List Value} (ho : VR X.ρ ov u) (hv : cQ X.ρ vs us) (h : mJoin g σ ov vs = some v) {Q : Value → Shared → Prop} (H : OK P w g l X RV Q E (.ok v σ)) : wpAny (model P w) A (PySem.call (.builtin "str.join") (u :: us)) Q E s := by
 revert h; refine oB fun z h1 h => ?_
 revert h; refine oB fun x h2 h => ?_
 revert h; refine oB fun q1 h3 h => ?_; obtain ⟨k, xs'⟩ := q1
 rw [strI_ok h1] at ho
 rw [vJ h2] at hv
 refine aQ (fun u' q1 hv1 => ?_) (one_val hv); subst q1
 obtain ⟨xs, v', hj, H', hall⟩ : ∃ xs v', joinV z xs = some v' ∧ OK P w g l X RV Q E (Res.ok v' σ) ∧ ∀ us, cQ X.ρ xs' us → cQ X.ρ xs us := by
  refine jZ (g.orc (.join z xs')) (fun r q => ?_) (fun q => ?_)
  ·
   have h : (match g.orc (.join z xs') with | some r => some r | none => joinV z xs') = some v := h
   rw [q] at h
   injection h with q1; subst q1
   refine aQ (fun r₀ h1 h2 => ?_) (S.cx.orc _ _ q)
   exact ⟨_, r₀, h1, fun Y s u hy hr hu => H Y s u hy hr (h2 _ _ hu), fun us h => AllR_dn.mpr h⟩
  ·
   have h : (match g.orc (.join z xs') with | some r => some r | none => joinV z xs') = some v := h
   rw [q] at h
   exact ⟨_, v, h, H, fun _ h => h⟩
 refine xvppp (fun ys h1 q1 h3' => ?_) (joinV_ok hj); subst q1
 refine xQ (fun a us m q1 hob hr => ?_) (uJ S h3 hv1); clear hv1 hv; subst q1
 have hr := hall _ hr
 revert ho; refine xvp fun tk q1 => ?_; subst q1
 cases k with
 | true => exact join_list (eQ hob) (allStr_of hr h1) h3' fun t' k => OK.here H' S.rel.same ⟨_, rfl⟩
 | false => exact join_tuple (gQ hob) (allStr_of hr h1) h3' fun t' k => OK.here H' S.rel.same ⟨_, rfl⟩
theorem rpart_ok (S : Sit P w g K T n l A X σ s) {ov : V} {z : Str} {vs : List V} {u : Value} {us : List Value} (ho : VR X.ρ ov u) (hv : cQ X.ρ vs us) (h : mRpart ov vs = some z) {Q : Value → Shared → Prop} (H : OK P w g l X RV Q E (newR σ (.tup [.str Str.empty, .str Str.empty, .str z]))) : wpAny (model P w) A (PySem.call (.builtin "str.rpartition") (u :: us)) Q E s := by
 obtain ⟨z', h1, h⟩ := obind h
 obtain ⟨x, h2, h⟩ := obind h
 obtain ⟨y, h3, h⟩ := obind h
 obtain ⟨c, h4, h⟩ := obind h
 obtain ⟨h5, h⟩ := bifn h
 cases h
 rw [strI_ok h1] at ho
 rw [vJ h2, strI_ok h3] at hv
 refine aQ (fun u' q1 hv1 => ?_) (one_val hv); subst q1
 revert ho; refine xvp fun t1 q1 => ?_; subst q1
 revert hv1; refine xvp fun t2 q1 => ?_; subst q1
 refine xpp (fun hz hy => ?_) (Bool.or_eq_false_iff.mp h5)
 have hc : y = ⟨⟨[c]⟩⟩ := by
  have := vJ h4
  obtain ⟨⟨l⟩⟩ := y
  exact congrArg (fun l => Str.mk (Array.mk l)) this
 clear h3 h4 hv; subst hc
 have hl : z.length ≤ sizeLine := by
  have : ¬ 1000000 < z.length := fun q => by rw [bI.mpr q] at hy; injection hy
  exact Nat.le_trans (Nat.le_of_not_lt this) (by decide)
 refine call_meets PySem.F.slot_str_rpartition (typeIs_str _ _ _) PySem.F.entry_str_rpartition (PySem.F.args_str_rpartition_2 _ _) (meets_str_rpartition z ⟨⟨[c]⟩⟩ t1 t2 rfl hl) ?_
 rw [no_last hz]
 show Q _ _
 exact new_ok (ob := { cls := .type "tuple", data := .seq #[Value.str Str.empty s.toks, Value.str Str.empty s.toks, Value.str z t1] }) H S.rel ⟨_, _, rfl, ⟨_, rfl⟩, ⟨_, rfl⟩, ⟨_, rfl⟩, trivial⟩
theorem mget_ok (S : Sit P w g K T n l A X σ s) {ov v : V} {vs : List V} {u : Value} {us : List Value} (ho : VR X.ρ ov u) (hv : cQ X.ρ vs us) (h : mGet g σ ov vs = some v) {Q : Value → Shared → Prop} (H : OK P w g l X RV Q E (.ok v σ)) : wpAny (model P w) A (PySem.call (.builtin "dict.get") (u :: us)) Q E s := by
 revert h; refine oB fun k h1 h => ?_
 revert h; refine oB fun p h2 h => ?_
 revert h; refine oB fun es h3 h => ?_
 rw [iZ h1] at ho
 rw [headV_ok h2] at hv
 revert ho; refine aQ fun a ha q1 => ?_; subst q1
 have hk := dictI_ok h3
 refine aQ (fun kvs hD hm => ?_) (S.rel.dict hk ha)
 refine xvp (fun o hs => ?_) (S.cx.sysm)
 have hne := own_ne S hk ha hs
 obtain ⟨key, r⟩ := p
 have two : ∀ {y : Str} {d v₀ : V} {us : List Value}, cQ X.ρ [.str y, d] us → (look es y).getD d = v₀ → (∀ ρ u, VR ρ v₀ u → VR ρ v u) → wpAny (model P w) A (PySem.call (.builtin "dict.get") (.ref a :: us)) Q E s := fun {y d v₀ us} hv e i => by
  refine oQ (fun ku du q1 q2 hd => ?_) (two_val hv); subst q1; revert q2; refine xvp fun t2 q3 => ?_; subst q3
  subst e
  exact call_meetsIn PySem.F.slot_dict_get hD.typeIs PySem.F.entry_dict_get (PySem.F.args_dict_get_3 _ _ _) (meets_dict_get_default (PySem.strKind P w) a (strIs y t2) hne du) ⟨_, hD.mapOf, (show Q _ _ from OK.here H S.rel.same (i _ _ ((hm.look y).getD hd)))⟩
 cases key with
 | str y => cases r with
  | nil =>
   injection h with q1; subst q1
   refine xvpvr0 (fun t2 q1 => ?_) (one_val hv); subst q1
   exact call_meetsIn PySem.F.slot_dict_get hD.typeIs PySem.F.entry_dict_get (PySem.F.args_dict_get_2 _ _) (meets_dict_get (PySem.strKind P w) a (strIs y t2) hne) ⟨_, hD.mapOf, (show Q _ _ from OK.here H S.rel.same ((hm.look y).getD rfl))⟩
  | cons d r =>
   refine iF (fun h4 h5 => ?_) h
   rw [yQ h4] at hv
   exact two hv h5 fun _ _ z => z
 | sym t =>
  refine oB (fun d h4 h5 => ?_) h
  rw [vJ h4] at hv
  refine aQ (fun y e1 e2 => ?_) (S.cx.orc _ _ h5)
  have e1 : dn (.sym t) = .str y := e1
  refine two (y := y) (d := d) ?_ rfl e2
  cases us with
  | nil => exact hv.elim
  | cons u us => exact ⟨e1 ▸ (VR_dn (v := .sym t)).mpr hv.1, hv.2⟩
 | _ => exact nos h
theorem update_ok (S : Sit P w g K T n l A X σ s) {ov : V} {vs : List V} {u : Value} {us : List Value} (ho : VR X.ρ ov u) (hv : cQ X.ρ vs us) (h : mUpdate σ ov vs = some σ') {Q : Value → Shared → Prop} (H : OK P w g l X RV Q E (.ok .none σ')) : wpAny (model P w) A (PySem.call (.builtin "dict.update") (u :: us)) Q E s := by
 revert h; refine oB fun k h1 h => ?_
 revert h; refine oB fun v h2 h => ?_
 revert h; refine oB fun j h3 h => ?_
 revert h; refine iN fun hkj h => ?_
 revert h; refine oB fun es h4 h => ?_
 revert h; refine oB fun fs h5 h => ?_
 revert h; refine iF fun hz h => ?_
 subst h
 rw [iZ h1] at ho
 rw [vJ h2, iZ h3] at hv
 refine aQ (fun u' q1 hv1 => ?_) (one_val hv); subst q1
 have hk := dictI_ok h4
 have hj := dictI_ok h5
 revert ho; refine aQ fun a ha q1 => ?_; subst q1
 revert hv1; refine aQ fun b hb q1 => ?_; subst q1
 have hrj : rd (σ.get j) = some (.dict fs) := by rw [hj]; rfl
 refine aQ (fun kvs hD hm => ?_) (S.rel.dict (show rd (σ.get k) = _ by rw [hk]; rfl) ha)
 refine aQ (fun more hD' hm' => ?_) (S.rel.dict hrj hb)
 refine xvp (fun o hs => ?_) (S.cx.sysm)
 have hne : a ≠ b := fun q => by
  clear hv; subst q
  have := S.rel.nodup k j _ _ a hk hj rfl (fun h => by injection h) ha hb
  rw [this, Nat.beq_refl] at hkj; injection hkj
 refine call_meetsIn PySem.F.slot_dict_update hD.typeIs PySem.F.entry_dict_update (PySem.F.args_dict_update_2 _ _) (meets_dict_update (PySem.strKind P w) a b hne (own_ne S hrj hb hs))
  ⟨kvs, more, hD, hD', by rw [← hm.len, ← hm'.len]; exact Nat.le_trans (nL hz) (by decide), fun h' h1 h2 h3 => show Q _ _ from OK.here H ?_ rfl⟩
 rw [St.setF_eq]
 refine aQ (fun o' ho' hd' => ?_) (Heap.dictOf_iff.mp h1)
 have hnd : (kvs.map (·.1)).Nodup := let ⟨_, _, _, _, _, _, _, _, h⟩ := hD; h
 exact S.rel.set hk ha (qQ h3) ho' ⟨_, hd', DR.merge hm' hm hnd⟩ fun m q => by injection q
theorem toNone_ok {o : Option St} {Q : Value → Shared → Prop} (H : OK P w g l X RV Q E (toNone o)) : ∃ σ', o = some σ' ∧ OK P w g l X RV Q E (.ok .none σ') := by
 cases o with
 | none => exact False.elim H
 | some σ' => exact ⟨σ', rfl, H⟩
theorem apply_ok (D : Snd P w g K T n r) (S : Sit P w g K T n l A X σ s) {t : MT} {ov : V} {vs : List V} {u : Value} {us : List Value} (ho : VR X.ρ ov u) (hv : cQ X.ρ vs us) {Q : Value → Shared → Prop} (H : OK P w g l X RV Q E (applyM g r t ov vs σ)) :
  Keeps (model P w) s.heap t.fn ∧ wpAny (model P w) A (PySem.call t.fn (u :: us)) Q E s := by
 cases t with
 | own m =>
  refine xpp (fun hc H => ?_) (OK.bif H)
  exact ⟨keeps_of S hc rfl, D.call (fv := .old m) (u := .ref m) (vs := _ :: _) (us := u :: us) S rfl ⟨ho, hv⟩ H⟩
 | join => refine aQ (fun v h H => ?_) (OK.opt (show OK P w g l X RV Q E (oJ "join" (mJoin g σ ov vs) σ) from H)); exact ⟨keeps_bt, join_ok S ho hv h H⟩
 | get => refine aQ (fun v h H => ?_) (OK.opt (show OK P w g l X RV Q E (oJ "get" (mGet g σ ov vs) σ) from H)); exact ⟨keeps_bt, mget_ok S ho hv h H⟩
 | update => refine aQ (fun σ' h H => ?_) (toNone_ok (show OK P w g l X RV Q E (toNone (mUpdate σ ov vs)) from H)); exact ⟨keeps_bt, update_ok S ho hv h H⟩
 | append =>
  refine aQ (fun σ' h H => ?_) (toNone_ok (show OK P w g l X RV Q E (toNone (mAppend σ ov vs)) from H))
  revert h; refine oB fun k h1 h => ?_
  revert h; refine oB fun v h2 h => ?_
  revert h; refine oB fun xs h3 h => ?_
  revert h; refine iF fun hz h => ?_
  subst h
  rw [iZ h1] at ho
  rw [vJ h2] at hv
  refine aQ (fun u' q1 hv1 => ?_) (one_val hv); subst q1
  revert ho; refine aQ fun a ha q1 => ?_; subst q1
  exact ⟨keeps_bt, append_ok S (listI_ok h3) ha hv1 hz fun s' hr => OK.here H hr rfl⟩
 | rpartition =>
  refine ⟨keeps_bt, ?_⟩
  change OK P w g l X RV Q E (toRpart σ (mRpart ov vs)) at H
  refine oE (mRpart ov vs) (fun h => ?_) (fun z h => ?_)
  ·rw [h] at H; exact False.elim H
  ·rw [h] at H; exact rpart_ok S ho hv h H
theorem ev_meth (D : Snd P w g K T n r) (S : Sit P w g K T n l A X σ s) (e : bQ l X f env) {o : PySem.Expr} {x : Str} {p : Pos} {es : List PySem.Expr} {pos : Pos} {Q : Value → Shared → Prop} (H : OK P w g l X RV Q E (methE g r f o x p es pos σ)) :
  wpAny (model P w) A (eval (.Call (.Attribute o x p) es [] pos) env) Q E s := by
 unfold methE at H
 refine xpp (fun hc H => ?_) (OK.bif H)
 refine aN (fun h1 h2 => ?_) hc
 refine aN (fun hn hb => ?_) h1
 refine aN (fun hl hp => ?_) h2
 have hl := bI.mp hl
 have hp := nE hp
 rw [arm_eval_Call, base_eq hb]
 refine wpAny_bind (D.ev S e (OK.bind (k := fun ov σ => match target g σ ov x with
  | some t => (evs r f es σ).bind fun vs σ => applyM g r t ov vs σ
  | none => .stop "method") H fun ov σ₁ _ Y s₁ u hy hr hu H => wpAny_bind (wpAny_standAt ?_)))
 split at H
 ·rename_i t ht
  have S₁ := S.next hy hr
  have hform : methodCallForm (es.length + ([] : List Keyword).length) (backTo pos (starEach es env)) (backToKw pos (keywordEach [] env)) = true := by
   unfold methodCallForm
   have : (backTo pos (starEach es env)).all (fun x => !x.1) = true := by
    rw [List.all_eq_true]
    intro y hy
    have := noStars_any (env := env) (pos := pos) hn
    rw [List.any_eq_false] at this
    simpa using this y hy
   rw [this]
   show (true && true && decide (es.length + 0 + 0 < 30)) = true
   exact decide_eq_true (by omega)
  have hpos : methodCallPos true o env p pos = pure pos := by unfold methodCallPos; simp [hp]
  unfold methodCall
  rw [hform]
  refine wpAny_bind (wpAny_holding (target_ok S₁ ht hu ?_))
  refine wpAny_bind (wpAny_of_eq hpos ?_)
  refine callw_ok D S₁ (e.mono hy) hn (OK.bind (k := fun vs σ => applyM g r t ov vs σ) H fun vs σ₂ _ Z s₂ us hz hr₂ hus H => ?_) fun us s' z => z
  have := apply_ok D (S₁.next hz hr₂) (hu.mono hz.r) hus H
  exact this
 ·exact H.elim
end
end
section
variable [Tau]
section
variable {P : Program} {w : World} {g : Cx} {K : Frag} {T : List Addr} {n : Nat} {r : Rc} {l : List Env} {A : Around} {X Y : Wl} {σ σ' : St} {s s' : Shared} {f : Fr} {env : Env} {E : Value → Shared → Prop} {F : Cx}
theorem Sit.rel' (S : Sit P w g K T n l A X σ s) (r : Rel P w X σ' s') : Sit P w g K T n l A X σ' s' := S.next (Wl.Le.refl X) r
omit [Tau] in
theorem isLocK_eq {k : Option NameKind} (h : isLocK k = true) : k = some .local := by
 revert h; refine iI fun k q1 h => ?_; subst q1
 cases k with
 | «local» => rfl
 | _ => exact Bool.noConfusion h
theorem storeNs_ok (e : bQ l X f env) (xs : List Str) : ∀ {vs : List V} {us : List Value} {σ σ' : St} {s : Shared} {Q : Unit → Shared → Prop}, Sit P w g K T n l A X σ s → storeNs f xs vs σ = some σ' → cQ X.ρ vs us → (∀ s', Rel P w X σ' s' → Q () s') →
  wpAny (model P w) A (assignInOrder (xs.map fun n => bindName env n) us) Q E s := by
 induction xs with
 | nil =>
  intro vs us σ σ' s Q S h hv q
  refine iF (fun _ q1 => ?_) h; subst q1
  exact wpAny_pure (q _ S.rel)
 | cons x xs ih =>
  intro vs us σ σ' s Q S h hv q
  revert h; refine oB fun p h0 h => ?_
  revert h; refine oB fun σ₁ h1 h => ?_
  rw [headV_ok h0] at hv
  cases us with
  | nil => exact hv.elim
  | cons u us =>
   show wpAny _ _ (do holding us (bindName env x u); assignInOrder (xs.map fun n => bindName env n) us) Q E s
   exact wpAny_bind (wpAny_holding (bindName_ (store_ok S e hv.1 h1 fun s' hr' => ih (S.rel' hr') h hv.2 q)))
theorem bindNs_shape (ts : List PySem.Expr) : ∀ {vs : List V} {σ σ' : St}, bindNs f ts vs σ = some σ' → (assignEach ts env).length = vs.length ∧ (assignEach ts env).findIdx? (·.1) = none := by
 induction ts with
 | nil =>
  intro vs σ σ' h
  rw [yQ (bifs h).1]
  exact ⟨rfl, rfl⟩
 | cons t ts ih =>
  intro vs σ σ' h
  revert h; refine oB fun nm h0 h => ?_
  revert h; refine oB fun p h1 h => ?_
  revert h; refine oB fun σ₁ _ h => ?_
  refine xpp (fun h3 h4 => ?_) (ih h)
  rw [nameI_ok h0, headV_ok h1]
  refine ⟨congrArg (· + 1) h3, ?_⟩
  show ((false, assign (.Name nm.1 nm.2) env) :: assignEach ts env).findIdx? (·.1) = none
  rw [List.findIdx?_cons, h4]
  rfl
theorem bindNs_ok (e : bQ l X f env) (ts : List PySem.Expr) : ∀ {vs : List V} {us : List Value} {σ σ' : St} {s : Shared} {Q : Unit → Shared → Prop}, Sit P w g K T n l A X σ s → bindNs f ts vs σ = some σ' → cQ X.ρ vs us → (∀ s', Rel P w X σ' s' → Q () s') →
  wpAny (model P w) A (assignInOrder ((assignEach ts env).map (·.2)) us) Q E s := by
 induction ts with
 | nil =>
  intro vs us σ σ' s Q S h hv q
  refine iF (fun _ q1 => ?_) h; subst q1
  exact wpAny_pure (q _ S.rel)
 | cons t ts ih =>
  intro vs us σ σ' s Q S h hv q
  revert h; refine oB fun nm h0 h => ?_
  revert h; refine oB fun p h1 h => ?_
  revert h; refine oB fun σ₁ h2 h => ?_
  rw [nameI_ok h0]
  rw [headV_ok h1] at hv
  cases us with
  | nil => exact hv.elim
  | cons u us =>
   show wpAny _ _ (do holding us (assign (.Name nm.1 nm.2) env u); assignInOrder ((assignEach ts env).map (·.2)) us) Q E s
   exact wpAny_bind (wpAny_holding (assign_Name (store_ok S e hv.1 h2 fun s' hr' => ih (S.rel' hr') h hv.2 q)))
theorem ext_keeps {h h' : Heap} (x : Heap.ExtBut h.objs.size h h') : ∀ b o, h.get? b = some o → h'.get? b = some o := fun b o e => x b o (Nat.ne_of_lt (Heap.lt_size e)) e
theorem bindT_ok (S : Sit P w g K T n l A X σ s) (e : bQ l X f env) {t : PySem.Expr} {v : V} {u : Value} (hv : VR X.ρ v u) (h : bindT g f t v σ = some σ') {Q : Unit → Shared → Prop} (q : ∀ s', Rel P w X σ' s' → Q () s') :
  wpAny (model P w) A (assign t env u) Q E s := by
 cases t with
 | Name x p => exact assign_Name (store_ok S e hv h q)
 | Tuple ts k p =>
  revert h; refine oB fun xs h1 h => ?_
  revert h1; refine oB fun y hx h1 => ?_
  revert h1; refine iN fun h2 h1 => ?_
  injection h1 with q1; subst q1
  obtain ⟨b, xs⟩ := y
  have h2 : b = false := h2
  subst h2
  refine xQ (fun a us m q1 ho hr => ?_) (uJ S hx hv); subst q1
  have hsh := bindNs_shape (env := env) _ h
  exact wpAny_assign_Tuple S.a.hand (gQ ho) (hsh.1.trans (seqL hr).symm) hsh.2 fun h' hx' => bindNs_ok e _ (S.rel' (S.rel.keeps (ext_keeps hx'))) h hr q
 | _ => exact nos h
theorem cQ.rev {ρ : List Addr} {vs : List V} {us : List Value} (a : cQ ρ vs us) : cQ ρ vs.reverse us.reverse := a.ind (p := fun vs us => cQ ρ vs.reverse us.reverse) trivial fun _ _ _ _ e _ r => by
 rw [List.reverse_cons, List.reverse_cons]
 exact r.append ⟨e, trivial⟩
noncomputable def nmF (env : Env) (line : Nat) : PySem.Expr → Option Str
 | .Name id pos => if env.kindOf id == some .local && pos.line == line then some id else none
 | _ => none
noncomputable def isStarred : PySem.Expr → Bool
 | .Starred .. => true
 | _ => false
theorem namesOf_eq (e : bQ l X f env) {line : Nat} {ts : List PySem.Expr} : ∀ {ns : List Str}, namesOf f line ts = some ns → ts.filterMap (nmF env line) = ns ∧ ns.length = ts.length := by
 induction ts with
 | nil => intro ns h; injection h with q1; subst q1; exact ⟨rfl, rfl⟩
 | cons t ts ih =>
  intro ns h
  revert h; refine oB fun nm h0 h => ?_
  revert h; refine iQ fun hc h => ?_
  revert h; refine oB fun ns' h1 h => ?_
  injection h with q1; subst q1
  refine xpp (fun h2 h3 => ?_) (ih h1)
  refine ⟨?_, congrArg (· + 1) h3⟩
  have : nmF env line (.Name nm.1 nm.2) = some nm.1 := by
   show (if (env.kindOf nm.1 == some .local && nm.2.line == line) = true then some nm.1 else none) = some nm.1
   rw [e.kindOf, isLocK_eq (aL hc), nE (aR hc), beq_self_eq_true, beq_self_eq_true]
   rfl
  rw [nameI_ok h0, List.filterMap_cons, this, h2]
theorem eqS_false {a b : Str} (h : eqS a b = false) : ¬ a = b := fun q => by rw [q, eI.mpr rfl] at h; injection h
theorem apart_ok {ns : List Str} (h : apart ns = true) : (ns.length = 2 ∨ ns.length = 3) ∧ ns.eraseDups.length = ns.length := by
 have no : ∀ {b : Bool}, (!b) = true → b = false := fun h => (Bool.not_eq_true' _).mp h
 cases ns with
 | nil => exact Bool.noConfusion h
 | cons a r => cases r with
  | nil => exact Bool.noConfusion h
  | cons b r => cases r with
   | nil =>
    have h1 : (b == a) = false := beq_false_of_ne (Ne.symm (eqS_false (no h)))
    refine ⟨.inl rfl, ?_⟩
    simp [List.eraseDups_cons, h1]
   | cons c r =>
    have h1 : nilB r = true := aL h
    have h2 := aR h
    rw [yQ h1]
    have e1 : (b == a) = false := beq_false_of_ne (Ne.symm (eqS_false (no (aL h2))))
    have e2 : (c == a) = false := beq_false_of_ne (Ne.symm (eqS_false (no (aL (aR h2)))))
    have e3 : (c == b) = false := beq_false_of_ne (Ne.symm (eqS_false (no (aR (aR h2)))))
    refine ⟨.inr rfl, ?_⟩
    simp [List.eraseDups_cons, e1, e2, e3]
theorem noStars_noAny : ∀ {es : List PySem.Expr}, pJ es = true → es.any isStarred = false
 | [], _ => rfl
 | e :: es, h => by
  unfold pJ at h
  refine bE (noStar e) (fun hz => ?_) (fun hz => ?_)
  ·rw [hz] at h; injection h
  ·
   rw [hz, cond_true] at h
   rw [List.any_cons, noStars_noAny h]
   cases e <;> first | rfl | injection hz
theorem bQ.block (e : bQ l X f env) : env.blockKind = .function := by unfold Env.blockKind; rw [e.fkind]; rfl
theorem swap_eq (e : bQ l X f env) {ts es : List PySem.Expr} {ns : List Str} {k k' : Nat} {p p' : Pos} (h : swapNames f ts es = some ns) (hs : pJ es = true) :
  swappedStores [.Tuple ts k p] (.Tuple es k' p') env = pure (some ns) ∧ es.length = ns.length ∧ ns.length = ts.length := by
 revert h; refine oB fun ns' hn h => ?_
 revert h; refine iF fun hc h => ?_
 subst h
 have h3 := (Bool.not_eq_true' _).mp (aL (aR hc))
 have h4 := (Bool.not_eq_true' _).mp (aR (aR hc))
 have h2 := nE (aR (aL hc))
 refine xpp (fun a1 a2 => ?_) (apart_ok (aL (aL hc)))
 refine xpp (fun b1 b2 => ?_) (namesOf_eq e hn)
 refine ⟨?_, h2, b2⟩
 have hline : ((ts.head?.map (·.pos.line)).getD 0) = lineOf ts := by cases ts <;> rfl
 have hlen : (!(ts.length == 2 || ts.length == 3) || es.length != ts.length || env.blockKind != .function) = false := by
  rw [e.block, h2, b2, ← b2]
  revert a1; refine orE (fun q => ?_) (fun q => ?_) <;> simp [q]
 show (if (!(ts.length == 2 || ts.length == 3) || es.length != ts.length || env.blockKind != .function) = true then (pure none : Sem (Option (List Str))) else
  if es.any isStarred = true then pure none else
  if ((ts.filterMap (nmF env ((ts.head?.map (·.pos.line)).getD 0))).length != ts.length || (ts.filterMap (nmF env ((ts.head?.map (·.pos.line)).getD 0))).eraseDups.length != (ts.filterMap (nmF env ((ts.head?.map (·.pos.line)).getD 0))).length) = true then pure none else
  if es.all (foldedForSure 8) = true then pure none else
  if es.all (constantsAlone 8) = true then (do unsupported "assign.tuple-of-constant-expressions:order-of-the-stores"; pure (some (ts.filterMap (nmF env ((ts.head?.map (·.pos.line)).getD 0))))) else pure (some (ts.filterMap (nmF env ((ts.head?.map (·.pos.line)).getD 0))))) = _
 rw [hline, b1, hlen, noStars_noAny hs, h3, h4, a2, b2]
 simp
end
end
section
variable [Tau]
section
variable {prog : Program} {w : World} {A : Around} {E : Value → Shared → Prop} {s : Shared}
theorem setItem_ex {l : Addr} {items : Array Value} {n : Nat} {k : Int} {t : Tok} {v : Value} {Q : Unit → Shared → Prop} (ho : IsL s.heap l items n)
  (h0 : 0 ≤ k) (hfit : k < 2 ^ 63) (hn : k < items.size)
  (hQ : Q () { s with heap := s.heap.update l (Obj.mapSeq (·.setIfInBounds k.toNat v)) }) :
  wpAny (model prog w) A (setItem (.ref l) (.int k t) v) Q E s := by
 have hl := ho.isList
 have hd : ({ cls := .type "list", dict := none, data := .seq items n, slots := #[] } : Obj).data = .seq items n := rfl
 unfold setItem
 try with_reducible refine wpAny_holding ?_
 first | refine wpAny_bind (wpAny_pure ?_) | skip
 refine wpAny_bind (wpAny_sequenceKey hl.typeIs (by decide) ?_)
 refine wpAny_bind (wpAny_callSpecial?_slot (name := Str.ofString "__setitem__") hl.typeIs slot_list_setitem
  (wpAny_call_entry slot_list_setitem hl.typeIs entry_list_setitem ?_ (args_list_setitem _ _ _)))
 show wpAny _ _ (Builtin.List.listSubscript? (.int k t) >>= _) _ _ s
 refine wpAny_bind (wpAny_listSubscript_int (fitsIndex_of h0 hfit) ?_)
 clear hfit
 refine xvp (fun j q1 => ?_) (Int.eq_ofNat_of_zero_le h0); subst q1
 have hj : j < items.size := by omega
 have hx' : items[j]? = some items[j] := Array.getElem?_eq_getElem hj
 show wpAny _ _ ((seqItemAt l j >>= fun r => pure (r.map (j, ·))) >>= _) _ _ s
 refine wpAny_bind (wpAny_bind (wpAny_seqItemAt ho hd (wpAny_pure ?_)))
 rw [hx']
 show wpAny _ _ (setSeqItemAt l j v >>= _) _ _ s
 refine wpAny_bind (wpAny_setSeqItemAt ho hd ?_)
 first
  | exact wpAny_bind (wpAny_pure (wpAny_pure ⟨.none, rfl, wpAny_pure hQ⟩))
  | exact wpAny_pure ⟨.none, rfl, wpAny_pure hQ⟩
end
section
variable {P : Program} {w : World} {g : Cx} {K : Frag} {T : List Addr} {n : Nat} {r : Rc} {l : List Env} {A : Around} {X Y : Wl} {σ σ' : St} {s s' : Shared} {f : Fr} {env : Env} {E : Value → Shared → Prop} {F : Cx}
theorem cQ.setIf {ρ : List Addr} {xs : List V} {us : Array Value} (h : cQ ρ xs us.toList) {v : V} {u : Value} (e : VR ρ v u) (i : Nat) : cQ ρ (xs.set i v) (us.setIfInBounds i u).toList := by
 rw [Array.toList_setIfInBounds]; exact cQ.set e h i
set_option tactic.hygienic true in
theorem setitem_ok (S : Sit P w g K T n l A X σ s) {ov iv v : V} {uo ui u : Value} (ho : VR X.ρ ov uo) (hi : VR X.ρ iv ui) (hv : VR X.ρ v u) (h : setItemV σ ov iv v = some σ') {Q : Unit → Shared → Prop} (q : ∀ s', Rel P w X σ' s' → Q () s') :
  wpAny (model P w) A (setItem uo ui u) Q E s := by
 unfold setItemV at h
 split at h
 ·rename_i k j
  revert ho; refine aQ fun a ha q1 => ?_; subst q1
  revert hi; refine xvp fun t q1 => ?_; subst q1
  split at h
  ·rename_i xs hk
   split at h
   ·rename_i h0
    split at h
    ·rename_i z hz
     injection h with q1; subst q1
     refine kQ (fun us m ho hr => ?_) (S.rel.at hk ha)
     refine xpp (fun hn hc => ?_) (idx_some hz)
     have hz' : z = j.toNat ∧ j < us.size := by
      rw [seqL hr]
      revert hc; refine orE (xdpp fun h2 h3 => ?_) (xpd fun h1 => ?_)
      ·exact ⟨h3, h2⟩
      ·omega
     revert hz'; refine xpp fun q1 hj => ?_; clear hz hc; subst q1
     refine setItem_ex ho h0 (by rw [seqL hr] at hj; omega) hj (q _ ?_)
     rw [St.setF_eq]
     exact S.rel.set hk ha (fun b hb o e => (Heap.get?_update_other _ _ (Ne.symm hb)).trans e) (IsL.update ho _) ⟨_, _, rfl, hr.setIf hv _⟩ fun m q => by injection q
    ·injection h
   ·injection h
  ·injection h
 ·injection h
theorem OK.next {o : Option St} {Q : Flow → Shared → Prop} (H : OK P w F l X RFl Q E (rQ o)) : ∃ σ', o = some σ' ∧ ∀ s', Rel P w X σ' s' → Q .next s' := by
 cases o with
 | none => exact H.elim
 | some σ' => exact ⟨σ', rfl, fun s' hr => H X s' .next (Wl.Le.refl X) hr rfl⟩
theorem noComp_swap {e : PySem.Expr} (h : isComp e = false) (t : Option PySem.Expr) (line : Nat) : swapsWith e t line env = pure false := by
 cases e <;> first | rfl | injection h
theorem interactive_no (e : bQ l X f env) : interactive env = false := by unfold interactive; rw [e.fkind]; rfl
theorem st_return (D : Snd P w g K T n r) (S : Sit P w g K T n l A X σ s) (e : bQ l X f env) {x : PySem.Expr} {pos : Pos} {Q : Flow → Shared → Prop} (H : OK P w g l X RFl Q E ((r.ev f x σ).bind fun v σ => .ok (.ret v) σ)) :
  wpAny (model P w) A (exec (.Return (some x) pos) env) Q E s :=
 wpAny_Return_some (D.ev S e (OK.bind (k := fun v σ => Res.ok (Fl.ret v) σ) H fun v σ₁ _ Y s₁ u hy hr hu H => OK.here H hr ⟨u, rfl, hu⟩))
theorem st_expr (D : Snd P w g K T n r) (S : Sit P w g K T n l A X σ s) (e : bQ l X f env) {x : PySem.Expr} {pos : Pos} (hc : isComp x = false) {Q : Flow → Shared → Prop} (H : OK P w g l X RFl Q E ((r.ev f x σ).bind fun _ σ => .ok .next σ)) :
  wpAny (model P w) A (exec (.Expr x pos) env) Q E s :=
 wpAny_Expr_any (D.ev S e (OK.bind (k := fun _ σ => Res.ok Fl.next σ) H fun v σ₁ _ Y s₁ u hy hr hu H => OK.here H hr rfl)) (interactive_no e) (noComp_swap hc _ _)
theorem st_if (D : Snd P w g K T n r) (S : Sit P w g K T n l A X σ s) (e : bQ l X f env) {t : PySem.Expr} {b o : List Stmt} {pos : Pos} {Q : Flow → Shared → Prop} (H : OK P w g l X RFl Q E ((r.tst f t σ).bind fun c σ => if c then r.exs f b σ else r.exs f o σ)) :
  wpAny (model P w) A (exec (.If t b o pos) env) Q E s :=
 wpAny_If (D.tst S e (OK.bind (k := fun c σ => if c then r.exs f b σ else r.exs f o σ) H fun c σ₁ _ Y s₁ u hy hr hu H => by
  subst hu
  cases c with
  | true => exact D.exs (S.next hy hr) (e.mono hy) H
  | false => exact D.exs (S.next hy hr) (e.mono hy) H))
theorem st_attr (D : Snd P w g K T n r) (S : Sit P w g K T n l A X σ s) (e : bQ l X f env) {o x : PySem.Expr} {a : Str} {p pos : Pos} {Q : Flow → Shared → Prop}
  (H : OK P w g l X RFl Q E ((r.ev f x σ).bind fun v σ => (r.ev f o σ).bind fun ov σ => rQ (setAttrV g σ ov a v))) :
  wpAny (model P w) A (exec (.Assign [.Attribute o a p] x pos) env) Q E s := by
 refine plainObj_wpAny_Assign_Attribute (D.ev S e (OK.bind (k := fun v σ => (r.ev f o σ).bind fun ov σ => rQ (setAttrV g σ ov a v)) H fun v σ₁ _ Y s₁ u hy hr hu H => ?_)) ?_
 ·refine D.ev (S.next hy hr) (e.mono hy) (OK.bind (k := fun ov σ => rQ (setAttrV g σ ov a v)) H fun ov σ₂ _ Z s₂ uo hz hr₂ ho H => ?_)
  refine aQ (fun σ₃ h3 q => ?_) (H.next)
  exact setattr_ok ((S.next hy hr).next hz hr₂) h3 ho (hu.mono hz.r) fun s' hr' => q s' hr'
 ·cases x <;> rfl
theorem st_item (D : Snd P w g K T n r) (S : Sit P w g K T n l A X σ s) (e : bQ l X f env) {o i x : PySem.Expr} {p pos : Pos} {Q : Flow → Shared → Prop}
  (H : OK P w g l X RFl Q E ((r.ev f x σ).bind fun v σ => (r.ev f o σ).bind fun ov σ => (r.ev f i σ).bind fun iv σ => rQ (setItemV σ ov iv v))) :
  wpAny (model P w) A (exec (.Assign [.Subscript o i p] x pos) env) Q E s := by
 refine wpAny_Assign_Subscript (D.ev S e (OK.bind (k := fun v σ => (r.ev f o σ).bind fun ov σ => (r.ev f i σ).bind fun iv σ => rQ (setItemV σ ov iv v)) H fun v σ₁ _ Y s₁ u hy hr hu H => ?_)) ?_
 ·refine D.ev (S.next hy hr) (e.mono hy) (OK.bind (k := fun ov σ => (r.ev f i σ).bind fun iv σ => rQ (setItemV σ ov iv v)) H fun ov σ₂ _ Z s₂ uo hz hr₂ ho H => ?_)
  refine D.ev ((S.next hy hr).next hz hr₂) ((e.mono hy).mono hz) (OK.bind (k := fun iv σ => rQ (setItemV σ ov iv v)) H fun iv σ₄ _ W s₄ ui hw hr₄ hi H => ?_)
  refine aQ (fun σ₃ h3 q => ?_) (H.next)
  exact setitem_ok (((S.next hy hr).next hz hr₂).next hw hr₄) (ho.mono hw.r) hi ((hu.mono hz.r).mono hw.r) h3 fun s' hr' => q s' hr'
 ·cases x <;> rfl
theorem rst {α : Type} {w : String} {a : α} {τ : St} {p : Prop} (h : (Res.stop w : Res α) = .ok a τ) : p := by injection h
theorem rbif {α : Type} {c : Bool} {r : Res α} {w : String} {a : α} {τ : St} (h : (bif c then r else .stop w) = .ok a τ) : c = true ∧ r = .ok a τ := by
 cases c with
 | true => exact ⟨rfl, h⟩
 | false => exact rst h
theorem rbif' {α : Type} {c : Bool} {r : Res α} {w : String} {a : α} {τ : St} (h : (bif c then .stop w else r) = .ok a τ) : c = false ∧ r = .ok a τ := by
 cases c with
 | true => exact rst h
 | false => exact ⟨rfl, h⟩
theorem rbind {α β : Type} {q : Res α} {k : α → St → Res β} {b : β} {τ : St} (h : q.bind k = .ok b τ) : ∃ a σ, q = .ok a σ ∧ k a σ = .ok b τ := by
 cases q with
 | ok a σ => exact ⟨a, σ, rfl, h⟩
 | exc => injection h
 | stop => injection h
theorem evs_len {f : Fr} {es : List PySem.Expr} : ∀ {σ σ₁ : St} {vs : List V}, evs r f es σ = .ok vs σ₁ → vs.length = es.length := by
 induction es with
 | nil => intro σ σ₁ vs h; injection h with q1 q2; subst q1; subst q2; rfl
 | cons x es ih =>
  intro σ σ₁ vs h
  refine xvvdp (fun v σ₂ h => ?_) (rbind (rbif h).2)
  refine xvvpp (fun ws σ₃ hy h => ?_) (rbind h)
  injection h with q1 q2; clear h; subst q1; clear h; subst q2
  exact congrArg (· + 1) (ih hy)
theorem st_swap (D : Snd P w g K T n r) (S : Sit P w g K T n l A X σ s) (e : bQ l X f env) {ts es : List PySem.Expr} {k k' : Nat} {p p' pos : Pos} {ns : List Str} (hs : swapNames f ts es = some ns) (hn : pJ es = true) {Q : Flow → Shared → Prop}
  (H : OK P w g l X RFl Q E ((evs r f es σ).bind fun vs σ => rQ (storeNs f ns.reverse vs.reverse σ))) :
  wpAny (model P w) A (exec (.Assign [.Tuple ts k p] (.Tuple es k' p') pos) env) Q E s := by
 refine xppp (fun h1 h2 h3 => ?_) (swap_eq (env := env) (k := k) (k' := k') (p := p) (p' := p') e hs hn)
 refine Assign_Tuple_swapped ?_ rfl h1
 refine wpAny_Tuple_spliced (evs_ok D S e (OK.bind (k := fun vs σ => rQ (storeNs f ns.reverse vs.reverse σ)) H fun vs σ₁ hev Y s₁ us hy hr hu H => ?_))
 refine aQ (fun σ₃ h4 q => ?_) (H.next)
 have hl : vs.length = ns.length := (evs_len hev).trans h2
 have hl' : us.length = ns.length := hu.len ▸ hl
 have hn3 : ns.length ≤ 3 := by
  revert hs; refine oB fun ns' _ hs => ?_
  revert hs; refine iF fun hc hs => ?_
  rw [← hs]
  exact (apart_ok (aL (aL hc))).1.elim (fun z => Nat.le_trans (Nat.le_of_eq z) (by decide)) fun z => Nat.le_of_eq z
 refine ⟨by rw [hl']; exact Nat.le_trans hn3 (by decide), ?_⟩
 have ht : ∀ h : Heap, (h.push { cls := .type "tuple", data := .seq us.toArray }).IsTuple h.objs.size us.toArray := fun h => ⟨_, Heap.get?_push_size _ rfl, rfl, 0, rfl⟩
 have hsz : ns.length = us.toArray.size := by simp [hl']
 rw [hsz]
 refine wpAny_unpackItems_tuple S.a.hand (s := { s₁ with heap := s₁.heap.push { cls := .type "tuple", data := .seq us.toArray } }) (ht _) fun h' hx => ?_
 have R' : Rel P w Y σ₁ { s₁ with heap := h' } := hr.keeps fun b o eb => ext_keeps hx _ _ (Heap.get?_push_of_some _ eb)
 have := storeNs_ok (E := E) (n := n) (A := A) (Q := fun _ => Q .next) (e.mono hy) _ (((S.next hy hr).rel' R')) h4 hu.rev fun s' hr' => q s' hr'
 simpa using this
theorem notLoc_no (e : bQ l X f env) {line : Nat} {t : PySem.Expr} {y : Str} (hq : nmF env line t = some y) : notLoc f t = false := by
 cases t with
 | Name x p =>
  change (if (env.kindOf x == some .local && p.line == line) = true then some x else none) = some y at hq
  show sJ (wQ f.scope x) isCelN = false
  rw [← e.kindOf x]
  refine bE (env.kindOf x == some .local) (fun hb => ?_) (fun hb => ?_)
  ·rw [hb] at hq; exact nos hq
  ·rw [eq_of_beq hb]; rfl
 | _ => exact nos hq
theorem notLoc_len (e : bQ l X f env) {line : Nat} (ts : List PySem.Expr) : (ts.filterMap (nmF env line)).length ≤ ts.length ∧ (ts.any (notLoc f) = true → (ts.filterMap (nmF env line)).length < ts.length) := by
 induction ts with
 | nil => exact ⟨Nat.le_refl _, fun h => Bool.noConfusion h⟩
 | cons t ts ih =>
  rw [List.filterMap_cons, List.any_cons]
  refine gE (nmF env line t) (fun hq => ?_) (fun y hq => ?_)
  ·exact ⟨Nat.le_succ_of_le ih.1, fun _ => Nat.lt_succ_of_le ih.1⟩
  ·
   refine ⟨Nat.succ_le_succ ih.1, fun h => Nat.succ_lt_succ (ih.2 ?_)⟩
   rwa [notLoc_no e hq, Bool.false_or] at h
theorem st_fwd (D : Snd P w g K T n r) (S : Sit P w g K T n l A X σ s) (e : bQ l X f env) {ts es : List PySem.Expr} {k k' : Nat} {p p' pos : Pos} (hs : ts.any (notLoc f) = true) (hl : Nat.ble es.length 100 = true) {Q : Flow → Shared → Prop}
  (H : OK P w g l X RFl Q E ((evs r f es σ).bind fun vs σ => rQ (bindNs f ts vs σ))) :
  wpAny (model P w) A (exec (.Assign [.Tuple ts k p] (.Tuple es k' p') pos) env) Q E s := by
 have hw : swappedStores [.Tuple ts k p] (.Tuple es k' p') env = pure none := by
  show (if (!(ts.length == 2 || ts.length == 3) || es.length != ts.length || env.blockKind != .function) = true then (pure none : Sem (Option (List Str))) else
    if es.any isStarred = true then pure none else
    if ((ts.filterMap (nmF env ((ts.head?.map (·.pos.line)).getD 0))).length != ts.length || (ts.filterMap (nmF env ((ts.head?.map (·.pos.line)).getD 0))).eraseDups.length != (ts.filterMap (nmF env ((ts.head?.map (·.pos.line)).getD 0))).length) = true then pure none else _) = _
  have := (notLoc_len e (line := (ts.head?.map (·.pos.line)).getD 0) ts).2 hs
  have h1 : ((ts.filterMap (nmF env ((ts.head?.map (·.pos.line)).getD 0))).length != ts.length) = true := by
   simp only [bne_iff_ne, ne_eq]; omega
  rw [h1, Bool.true_or]
  split
  ·rfl
  ·split <;> rfl
 refine Assign_Tuple ?_ rfl hw
 refine wpAny_Tuple_spliced (evs_ok D S e (OK.bind (k := fun vs σ => rQ (bindNs f ts vs σ)) H fun vs σ₁ hev Y s₁ us hy hr hu H => ?_))
 refine aQ (fun σ₃ h4 q => ?_) (H.next)
 have hvl : us.length ≤ 100 := by rw [← hu.len, evs_len hev]; exact nL hl
 refine ⟨Nat.le_trans hvl (by decide), ?_⟩
 have ht : ∀ h : Heap, (h.push { cls := .type "tuple", data := .seq us.toArray }).IsTuple h.objs.size us.toArray := fun h => ⟨_, Heap.get?_push_size _ rfl, rfl, 0, rfl⟩
 have hsh := bindNs_shape (env := env) _ h4
 refine wpAny_assign_Tuple S.a.hand (s := { s₁ with heap := s₁.heap.push { cls := .type "tuple", data := .seq us.toArray } }) (ht _) (by rw [hsh.1, hu.len]; simp) hsh.2 fun h' hx => ?_
 have R' : Rel P w Y σ₁ { s₁ with heap := h' } := hr.keeps fun b o eb => ext_keeps hx _ _ (Heap.get?_push_of_some _ eb)
 have := bindNs_ok (E := E) (n := n) (A := A) (Q := fun _ => Q .next) (e.mono hy) _ ((S.next hy hr).rel' R') h4 hu fun s' hr' => q s' hr'
 simpa using this
theorem noSwap_tup {ts : List PySem.Expr} {k : Nat} {p : Pos} {x : PySem.Expr} (h : isTupE x = false) : swappedStores [.Tuple ts k p] x env = pure none := by
 cases x with
 | Tuple => exact Bool.noConfusion h
 | _ => rfl
theorem st_main (D : Snd P w g K T n r) (S : Sit P w g K T n l A X σ s) (e : bQ l X f env) {t x : PySem.Expr} {Q : Flow → Shared → Prop} (H : OK P w g l X RFl Q E ((r.ev f x σ).bind fun v σ => rQ (bindT g f t v σ))) :
  wpAny (model P w) A (eval x env) (fun v s₁ => wpAny (model P w) A (assign t env v) (fun _ => Q .next) E s₁) E s := by
 refine D.ev S e (OK.bind (k := fun v σ => rQ (bindT g f t v σ)) H fun v σ₁ _ Y s₁ u hy hr hu H => ?_)
 refine aQ (fun σ₃ h3 q => ?_) (H.next)
 exact bindT_ok (S.next hy hr) (e.mono hy) hu h3 fun s' hr' => q s' hr'
theorem st_name (D : Snd P w g K T n r) (S : Sit P w g K T n l A X σ s) (e : bQ l X f env) {t x : PySem.Expr} {pos : Pos} (hc : isComp x = false) (ht : tgtOk t x = true) {Q : Flow → Shared → Prop}
  (H : OK P w g l X RFl Q E ((r.ev f x σ).bind fun v σ => rQ (bindT g f t v σ))) :
  wpAny (model P w) A (exec (.Assign [t] x pos) env) Q E s := by
 have main := st_main D S e H
 clear H
 revert main
 cases t with
 | Name y p => exact fun main => wpAny_Assign_stores main (noComp_swap (env := env) hc (some (.Name y p)) pos.line) rfl
 | Tuple ts k p => exact fun main => Assign_Tuple main (noComp_swap (env := env) hc (some (.Tuple ts k p)) pos.line) (noSwap_tup ((Bool.not_eq_true' _).mp ht))
 | _ => exact Bool.noConfusion ht
theorem exs_of (hex : ∀ {st : Stmt} {X : Wl} {σ : St} {s : Shared} {Q : Flow → Shared → Prop}, Sit P w g K T n l A X σ s → bQ l X f env → OK P w g l X RFl Q E (ex1 g r f st σ) → wpAny (model P w) A (exec st env) Q E s) :
  ∀ (b : List Stmt) {X : Wl} {σ : St} {s : Shared} {Q : Flow → Shared → Prop}, Sit P w g K T n l A X σ s → bQ l X f env → OK P w g l X RFl Q E (exs1 g r f b σ) → wpAny (model P w) A (execs b env) Q E s := by
 intro b
 induction b with
 | nil => intro X σ s Q S e H; exact wpAny_execs_nil (OK.here H S.rel rfl)
 | cons st b ih =>
  intro X σ s Q S e H
  unfold exs1 at H
  refine wpAny_execs_cons (hex S e (OK.bind (k := fun q σ => match q with | .next => exs1 g r f b σ | q => .ok q σ) H fun q σ₁ _ Y s₁ u hy hr hu H => ?_))
  cases q with
  | next => cases hu; exact ih (S.next hy hr) (e.mono hy) H
  | ret v =>
   revert hu; refine aQ fun u' q1 hv => ?_; subst q1
   exact OK.here H hr ⟨u', rfl, hv⟩
end
end
section
variable [Tau]
section
variable {prog : Program} {w : World} {A : Around} {E : Value → Shared → Prop} {s : Shared}
theorem letGo_no {target : PySem.Expr} {I : Addr} {ob : Obj} {nm : String} {vs : Array Value} {v : Value} {Q : Unit → Shared → Prop} (ho : s.heap.get? I = some ob) (hc : ob.cls = .type nm) (hd : ob.data = .fields vs)
  (hn : ["enumerate", "zip", "dict_itemiterator", "dict_reverseitemiterator", "odict_iterator", "itertools.zip_longest", "itertools.pairwise"].contains nm = false) (h : Q () s) :
  wpAny (model prog w) A (letOwnedTupleGo target (.ref I) v) Q E s := by
 unfold letOwnedTupleGo
 cases target <;> first
  | exact wpAny_pure h
  | (cases v <;> first
    | exact wpAny_pure h
    | (refine wpAny_bind (wpAny_load ho ?_); rw [hc, hd]; dsimp only; rw [hn, Bool.false_and]; exact wpAny_pure h))
end
section
variable {P : Program} {w : World} {g : Cx} {K : Frag} {T : List Addr} {n : Nat} {r : Rc} {l : List Env} {A : Around} {X Y : Wl} {σ σ' : St} {s s' : Shared} {f : Fr} {env : Env} {E : Value → Shared → Prop} {F : Cx}
noncomputable abbrev RN : Wl → Nat → Value → Prop := fun Y c u => VR Y.ρ (.new c) u
theorem newN_ok {o : O} {ob : Obj} {Q : Value → Shared → Prop} (hz : σ.size < 4096) (H : OK P w F l X RN Q E (.ok σ.size (σ.pushF o))) (R : Rel P w X σ s) (hd : pQ P w (X.add s.heap.objs.size) ob o) (hf : autoParam (ob.isFreed = false) Mine.rf) (hh : autoParam (s'.heap = s.heap.push ob) Mine.rf)
  (hg : autoParam (s'.gens = s.gens) Mine.rf) (ho : autoParam (s'.os = s.os) Mine.rf) (hro : autoParam (∀ o', o ≠ .ro o') Mine.nk) : Q (.ref s.heap.objs.size) s' := by
 refine H (X.add s.heap.objs.size) _ _ (X.le_add _) ?_ ⟨_, Wl.add_get R.len, rfl⟩
 rw [St.pushF_eq]
 exact R.alloc hz (Heap.get?_none_of_le (Nat.le_refl _)) (fun b o' e => by rw [hh]; exact Heap.get?_push_of_some _ e) (by rw [hh]; exact Heap.get?_push_size _ hf) hd hg ho hro
theorem range_small {k : Nat} (h : k < 1000000) : Builtin.Range.small 0 k 1 = true ∧ Builtin.Range.rangeSize 0 k 1 = k := by
 have h2 : Builtin.Range.rangeSize 0 k 1 = k := by
  unfold Builtin.Range.rangeSize
  simp
  omega
 refine ⟨?_, h2⟩
 unfold Builtin.Range.small
 rw [h2]
 simp [Builtin.Range.rangeFitsLong]
 omega
theorem iter_ok (S : Sit P w g K T n l A X σ s) {v : V} {u : Value} (hv : VR X.ρ v u) {Q : Value → Shared → Prop} (H : OK P w F l X RN Q E (iterOf g σ v)) : wpAny (model P w) A (pyIter u) Q E s := by
 unfold iterOf at H
 refine jZ (vQ g σ v) (fun p hx => ?_) (fun hx => ?_)
 ·
  rw [hx] at H
  obtain ⟨lb, xs⟩ := p
  refine xpp (fun hz H => ?_) (OK.bif H)
  refine xQ (fun a us m q1 ho hr => ?_) (uJ S hx hv); subst q1
  cases lb with
  | true => exact wpAny_pyIter_list (eQ ho) (newN_ok (ob := { cls := .type "list_iterator", data := .fields #[.ref a, .int 0 0] }) (bI.mp hz) H S.rel ⟨a, hv.mono (X.le_add _).r, rfl, rfl⟩)
  | false => exact wpAny_pyIter_tuple (gQ ho) (newN_ok (ob := { cls := .type "tuple_iterator", data := .fields #[.ref a, .int 0 0] }) (bI.mp hz) H S.rel ⟨a, hv.mono (X.le_add _).r, rfl, rfl⟩)
 ·
  rw [hx] at H
  cases v with
  | new k =>
   revert hv; refine aQ fun a ha q1 => ?_; subst q1
   change OK P w F l X RN Q E (iterO σ k (σ.get k)) at H
   refine oE (σ.get k) (fun hk => ?_) (fun o hk => ?_)
   ·rw [hk] at H; exact False.elim H
   ·
    rw [hk] at H
    cases o with
    | rng z =>
     refine xpp (fun hz H => ?_) (OK.bif H)
     refine xvpvvvr0 (fun t u v ho => ?_) (S.rel.at hk ha)
     refine xpp (fun e1 e2 => ?_) (range_small (bI.mp (aR hz)))
     refine wpAny_pyIter_range ho e1 ?_
     rw [e2]
     exact newN_ok (bI.mp (aL hz)) H S.rel rfl
    | enm j i =>
     refine xvpvvdr0 (fun it old ho => ?_) (S.rel.at hk ha)
     exact wpAny_pyIter_enum ho (OK.here H S.rel ⟨a, ha, rfl⟩)
    | _ => exact False.elim H
  | _ => exact False.elim H
theorem iterEnd {P : Program} {w : World} {A : Around} {E : Value → Shared → Prop} {s : Shared} {it a : Addr} {lb : Bool} {i : Nat} {us : Array Value} {m : Nat} {ob : Obj} {Q : Option Value → Shared → Prop} (hh : A.handled = none) (ho : s.heap.get? it = some ob) (hc : ob.cls = .type (bif lb then "list_iterator" else "tuple_iterator")) (hd : ob.data = .fields #[.ref a, .int i 0])
  (hs : s.heap.get? a = some (eZ lb us m)) (hx : us[i]? = none) (q : ∀ h', Heap.ExtBut it s.heap h' → Q none { s with heap := h' }) : wpAny (model P w) A (pyNext (.ref it)) Q E s := by
 cases lb with
 | true => exact wpAny_pyNext_list_end hh ⟨ob, ho, hc, hd⟩ (eQ hs) hx q
 | false => exact wpAny_pyNext_tuple_end hh ⟨ob, ho, hc, hd⟩ (gQ hs) hx q
theorem Rel.notFr (R : Rel P w X σ s) {k : Nat} {o : O} (e : σ.get k = some o) (h : ∀ m, o ≠ .ns m) : k ∉ X.fr := fun hk => by
 refine xvp (fun m hm => ?_) (R.frs k hk)
 rw [e] at hm
 injection hm with q1; clear e; subst q1
 exact h m rfl
theorem not_get {α : Type} {us : Array α} {xs : List V} {i : Nat} (hl : us.size = xs.length) (h : xs[i]? = none) : us[i]? = none := by
 rw [List.getElem?_eq_none_iff] at h
 exact Array.getElem?_eq_none (by omega)
inductive NextI (g : Cx) (t : PySem.Expr) (σ : St) (n : Nat) : Option V → St → Prop
 | item (l : Bool) (v : V) (i : Nat) (xs : List V) (x : V) (h : σ.get n = some (.iter l v i)) (h1 : vQ g σ v = some (l, xs)) (h2 : xs[i]? = some x) : NextI g t σ n (some x) (σ.set n (.iter l v (i + 1)))
 | fin (l : Bool) (v : V) (i : Nat) (xs : List V) (h : σ.get n = some (.iter l v i)) (h1 : vQ g σ v = some (l, xs)) (h2 : xs[i]? = none) : NextI g t σ n none (σ.set n .junk)
 | rng (i k : Nat) (h : σ.get n = some (.rit i (k + 1))) : NextI g t σ n (some (.int i)) (σ.set n (.rit (i + 1) k))
 | rng0 (i : Nat) (h : σ.get n = some (.rit i 0)) : NextI g t σ n none (σ.set n .junk)
 | enm (j i : Nat) (v : V) (xs : List V) (x : V) (h : σ.get n = some (.enm j i)) (hj : j ≠ n) (ht : isTupE t = true) (h0 : σ.get j = some (.iter true v i)) (h1 : vQ g σ v = some (true, xs)) (h2 : xs[i]? = some x) (hz : σ.size < 4096) : NextI g t σ n (some (.new σ.size)) (((σ.set j (.iter true v (i + 1))).set n (.enm j (i + 1))).push (.tup [.int i, x]))
 | enm0 (j i : Nat) (v : V) (xs : List V) (h : σ.get n = some (.enm j i)) (hj : j ≠ n) (h0 : σ.get j = some (.iter true v i)) (h1 : vQ g σ v = some (true, xs)) (h2 : xs[i]? = none) : NextI g t σ n none ((σ.set j .junk).set n .junk)
theorem nextIt_i {g : Cx} {t : PySem.Expr} {σ σ' : St} {n i : Nat} {l : Bool} {v : V} {o : Option V} (hn : σ.get n = some (.iter l v i)) (h : nextIt σ n l v i (vQ g σ v) = .ok o σ') : NextI g t σ n o σ' := by
 refine oE (vQ g σ v) (fun hx => ?_) (fun p hx => ?_)
 ·rw [hx] at h; exact rst h
 ·
  rw [hx] at h
  obtain ⟨l', xs⟩ := p
  refine xpp (fun hl h => ?_) (rbif h)
  have hl := eq_of_beq hl
  subst hl
  change nextAt σ n l v i xs[i]? = .ok o σ' at h
  refine oE (xs[i]?) (fun h2 => ?_) (fun x h2 => ?_)
  ·rw [h2] at h; injection h with q1 q2; subst q1; subst q2; rw [St.setF_eq]; exact .fin l v i xs hn hx h2
  ·rw [h2] at h; injection h with q1 q2; clear h; subst q1; subst q2; rw [St.setF_eq]; exact .item l v i xs x hn hx h2
theorem nextEn_i {g : Cx} {t : PySem.Expr} {σ σ' : St} {n i j : Nat} {o : Option V} (hn : σ.get n = some (.enm j i)) (hj : j ≠ n) (ht : isTupE t = true) (h : nextEn g σ n j i (σ.get j) = .ok o σ') : NextI g t σ n o σ' := by
 refine oE (σ.get j) (fun h0 => ?_) (fun x h0 => ?_)
 ·rw [h0] at h; exact rst h
 ·cases x with
  | iter l v i' =>
   rw [h0] at h
   have hl := (rbif h).1
   replace h := (rbif h).2
   have hl1 := aL hl
   subst hl1
   have hi := nE (aR hl)
   clear hl; subst hi
   refine oE (vQ g σ v) (fun hx => ?_) (fun p hx => ?_)
   ·rw [hx] at h; exact rst h
   ·
    rw [hx] at h
    obtain ⟨l', xs⟩ := p
    have hl' : l' = true := (rbif h).1
    replace h := (rbif h).2
    subst hl'
    change nextEnAt σ n j i v xs[i]? = .ok o σ' at h
    refine oE (xs[i]?) (fun h2 => ?_) (fun x h2 => ?_)
    ·rw [h2] at h; injection h with q1 q2; subst q1; subst q2; rw [St.setF_eq, St.setF_eq]; exact .enm0 j i v xs hn hj h0 hx h2
    ·
     rw [h2] at h
     have hz := (rbif h).1
     replace h := (rbif h).2
     injection h with q1 q2; subst q1; subst q2
     rw [St.setF_eq, St.setF_eq, St.pushF_eq]
     exact .enm j i v xs x hn hj ht h0 hx h2 (bI.mp hz)
  | _ => rw [h0] at h; exact rst h
theorem nextI {g : Cx} {t : PySem.Expr} {σ σ' : St} {n : Nat} {o : Option V} (h : fZ g t σ n = .ok o σ') : NextI g t σ n o σ' := by
 unfold fZ at h
 cases hn : σ.get n with
 | none => rw [hn] at h; exact rst h
 | some x =>
  rw [hn] at h
  cases x with
  | iter l v i => exact nextIt_i hn h
  | rit i k => cases k with
   | zero => cases h; rw [St.setF_eq]; exact .rng0 i hn
   | succ k => cases h; rw [St.setF_eq]; exact .rng i k hn
  | enm j i =>
   obtain ⟨hc, h⟩ := rbif' h
   obtain ⟨h1, h2⟩ := Bool.or_eq_false_iff.mp hc
   exact nextEn_i hn (fun q => by rw [q, Nat.beq_refl] at h1; cases h1) (eq_true_of_ne_false fun (ht : isTupE t = false) => by rw [ht] at h2; injection h2) h
  | _ => exact rst h
theorem Rel.set2 {n m : Nat} {a b : Addr} {ob ob' ob₀ : Obj} {o o' o₁ o₂ : O} (R : Rel P w X σ s) (e₁ : σ.get n = some o₁) (e₂ : σ.get m = some o₂) (hnm : n ≠ m) (ea : X.ρ[n]? = some a) (eb : X.ρ[m]? = some b) (h0 : s.heap.get? b = some ob₀) (hf : ob₀.isFreed = false) (hne : a ≠ b) (hs : ∀ c, c ≠ a → c ≠ b → ∀ o, s.heap.get? c = some o → s'.heap.get? c = some o) (ha : s'.heap.get? a = some ob) (hb : s'.heap.get? b = some ob') (hd : pQ P w X ob o) (hd' : pQ P w X ob' o')
  (hn : ∀ m, o₁ ≠ .ns m) (hn' : ∀ m, o₂ ≠ .ns m) (hj : o₁.mut = true) (hj' : o₂.mut = true) (hro : ∀ z, o ≠ .ro z) (hro' : ∀ z, o' ≠ .ro z) (hg : autoParam (s'.gens = s.gens) Mine.rf) (hos : autoParam (s'.os = s.os) Mine.rf) : Rel P w X ((σ.set n o).set m o') s' := by
 have hu : ∀ c, c ≠ b → (s'.heap.update b fun _ => ob₀).get? c = s'.heap.get? c := fun c hc => Heap.get?_update_ne _ _ _ _ hc
 have hself : (s'.heap.update b fun _ => ob₀).get? b = some ob₀ := Heap.get?_update_self _ hb hf
 have R1 : Rel P w X (σ.set n o) { s' with heap := s'.heap.update b fun _ => ob₀ } := by
  refine R.set e₁ ea (fun c hc x hx => ?_) ((hu a hne).trans ha) hd (fun m q => (hn m q).elim) hj hg hos hro
  show (s'.heap.update b fun _ => ob₀).get? c = some x
  by_cases q : c = b
  ·clear hne; subst q; rw [h0] at hx; injection hx with q1; subst q1; exact hself
  ·rw [hu c q]; exact hs c hc q x hx
 refine R1.set (s' := s') (o₀ := o₂) (by rw [St.get_set (St.get_lt e₁) R.room, if_neg (Ne.symm hnm)]; exact e₂) eb (fun c hc x hx => ?_) hb hd' (fun m q => (hn' m q).elim) hj' rfl rfl hro'
 have hx : (s'.heap.update b fun _ => ob₀).get? c = some x := hx
 rwa [hu c hc] at hx
theorem next_ok (S : Sit P w g K T n l A X σ s) {t : PySem.Expr} {c : Nat} {a : Addr} (ha : X.ρ[c]? = some a) {o : Option V} (h : fZ g t σ c = .ok o σ') {Q : Option Value → Shared → Prop}
  (q0 : o = none → ∀ s', Rel P w X σ' s' → Q none s')
  (q1 : ∀ x, o = some x → ∀ s₁ u, (∀ (Q₁ : Unit → Shared → Prop) (E₁ : Value → Shared → Prop), (∀ Y s₂, X.Le Y → Rel P w Y σ' s₂ → VR Y.ρ x u → Q₁ () s₂) → wpAny (model P w) A (letOwnedTupleGo t (.ref a) u) Q₁ E₁ s₁) → Q (some u) s₁) :
  wpAny (model P w) A (pyNext (.ref a)) Q E s := by
 have hN := nextI h
 clear h
 induction hN with
 | item lb v i xs x hc hx hxi =>
  refine xvpvppp (fun ob ho b hv hcl hda => ?_) (S.rel.at hc ha)
  refine xQ (fun b' us m hb hsq hr => ?_) (uJ S hx hv)
  injection hb with q2; subst q2
  refine aQ (fun u hu hvu => ?_) (hr.get hxi)
  have hu' : us[i]? = some u := by rw [← Array.getElem?_toList]; exact hu
  have fin : ∀ (h' : Heap) (ob' : Obj), h'.get? a = some ob' → ob'.cls = .type (bif lb then "list_iterator" else "tuple_iterator") → ob'.data = .fields #[.ref b, .int ((i + 1 : Nat) : Int) 0] → Heap.SameBut a s.heap h' → Q (some u) { s with heap := h' } := fun h' ob' k1 k2 k3 k4 => by
   refine q1 x rfl _ u fun Q₁ E₁ hq => ?_
   exact letGo_no (s := { s with heap := h' }) k1 k2 k3 (by cases lb <;> decide) (hq X _ (.refl X) (S.rel.set hc ha (qQ k4) k1 ⟨b, hv, k2, k3⟩ (fun _ h => by injection h)) hvu)
  cases lb with
  | true => exact wpAny_pyNext_list_item ⟨ob, ho, hcl, hda⟩ (eQ hsq) hu' fun h' ⟨o', k1, k2, k3⟩ k4 => fin h' o' k1 k2 k3 k4
  | false => exact wpAny_pyNext_tuple_item ⟨ob, ho, hcl, hda⟩ (gQ hsq) hu' fun h' ⟨o', k1, k2, k3⟩ k4 => fin h' o' k1 k2 k3 k4
 | fin lb v i xs hc hx hxi =>
  refine xvpvppp (fun ob ho b hv hcl hda => ?_) (S.rel.at hc ha)
  refine xQ (fun b' us m hb hsq hr => ?_) (uJ S hx hv)
  injection hb with q2; subst q2
  exact iterEnd S.a.hand ho hcl hda hsq (not_get (seqL hr) hxi) fun h' hx' => q0 rfl _ (S.rel.kill hc ha (fun b hb o e => hx' b o hb e) (S.rel.notFr hc (fun _ h => by injection h)))
 | rng i k hc =>
  refine aQ (fun ob ho q2 => ?_) (S.rel.at hc ha); subst q2
  refine wpAny_pyNext_range_item ho (by omega) fun h' k1 k2 => q1 _ rfl _ _ fun Q₁ E₁ hq => ?_
  refine letGo_no (s := { s with heap := h', toks := s.toks + 1 }) k1 rfl rfl (by decide) (hq X _ (.refl X) (S.rel.set hc ha (qQ k2) k1 ?_ (fun _ h => by injection h)) ⟨_, rfl⟩)
  have e1 : ((k + 1 : Nat) : Int) - 1 = k := by omega
  show ({ cls := .type "range_iterator", dict := none, data := .fields #[rawInt ((i + 1 : Nat) : Int), rawInt (((k + 1 : Nat) : Int) - 1), rawInt 1], slots := #[] } : Obj) = _
  rw [e1]
 | rng0 i hc =>
  refine aQ (fun ob ho q2 => ?_) (S.rel.at hc ha); subst q2
  exact wpAny_pyNext_range_end S.a.hand ho (by simp) fun h' hx' => q0 rfl _ (S.rel.kill hc ha (fun b hb o e => hx' b o hb e) (S.rel.notFr hc (fun _ h => by injection h)))
 | enm j i v xs x hc hjc ht hj hx hxi hz =>
  refine xvpvvpr0 (fun it old ho hit => ?_) (S.rel.at hc ha)
  refine xvpvppp (fun ob' ho' b hv hcl hda => ?_) (S.rel.at hj hit)
  refine xQ (fun b' us m hb hsq hr => ?_) (uJ S hx hv)
  injection hb with q2; subst q2
  have hne : a ≠ it := fun q => by subst q; exact hjc (S.rel.nodup c j _ _ a hc hj rfl (fun h => by injection h) ha hit).symm
  refine aQ (fun u hu hvu => ?_) (hr.get hxi)
  have hu' : us[i]? = some u := by rw [← Array.getElem?_toList]; exact hu
  refine wpAny_pyNext_enum_item ho ⟨ob', ho', hcl, hda⟩ (eQ hsq) hu' hne fun h' k1 k2 k3 k4 k5 => q1 _ rfl _ _ fun Q₁ E₁ hq => ?_
  have hT : ∃ elts k p, t = .Tuple elts k p := by cases t <;> first | exact ⟨_, _, _, rfl⟩ | exact Bool.noConfusion ht
  revert hT; refine xvvvp fun elts k p q2 => ?_; subst q2
  refine wpAny_letOwnedTupleGo_enum (s := { s with heap := h', toks := s.toks + 1 }) k1 fun h'' m1 m2 => ?_
  refine hq (X.add s.heap.objs.size) _ (X.le_add _) ?_ ⟨_, Wl.add_get S.rel.len, rfl⟩
  have m2' : ∀ b, b ≠ a → ∀ o, h'.get? b = some o → h''.get? b = some o := qQ m2
  revert k2; refine xvppp fun oit n1 n2 n3 => ?_
  have R1 : Rel P w X ((σ.set j (.iter true v (i + 1))).set c (.enm j (i + 1))) { s with heap := h'', toks := s.toks + 1 } :=
   S.rel.set2 (a := it) (b := a) hj hc hjc hit ha ho rfl (Ne.symm hne) (fun y hy1 hy2 o e => m2' y hy2 o (k5 y o hy2 hy1 e)) (m2' it (Ne.symm hne) _ n1) m1 ⟨b, hv, n2, n3⟩ ⟨it, u, hit, rfl⟩ (fun _ h => by injection h) (fun _ h => by injection h) rfl rfl (fun _ h => by injection h) (fun _ h => by injection h)
  have hnone : ∀ {o : Obj}, s.heap.get? s.heap.objs.size = some o → False := fun e => Nat.lt_irrefl _ (Heap.lt_size e)
  have hfree : ∀ (p : Nat) (o' : O), ((σ.set j (.iter true v (i + 1))).set c (.enm j (i + 1))).get p = some o' → o' ≠ .junk → X.ρ[p]? = some s.heap.objs.size → False := fun p o' e jk hp => by
   have hp' : p < σ.size := by have := St.get_lt e; rwa [St.size_set, St.size_set] at this
   refine oE (σ.get p) (fun ep => ?_) (fun o₁ ep => ?_)
   ·have := S.rel.all p hp'; rw [ep] at this; injection this
   ·
    by_cases hj1 : o₁ = .junk
    ·subst hj1
     rw [St.get_set (by rw [St.size_set]; exact St.get_lt hc) (by rw [St.size_set]; exact S.rel.room), if_neg (fun q => by clear hq q1; subst q; rw [hc] at ep; injection ep with q2; injection q2), St.get_set (St.get_lt hj) S.rel.room, if_neg (fun q => by clear hq q1; subst q; rw [hj] at ep; injection ep with q2; injection q2), ep] at e
     injection e with q2; subst q2; exact jk rfl
    ·refine xvpd (fun _ h1 => ?_) (S.rel.at ep hp hj1)
     exact hnone h1
  refine R1.alloc' (s' := { s with heap := h'', toks := s.toks + 1 }) (by rw [St.size_set, St.size_set]; exact hz) hfree ?_ (fun b o e => e) (m2' _ (fun q => hnone (q ▸ ho)) _ k3) ⟨_, _, rfl, ⟨_, rfl⟩, hvu.mono (X.le_add _).r, trivial⟩
  refine gE (X.B.get? s.heap.objs.size) (fun q => ?_) (fun x q => ?_)
  ·rfl
  ·exact (hnone (S.rel.keep _ x q)).elim
 | enm0 j i v xs hc hjc hj hx hxi =>
  refine xvpvvpr0 (fun it old ho hit => ?_) (S.rel.at hc ha)
  refine xvpvppp (fun ob' ho' b hv hcl hda => ?_) (S.rel.at hj hit)
  refine xQ (fun b' us m hb hsq hr => ?_) (uJ S hx hv)
  injection hb with q2; subst q2
  refine wpAny_pyNext_enum_end S.a.hand ho ⟨ob', ho', hcl, hda⟩ (eQ hsq) (not_get (seqL hr) hxi) fun h' hx' => q0 rfl _ ?_
  have R1 := S.rel.kill (s' := { s with heap := h' }) hj hit (fun b hb o e => hx' b o hb e) (S.rel.notFr hj (fun _ h => by injection h))
  have hc' : (σ.set j .junk).get c = some (.enm j i) := by rw [St.get_set (St.get_lt hj) S.rel.room, if_neg (Ne.symm hjc)]; exact hc
  exact R1.kill hc' ha (fun b hb o e => e) (R1.notFr hc' (fun _ h => by injection h))
end
end
section
variable [Tau]
section
variable {P : Program} {w : World} {g : Cx} {K : Frag} {T : List Addr} {n : Nat} {r : Rc} {l : List Env} {A : Around} {X Y : Wl} {σ σ' : St} {s s' : Shared} {f : Fr} {env : Env} {E : Value → Shared → Prop} {F : Cx}
theorem noSet_fold {it : PySem.Expr} (h : isSetE it = false) (x : Value) : foldedSetIterable it env x = pure x := by
 cases it <;> first | rfl | injection h
set_option tactic.hygienic true in
theorem loop_ok (D : Snd P w g K T n r) {t : PySem.Expr} {b : List Stmt} {c : Nat} {a : Addr} {k : Nat} (S : Sit P w g K T n l A X σ s) (e : bQ l X f env) (ha : X.ρ[c]? = some a) {Q : Flow → Shared → Prop} (H : OK P w g l X RFl Q E (loopN g r f t b c k σ))
  {R : Result → Shared → Prop} (hR : ∀ f s', Q f s' → R (.ok f) s') : codeAny (model P w) A (.forLoop t (.ref a) b [] env) R s := by
 refine codeAny_forLoop_any (fun k s => ∃ X σ, Sit P w g K T n l A X σ s ∧ bQ l X f env ∧ X.ρ[c]? = some a ∧ OK P w g l X RFl Q E (loopN g r f t b c k σ)) (fun k s ⟨X, σ, S, e, ha, H⟩ => ?_) k ⟨X, σ, S, e, ha, H⟩
 cases k with
 | zero => exact H.elim
 | succ k =>
  unfold loopN at H
  cases hn : fZ g t σ c with
  | stop => rw [hn] at H; exact H.elim
  | exc => rw [hn] at H; exact H.elim
  | ok o σ₁ =>
   rw [hn] at H
   refine next_ok S ha hn (fun h0 s' hr => ?_) fun x h1 s₁ u hgo => ?_
   ·clear hn; subst h0
    exact wpAny_execs_nil (hR _ _ (OK.here H hr rfl))
   ·clear hn; subst h1
    dsimp only at H
    refine hgo _ _ fun Y s₂ hy hr hu => ?_
    split at H
    ·exact H.elim
    ·rename_i σ₂ hb
     refine bindT_ok (S.next hy hr) (e.mono hy) hu hb fun s₃ hr₃ => ?_
     have S₃ := (S.next hy hr).rel' hr₃
     refine D.exs S₃ (e.mono hy) ?_
     cases hx : r.exs f b σ₂ with
     | stop => rw [hx] at H; exact H.elim
     | exc => rw [hx] at H; exact H.elim
     | ok q σ₃ =>
      rw [hx] at H
      cases q with
      | next =>
       intro Z s₄ u hz hr₄ hu
       cases hu
       exact ⟨k, Nat.lt_succ_self k, Z, σ₃, S₃.next hz hr₄, (e.mono hy).mono hz, pG (hy.trans hz).r ha, OK.mono (hy.trans hz) H⟩
      | ret v =>
       intro Z s₄ u hz hr₄ hu
       revert hu; refine aQ fun u' q1 hv => ?_; subst q1
       exact hR _ _ (H Z s₄ _ (hy.trans hz) hr₄ ⟨u', rfl, hv⟩)
theorem st_for (D : Snd P w g K T n r) (S : Sit P w g K T n l A X σ s) (e : bQ l X f env) {t it : PySem.Expr} {b : List Stmt} {pos : Pos} (hs : isSetE it = false) {Q : Flow → Shared → Prop}
  (H : OK P w g l X RFl Q E ((r.ev f it σ).bind fun iv σ => (iterOf g σ iv).bind fun c σ => loopN g r f t b c 64 σ)) :
  wpAny (model P w) A (exec (.For t it b [] pos) env) Q E s := by
 refine wpAny_For (D.ev S e (OK.bind (k := fun iv σ => (iterOf g σ iv).bind fun c σ => loopN g r f t b c 64 σ) H fun iv σ₁ _ Y s₁ u hy hr hu H => ?_)) (noSet_fold hs)
 have S₁ := S.next hy hr
 refine iter_ok S₁ hu (OK.bind (k := fun c σ => loopN g r f t b c 64 σ) H fun c σ₂ _ Z s₂ u' hz hr₂ hc H => ?_)
 revert hc; refine aQ fun a ha q1 => ?_; subst q1
 exact loop_ok D (S₁.next hz hr₂) ((e.mono hy).mono hz) ha H fun f s' q => q
theorem st_while (D : Snd P w g K T n r) (S : Sit P w g K T n l A X σ s) (e : bQ l X f env) {t : PySem.Expr} {b : List Stmt} {pos : Pos} {Q : Flow → Shared → Prop}
  (H : OK P w g l X RFl Q E (whlN r f t b 64 σ)) : wpAny (model P w) A (exec (.While t b [] pos) env) Q E s := by
 refine wpAny_While ?_
 refine codeAny_whileLoop (fun k s => ∃ X σ, Sit P w g K T n l A X σ s ∧ bQ l X f env ∧ OK P w g l X RFl Q E (whlN r f t b k σ)) (fun k s ⟨X, σ, S, e, H⟩ => ?_) 64 ⟨X, σ, S, e, H⟩
 cases k with
 | zero => exact H.elim
 | succ k =>
  unfold whlN at H
  refine D.tst S e ?_
  cases ht : r.tst f t σ with
  | stop => rw [ht] at H; exact H.elim
  | exc => rw [ht] at H; exact H.elim
  | ok c σ₁ =>
   rw [ht] at H
   intro Y s₁ u hy hr hu
   subst hu
   have S₁ := S.next hy hr
   cases c with
   | false => exact wpAny_execs_nil (H Y s₁ .next hy hr rfl)
   | true =>
    dsimp only at H
    refine D.exs S₁ (e.mono hy) ?_
    cases hx : r.exs f b σ₁ with
    | stop => rw [hx] at H; exact H.elim
    | exc => rw [hx] at H; exact H.elim
    | ok q σ₃ =>
     rw [hx] at H
     cases q with
     | next =>
      intro Z s₄ u hz hr₄ hu
      cases hu
      exact ⟨k, Nat.lt_succ_self k, Z, σ₃, S₁.next hz hr₄, (e.mono hy).mono hz, OK.mono (hy.trans hz) H⟩
     | ret v =>
      intro Z s₄ u hz hr₄ hu
      revert hu; refine aQ fun u' q1 hv => ?_; subst q1
      exact H Z s₄ _ (hy.trans hz) hr₄ ⟨u', rfl, hv⟩
end
end
section
variable [Tau]
noncomputable def cfBody (env : Env) (x : Str × NameKind) (cs : List (Str × Addr)) : Sem (ForInStep (List (Str × Addr))) :=
 if (x.2 == .free) = true then (do let a ← cellOf env x.1; pure (.yield ((x.1, a) :: cs))) else pure (.yield cs)
theorem closureFor_def (scope : Scope) (env : Env) : closureFor scope env = forIn scope.names [] (cfBody env) := by
 unfold closureFor
 refine (bind_pure (m := Sem) _).trans ?_
 congr 1
section
variable {P : Program} {w : World} {g : Cx} {K : Frag} {T : List Addr} {n : Nat} {r : Rc} {l : List Env} {A : Around} {X Y : Wl} {σ σ' : St} {s s' : Shared} {f : Fr} {env : Env} {E : Value → Shared → Prop} {F : Cx}
set_option tactic.hygienic true in
theorem closure_go (e : bQ l X f env) : ∀ (names : List (Str × NameKind)) {acc cl : List (Str × Nat)} {acc' : List (Str × Addr)}, closure f names acc = some cl → fJ X.ρ acc acc' → ∃ cl', forIn names acc' (cfBody env) = (pure cl' : Sem _) ∧ fJ X.ρ cl cl' := by
 intro names
 induction names with
 | nil => intro acc cl acc' h hc; injection h with q1; subst q1; exact ⟨acc', rfl, hc⟩
 | cons x names ih =>
  intro acc cl acc' h hc
  obtain ⟨x, k⟩ := x
  unfold closure at h
  split at h
  ·rename_i q; injection q
  ·rename_i x' l' q
   injection q with q1 q2; injection q1 with q3 q4; subst q3; subst q4; subst q2
   split at h
   ·rename_i c hcx
    refine aQ (fun a h1 h2 => ?_) (e.cells.get hcx)
    refine aQ (fun cl' h3 h4 => ?_) (ih h (acc' := (x, a) :: acc') ⟨rfl, h2, hc⟩)
    refine ⟨cl', ?_, h4⟩
    rw [List.forIn_cons]
    have : cfBody env (x, .free) acc' = pure (.yield ((x, a) :: acc')) := by
     show (do let a ← cellOf env x; pure (ForInStep.yield ((x, a) :: acc')) : Sem _) = _
     unfold cellOf
     rw [h1, pure_bind]
    rw [this, pure_bind]
    exact h3
   ·injection h
  ·rename_i x' l' hne q
   injection q with q1 q2; subst q1; subst q2
   refine aQ (fun cl' h3 h4 => ?_) (ih h hc)
   refine ⟨cl', ?_, h4⟩
   rw [List.forIn_cons]
   have : cfBody env (x, k) acc' = pure (.yield acc') := by
    unfold cfBody
    rw [if_neg]
    intro z
    have z' : k = .free := eq_of_beq z
    exact hne x (by rw [z'])
   rw [this, pure_bind]
   exact h3
theorem closure_ok (e : bQ l X f env) {sc : Scope} {cl : List (Str × Nat)} (h : closure f sc.names [] = some cl) : ∃ cl', closureFor sc env = pure cl' ∧ fJ X.ρ cl cl' := by
 rw [closureFor_def]
 exact closure_go e sc.names h trivial
end
end
section
variable [Tau]
section
variable {P : Program} {w : World} {g : Cx} {K : Frag} {T : List Addr} {n : Nat} {r : Rc} {l : List Env} {A : Around} {X Y : Wl} {σ σ' : St} {s s' : Shared} {f : Fr} {env : Env} {E : Value → Shared → Prop} {F : Cx}
theorem Rel.slots {h' : Heap} {B : Heap} (R : Rel P w X σ s) (hc : Cov X σ s B) (hXB : X.B.StaysIn B) (hB : B.StaysIn h') (hs : s.heap.UpToSlots h') : Rel P w X σ { s with heap := h' } := by
 refine ⟨fun b o e => hB b o (hXB b o e), R.fresh, R.nodup, R.len, R.room, fun k o e j => ?_, R.all, R.frs, R.gens, R.os, R.sys⟩
 refine oQ (fun a ob h1 h2 h3 => ?_) (R.objs k o e j)
 by_cases hn : ∃ m, o = .ns m
 ·revert hn; refine xvp fun m q1 => ?_; subst q1
  revert h3; refine oQ fun es ep k1 k2 k3 => ?_
  refine xvp (fun sl hsl => ?_) (hs a ob h2 fun vs q => by rw [k1] at q; cases q)
  exact ⟨a, _, h1, hsl, es, ep, k1, k2, k3⟩
 ·exact ⟨a, ob, h1, hB a ob (hc k o e (fun m q => hn ⟨m, q⟩) j a ob h1 h2), h3⟩
theorem Cov.slots {h' : Heap} {B : Heap} (R : Rel P w X σ s) (hc : Cov X σ s B) (hB : B.StaysIn h') : Cov X σ { s with heap := h' } B := fun k o e hn j a ob' h1 h2 => by
 refine xvpd (fun ob h3 => ?_) (R.at e h1 j)
 have h4 := hc k o e hn j a ob h1 h3
 have h5 := hB a ob h4
 have : ob = ob' := Option.some.inj (h5.symm.trans h2)
 exact this ▸ h4
theorem noteFrame_congr {x : Value} {env env₀ : Env} (h : env.frame = env₀.frame) : PySem.noteFrame x env = PySem.noteFrame x env₀ := by
 unfold PySem.noteFrame PySem.frameOf
 rw [h]
theorem note_ok (S : Sit P w g K T n l A X σ s) (e : bQ l X f env) {x : Addr} (hx : ExcR F l X σ s x .fly) {Q : Unit → Shared → Prop} (q : ∀ s', Rel P w X σ s' → ExcR F l X σ s' x .held → Q () s') : wpAny (model P w) A (noteFrame (.ref x) env) Q E s := by
 refine xQ (fun env₀ outer L hl hf hfe => ?_) (e.frm)
 revert hx; refine xppvvppp fun hq hFr B a0 h1 h2 h3 => ?_
 rw [noteFrame_congr (hfe.trans hf.symm)]
 clear e; subst hl
 refine wpAny_looks_onW S.a.frames hf h3 fun h' hh hs => q _ (S.rel.slots h2 h1 hh.1 hs) ?_
 exact ⟨hq, hFr, B, a0, _, h1, h2.slots S.rel hh.1, hh.1, hh.2.1, hh.2.2.1, hh.2.2.2⟩
noncomputable abbrev RU : Wl → Unit → Unit → Prop := fun _ _ _ => True
theorem listSelf (S : Sit P w g K T n l A X σ s) {c : Nat} {a : Addr} (ha : X.ρ[c]? = some a) {o : Option V} {t : PySem.Expr} (h : ∃ o, fZ g t σ c = .ok o σ') {Q : Value → Shared → Prop} (q : Q (.ref a) s) : wpAny (model P w) A (pyIter (.ref a)) Q E s := by
 revert h; refine xvp fun o h => ?_
 have iter : ∀ {l : Bool} {v : V} {i : Nat}, σ.get c = some (.iter l v i) → wpAny (model P w) A (pyIter (.ref a)) Q E s := fun {l v i} hc => by
  refine xvpvppp (fun ob ho b hv hcl hda => ?_) (S.rel.at hc ha)
  cases l with
  | true => exact wpAny_pyIter_listiter ⟨ob, ho, hcl, hda⟩ q
  | false => exact wpAny_pyIter_tupleiter ⟨ob, ho, hcl, hda⟩ q
 have rng : ∀ {i k : Nat}, σ.get c = some (.rit i k) → wpAny (model P w) A (pyIter (.ref a)) Q E s := fun hc => by
  refine aQ (fun ob ho q1 => ?_) (S.rel.at hc ha); subst q1
  exact wpAny_pyIter_rangeiter ho q
 have enm : ∀ {j i : Nat}, σ.get c = some (.enm j i) → wpAny (model P w) A (pyIter (.ref a)) Q E s := fun hc => by
  refine xvpvvpr0 (fun it old ho hit => ?_) (S.rel.at hc ha)
  exact wpAny_pyIter_enum ho q
 cases nextI h with
 | item _ _ _ _ _ hc => exact iter hc
 | fin _ _ _ _ hc => exact iter hc
 | rng _ _ hc => exact rng hc
 | rng0 _ hc => exact rng hc
 | enm _ _ _ _ _ hc => exact enm hc
 | enm0 _ _ _ _ hc => exact enm hc
theorem tests_ok (D : Snd P w g K T n r) (S : Sit P w g K T n l A X σ s) (e : bQ l X f env) {c : PySem.Expr} {γ : Type} {δ : Type} {R' : Wl → γ → δ → Prop} {Q' : δ → Shared → Prop} {E' : Value → Shared → Prop} {k : Bool → St → Res γ}
  (H : OK P w g l X R' Q' E' ((compTest r f [c] σ).bind k)) {Q : Bool → Shared → Prop} (q : ∀ b σ₁ Y s₁, X.Le Y → Rel P w Y σ₁ s₁ → OK P w g l Y R' Q' E' (k b σ₁) → Q b s₁) : wpAny (model P w) A (PySem.isTrue c env (eval c env)) Q E s := by
 refine D.tst S e ?_
 have hu : compTest r f [c] σ = (match r.tst f c σ with | .ok b σ => .ok b σ | _ => .stop "raise in a test") := rfl
 rw [hu] at H
 cases ht : r.tst f c σ with
 | stop => rw [ht] at H; exact H.elim
 | exc => rw [ht] at H; exact H.elim
 | ok b σ₁ =>
  rw [ht] at H
  intro Y s₁ u hy hr hu
  subst hu
  exact q b σ₁ Y s₁ hy hr (OK.mono hy H)
set_option tactic.hygienic true in
theorem comp_loop (D : Snd P w g K T n r) {elt t it : PySem.Expr} {ifs : List PySem.Expr} (hifs : fewIfs ifs = true) {sc : Scope} {pos : Pos} {c d : Nat} {a b : Addr} {k : Nat} (S : Sit P w g K T n l A X σ s) (e : bQ l X f env) (ha : X.ρ[c]? = some a) (hd : X.ρ[d]? = some b)
  {Q : Unit → Shared → Prop} {E' : Value → Shared → Prop} (H : OK P w g l X RU Q E' (compN g r f elt t ifs d c k σ)) {R : Result → Shared → Prop} (hR : ∀ s', Q () s' → R (.ok .next) s') (hE : ∀ x s', E' x s' → R (.error x) s') :
  codeAny (model P w) A (.compLoop (.ListComp elt [⟨t, it, ifs, 0⟩] sc pos) 0 (.ref a) (.ref b) env) R s := by
 have tail : ∀ {k : Nat} {X : Wl} {σ : St} {s : Shared}, Sit P w g K T n l A X σ s → bQ l X f env → X.ρ[c]? = some a → X.ρ[d]? = some b →
   OK P w g l X RU Q E' (match r.ev f elt σ with
     | .ok v σ => (match σ.get d with
      | some (.list ys) => bif Nat.ble ys.length 1000000 then compN g r f elt t ifs d c k (σ.setF d (.list (ys ++ [v]))) else .stop "long"
      | _ => .stop "comp")
     | .exc .fly σ => .exc .held σ
     | _ => .stop "raise in a comprehension") →
   wpAny (model P w) A (eval elt env) (fun x s₄ => wpAny (model P w) A (PySem.call (.builtin "list.append") [.ref b, x]) (fun _ s₅ => ∃ m, m < k + 1 ∧ ∃ X σ, Sit P w g K T n l A X σ s₅ ∧ bQ l X f env ∧ X.ρ[c]? = some a ∧ X.ρ[d]? = some b ∧ OK P w g l X RU Q E' (compN g r f elt t ifs d c m σ))
    (notedBy (model P w) A env fun e s' => R (.error e) s') s₄) (notedBy (model P w) A env fun e s' => R (.error e) s') s := by
  intro k X σ s S e ha hd H
  refine D.ev S e ?_
  cases hv : r.ev f elt σ with
  | stop => rw [hv] at H; exact H.elim
  | exc m σ₁ =>
   rw [hv] at H
   cases m with
   | fly =>
    intro Y s₁ x hy hr hx
    refine note_ok (S.next hy hr) (e.mono hy) hx fun s' hr' hx' => hE _ _ (H Y s' x hy hr' hx')
   | _ => exact H.elim
  | ok v σ₁ =>
   rw [hv] at H
   intro Y s₁ u hy hr hu
   dsimp only at H
   split at H
   ·rename_i ys hys
    refine xpp (fun hz H => ?_) (OK.bif H)
    have S₁ := S.next hy hr
    exact append_ok S₁ hys (pG hy.r hd) hu hz fun s' hr' => ⟨k, Nat.lt_succ_self k, Y, _, S₁.rel' hr', e.mono hy, pG hy.r ha, pG hy.r hd, OK.mono hy H⟩
   ·exact H.elim
 have turn : ∀ k s, (∃ X σ, Sit P w g K T n l A X σ s ∧ bQ l X f env ∧ X.ρ[c]? = some a ∧ X.ρ[d]? = some b ∧ OK P w g l X RU Q E' (compN g r f elt t ifs d c k σ)) → ∀ {Tst : Shared → Prop},
   (∀ X σ s, Sit P w g K T n l A X σ s → bQ l X f env → X.ρ[c]? = some a → X.ρ[d]? = some b → ∀ k', k = k' + 1 → OK P w g l X RU Q E' ((compTest r f ifs σ).bind fun b σ => if b then (match r.ev f elt σ with
     | .ok v σ => (match σ.get d with
      | some (.list ys) => bif Nat.ble ys.length 1000000 then compN g r f elt t ifs d c k' (σ.setF d (.list (ys ++ [v]))) else .stop "long"
      | _ => .stop "comp")
     | .exc .fly σ => .exc .held σ
     | _ => .stop "raise in a comprehension")
    else compN g r f elt t ifs d c k' σ) → Tst s) →
   wpAny (model P w) A (pyNext (.ref a)) (fun r s₁ => match r with
   | none => R (.ok .next) s₁
   | some v => wpAny (model P w) A (letOwnedTupleGo t (.ref a) v) (fun _ s₀ => wpAny (model P w) A (assign t env v) (fun _ s₂ => Tst s₂)
     (notedBy (model P w) A env fun e s' => R (.error e) s') s₀) (notedBy (model P w) A env fun e s' => R (.error e) s') s₁) (notedBy (model P w) A env fun e s' => R (.error e) s') s := by
  rintro k s ⟨X, σ, S, e, ha, hd, H⟩ Tst hT
  cases k with
  | zero => exact H.elim
  | succ k =>
   unfold compN at H
   cases hn : fZ g t σ c with
   | stop => rw [hn] at H; exact H.elim
   | exc => rw [hn] at H; exact H.elim
   | ok o σ₁ =>
    rw [hn] at H
    refine next_ok S ha hn (fun h0 s' hr => ?_) fun x h1 s₁ u hgo => ?_
    ·clear hn; subst h0
     exact hR _ (OK.here H hr trivial)
    ·clear hn; subst h1
     dsimp only at H
     refine hgo _ _ fun Y s₂ hy hr hu => ?_
     split at H
     ·exact H.elim
     ·rename_i σ₂ hb
      refine bindT_ok (S.next hy hr) (e.mono hy) hu hb fun s₃ hr₃ => ?_
      exact hT Y σ₂ s₃ ((S.next hy hr).rel' hr₃) (e.mono hy) (pG hy.r ha) (pG hy.r hd) k rfl (OK.mono hy H)
 cases ifs with
 | nil =>
  refine kcp_loop (fun k s => ∃ X σ, Sit P w g K T n l A X σ s ∧ bQ l X f env ∧ X.ρ[c]? = some a ∧ X.ρ[d]? = some b ∧ OK P w g l X RU Q E' (compN g r f elt t [] d c k σ)) (fun k s I => ?_) k ⟨X, σ, S, e, ha, hd, H⟩
  refine turn k s I fun X σ s S e ha hd k' hk H => ?_
  subst hk
  exact tail S e ha hd H
 | cons c' ifs' =>
  cases ifs' with
  | nil =>
   refine kct_loop (fun k s => ∃ X σ, Sit P w g K T n l A X σ s ∧ bQ l X f env ∧ X.ρ[c]? = some a ∧ X.ρ[d]? = some b ∧ OK P w g l X RU Q E' (compN g r f elt t [c'] d c k σ)) (fun k s I => ?_) k ⟨X, σ, S, e, ha, hd, H⟩
   refine turn k s I fun X σ s S e ha hd k' hk H => ?_
   clear I; subst hk
   refine tests_ok D S e H fun ok σ₁ Y s₁ hy hr H => ?_
   cases ok with
   | true => exact tail (S.next hy hr) (e.mono hy) (pG hy.r ha) (pG hy.r hd) H
   | false => exact ⟨k', Nat.lt_succ_self k', Y, σ₁, S.next hy hr, e.mono hy, pG hy.r ha, pG hy.r hd, H⟩
  | cons c'' r'' =>
   injection hifs
end
end
section
variable [Tau]
noncomputable def HeldA (B : Heap) (l : List Env) (e : Addr) (cls a0 fl : Value) (h : Heap) : Prop := B.StaysIn h ∧ B.get? e = none ∧ h.FunFrames B l ∧ h.TracedAtW B e cls a0 fl
section
variable {M : Model} {A : Around} {E : Value → Shared → Prop} {s : Shared}
theorem setFlight_any {B : Heap} {l : List Env} {e : Addr} {cls a0 fl : Value} {fr : Option Addr} {Q : Unit → Shared → Prop} (R : HeldA B l e cls a0 fl s.heap)
  (h : ∀ h', HeldA B l e cls a0 (fr.elim .none fun f => rawInt f) h' → s.heap.UpToSlots h' → Q () { s with heap := h' }) : wpAny M A (setFlight (.ref e) fr) Q E s := by
 revert R; refine xpppvvvvvppppppppp fun hkb hen hl oe vs T oT ts he hcls hd h1 hnT hTe hT hdT h3 => ?_
 have hsz3 : 3 < ts.size := (Array.getElem?_eq_some_iff.mp h3).1
 have other : ∀ b, b ≠ T → (s.heap.update T (Obj.mapFields (·.setIfInBounds 3 (fr.elim Value.none fun f => rawInt f)))).get? b = s.heap.get? b := fun b hb => Heap.get?_update_other _ _ (Ne.symm hb)
 have noRecord : ∀ b o, s.heap.get? b = some o → (∀ vs, o.data ≠ .fields vs) → b ≠ T := fun b o hb hnf q => by
  rw [q, hT] at hb; injection hb with hb; subst hb; exact hnf ts hdT
 unfold setFlight
 refine wpAny_bind (wpAny_field he hd h1 ?_)
 rw [if_pos (show (Value.ref T != Value.none) = true from by simp)]
 refine wpAny_setField hT hdT hsz3 (h _ ⟨fun b o hbo => (other b fun q => by rw [q, hnT] at hbo; injection hbo).trans (hkb b o hbo), hen,
  hl.of_keeps fun b o hb hnf => ⟨o, (other b (noRecord b o hb hnf)).trans hb, rfl⟩, ?_⟩ fun b o hb hnf => ⟨o.slots, (other b (noRecord b o hb hnf)).trans hb⟩)
 exact ⟨oe, vs, T, _, _, (other e (Ne.symm hTe)).trans he, hcls, hd, h1, hnT, hTe, Heap.get?_update_self _ hT (Obj.isFreed_of_fields (Obj.data_mapFields hdT _)), Obj.data_mapFields hdT _, by simp [hsz3]⟩
theorem leave_any {B : Heap} {env : Env} {outer : List Env} {L e : Addr} {cls a0 fl : Value} {Q : Unit → Shared → Prop} (hfr : A.frames = some (env :: outer)) (hf : env.frame = some L) (R : HeldA B (env :: outer) e cls a0 fl s.heap)
  (q : ∀ h', Heap.FlyingW B outer e cls a0 h' → s.heap.UpToSlots h' → Q () { s with heap := h' }) : wpAny M A (leaving env (.ref e)) Q E s := by
 refine xpppvvvvvppppppppp (fun hkb hen hl oe vs T oT ts he q1 hd h1 hnT hTe hT hdT h3 => ?_) (id R); revert q1; refine xpp fun hcls h0 => ?_
 unfold leaving noteFrame
 simp only [hf]
 refine wpAny_bind (wpAny_bind (wpAny_field he hd h1 ?_))
 rw [if_pos (show (Value.ref T != Value.none) = true from by simp)]
 refine wpAny_bind (wpAny_field hT hdT h3 ?_)
 by_cases hfl : (fl == rawInt L) = true
 ·rw [if_pos hfl]
  refine wpAny_pure ?_
  refine setFlight_any R fun h' hh hs => q h' ?_ hs
  revert hh; refine xpppp fun k1 k2 q1 k4 => ?_; revert q1; refine xddp fun k3 => ?_
  exact ⟨k1, k2, k3, k4⟩
 ·rw [if_neg hfl]
  clear R; subst hcls
  refine wpAny_bind (wpAny_setField hT hdT (Array.getElem?_eq_some_iff.mp h3).1 ?_)
  have other : ∀ b, b ≠ T → (s.heap.update T (Obj.mapFields (·.setIfInBounds 3 Value.none))).get? b = s.heap.get? b := fun b hb => Heap.get?_update_other _ _ (Ne.symm hb)
  have noRecord : ∀ b o, s.heap.get? b = some o → (∀ vs, o.data ≠ .fields vs) → b ≠ T := fun b o hb hnf q => by
   rw [q, hT] at hb; injection hb with hb; subst hb; exact hnf ts hdT
  refine wpAny_newEntryW hfr (hl.of_keeps fun b o hb hnf => ⟨o, (other b (noRecord b o hb hnf)).trans hb, rfl⟩) hf ((other e (Ne.symm hTe)).trans he)
   (fun b o hbo => (other b fun q => by rw [q, hnT] at hbo; injection hbo).trans (hkb b o hbo)) hen hd (Array.getElem?_eq_some_iff.mp h1).1 h0
   fun h' ⟨x1, ⟨_, _, x2⟩, x3, x4⟩ => q h' ⟨x1, hen, x2, x3⟩ fun b o hb hnf => x4 b o ((other b (noRecord b o hb hnf)).trans hb) hnf
theorem passOn_any {B : Heap} {l : List Env} {e : Addr} {cls a0 fl : Value} {what : String} {α : Type} {Q : α → Shared → Prop} {env : Env} (R : HeldA B l e cls a0 fl s.heap)
  (q : ∀ h' fl', HeldA B l e cls a0 fl' h' → s.heap.UpToSlots h' → E (.ref e) { s with heap := h' }) : wpAny M A (PySem.passOn what (.ref e) env) Q E s := by
 refine xdddvvvvvppppd (fun oe ws T oT ts he hc hd h1 => ?_) (id R)
 unfold PySem.passOn
 refine wpAny_bind (wpAny_field he hd h1 ?_)
 rw [if_neg (show ¬ ((Value.ref T == Value.none) = true) from by simp)]
 first
  | exact wpAny_bind (wpAny_pure (wpAny_bind (setFlight_any R fun h' hh hs => wpAny_throw (q h' _ hh hs))))
  | exact wpAny_bind (setFlight_any R fun h' hh hs => wpAny_throw (q h' _ hh hs))
end
section
variable {P : Program} {w : World} {g : Cx} {K : Frag} {T : List Addr} {n : Nat} {r : Rc} {l : List Env} {A : Around} {X Y : Wl} {σ σ' : St} {s s' : Shared} {f : Fr} {env : Env} {E : Value → Shared → Prop} {F : Cx}
theorem funFr {B : Heap} (R : Rel P w X σ s) : ∀ {l : List Env}, FrR X l → (∀ a ∈ l.filterMap (·.frame), B.get? a = none) → s.heap.FunFrames B l
 | [], _, _ => trivial
 | env :: l, h, hB => by
  refine xpvvppp (fun h1 L k h2 h3 h4 => ?_) (h env (.head _))
  refine xvp (fun m hm => ?_) (R.frs k h3)
  refine xvpvvpd (fun ob ho es ep hd => ?_) (R.at hm h4)
  refine ⟨h1, ⟨L, ob, h2, hB L (List.mem_filterMap.mpr ⟨env, .head _, h2⟩), ho, fun vs q => by rw [hd] at q; injection q⟩, funFr R (fun e he => h e (.tail _ he)) fun a ha => hB a ?_⟩
  refine aQ (fun e he hf => ?_) (List.mem_filterMap.mp ha)
  exact List.mem_filterMap.mpr ⟨e, .tail _ he, hf⟩
theorem frame_ns (R : Rel P w X σ s) (h : FrR X l) {a : Addr} (ha : a ∈ l.filterMap (·.frame)) : ∃ k m, k ∈ X.fr ∧ X.ρ[k]? = some a ∧ σ.get k = some (.ns m) := by
 refine aQ (fun env he hf => ?_) (List.mem_filterMap.mp ha)
 refine xdvvppp (fun L k h2 h3 h4 => ?_) (h env he)
 refine xvp (fun m hm => ?_) (R.frs k h3)
 rw [hf] at h2
 injection h2 with q1; subst q1
 exact ⟨k, m, h3, h4, hm⟩
theorem leave_fresh {outer : List Env} {L x : Addr} (hfr : A.frames = some (env :: outer)) (hf : env.frame = some L) (R : Rel P w X σ s) (hx : ExcR F (env :: outer) X σ s x .fresh) {Q : Unit → Shared → Prop}
  (q : ∀ s', Rel P w X σ s' → ExcR F outer X σ s' x .fly → Q () s') : wpAny (model P w) A (leaving env (.ref x)) Q E s := by
 have hF := hx.2.1
 have hqt := hx.1
 refine xvvvppppppp (fun oe vs a0 he hc hd h1 h0 hB hρ => ?_) (hx.2.2)
 let B := hideAll s.heap (x :: (env :: outer).filterMap (·.frame))
 have hBx : B.get? x = none := hideAll_none _ (.head _)
 have hBf : ∀ a ∈ (env :: outer).filterMap (·.frame), B.get? a = none := fun a ha => hideAll_none _ (.tail _ ha)
 have hBs : B.StaysIn s.heap := fun b o e => of_hideAll _ e
 have hXB : X.B.StaysIn B := fun b o e => by
  refine hideAll_get _ (R.keep b o e) fun hm => ?_
  rcases List.mem_cons.mp hm with rfl | hm
  ·rw [hB] at e; injection e
  ·refine xvvdpp (fun k m hk hk' => ?_) (frame_ns R hF hm)
   rw [R.fresh _ _ b hk' rfl hk] at e; injection e
 have hcov : Cov X σ s B := fun k o e hn j a ob h1 h2 => by
  refine hideAll_get _ h2 fun hm => ?_
  rcases List.mem_cons.mp hm with rfl | hm
  ·exact hρ _ _ e j h1
  ·refine xvvdpp (fun k' m hk hm' => ?_) (frame_ns R hF hm)
   have := (R.nodup k' k _ _ a hm' e rfl j hk h1).symm
   clear hk; subst this
   rw [e] at hm'
   injection hm' with q1; clear j; subst q1
   exact hn m rfl
 refine wpAny_leaving_firstW hfr (funFr R hF hBf) hf he hBs hBx hd h1 h0 fun h' ⟨x1, ⟨_, _, x2⟩, x3, x4⟩ => q _ (R.slots hcov hXB x1 x4) ?_
 rw [hc] at x3
 exact ⟨hqt, fun e he => hF e (.tail _ he), B, a0, hXB, hcov.slots R x1, x1, hBx, x2, x3⟩
theorem leave_ok {outer : List Env} {L x : Addr} (hfr : A.frames = some (env :: outer)) (hf : env.frame = some L) (R : Rel P w X σ s) {m : Ex} (hx : ExcR F (env :: outer) X σ s x m) {Q : Unit → Shared → Prop}
  (q : ∀ s', Rel P w X σ s' → ExcR F outer X σ s' x .fly → Q () s') : wpAny (model P w) A (leaving env (.ref x)) Q E s := by
 cases m with
 | fresh => exact leave_fresh hfr hf R hx q
 | fly =>
  revert hx; refine xppvvppp fun hqt hF B a0 h1 h2 h3 => ?_
  exact wpAny_leaves_onW hfr hf h3 fun h' hh hs => q _ (R.slots h2 h1 hh.1 hs) ⟨hqt, fun e he => hF e (.tail _ he), B, a0, h1, h2.slots R hh.1, hh⟩
 | held =>
  revert hx; refine xppvvvppp fun hqt hF B a0 fl h1 h2 h3 => ?_
  exact leave_any hfr hf h3 fun h' hh hs => q _ (R.slots h2 h1 hh.1 hs) ⟨hqt, fun e he => hF e (.tail _ he), B, a0, h1, h2.slots R hh.1, hh⟩
theorem held_kill {k : Nat} {C x : Addr} {m : List (Str × V)} {h' : Heap} (R : Rel P w X σ s) (hk : σ.get k = some (.ns m)) (hC : X.ρ[k]? = some C) (hn : k ∉ X.fr) (hs : Heap.SameBut C s.heap h') (hx : ExcR F l X σ s x .held) :
  Rel P w X (σ.set k .junk) { s with heap := h' } ∧ ExcR F l X (σ.set k .junk) { s with heap := h' } x .held := by
 have R' : Rel P w X (σ.set k .junk) { s with heap := h' } := R.kill hk hC (qQ hs) hn
 refine ⟨R', ?_⟩
 revert hx; refine xppvvvpppppvvvvvppppppppp fun hqt hF B a0 fl h1 h2 h3 h4 h5 oe vs T oT ts he hcls hd e1 hnT hTe hT hdT e3 => ?_
 refine xvpvvpd (fun oC hoC es ep hdC => ?_) (R.at hk hC)
 have hxC : x ≠ C := fun q => by subst q; rw [he] at hoC; injection hoC with q1; subst q1; rw [hd] at hdC; injection hdC
 have hTC : T ≠ C := fun q => by subst q; rw [hT] at hoC; injection hoC with q1; subst q1; rw [hdT] at hdC; injection hdC
 have hBs : (hideAll B [C]).StaysIn h' := fun b o e => by
  have hb : b ≠ C := fun q => by clear hoC; subst q; rw [hideAll_none _ (.head _)] at e; injection e
  exact (hs.2 b hb).trans (h3 b o (of_hideAll _ e))
 have hnone : ∀ {b : Addr}, B.get? b = none → (hideAll B [C]).get? b = none := fun {b} e => by
  refine gE ((hideAll B [C]).get? b) (fun q => ?_) (fun o q => ?_)
  ·rfl
  ·rw [of_hideAll _ q] at e; injection e
 refine ⟨hqt, hF, hideAll B [C], a0, fl, fun b o e => ?_, fun p o e hp j a ob p1 p2 => ?_, hBs, hnone h4, ?_, oe, vs, T, oT, ts, (hs.2 x hxC).trans he, hcls, hd, e1, hnone hnT, hTe, (hs.2 T hTC).trans hT, hdT, e3⟩
 ·refine hideAll_get _ (h1 b o e) fun q => ?_
  rw [List.mem_singleton.mp q, R.fresh _ _ C hk rfl hC] at e; injection e
 ·have hl := St.get_lt hk
  rw [St.get_set hl R.room] at e
  by_cases q : p = k
  ·rw [if_pos q] at e; injection e with q1; subst q1; exact (j rfl).elim
  ·rw [if_neg q] at e
   have haC : a ≠ C := fun z => q (by (clear hoC hxC hTC hBs; subst z); exact (R.nodup k p _ _ a hk e rfl j hC p1).symm)
   refine hideAll_get _ (h2 p o e hp j a ob p1 ((hs.2 a haC).symm.trans p2)) fun z => haC (List.mem_singleton.mp z)
 ·refine funFr R' hF fun a ha => hnone ?_
  exact (h5.mem ha).1
end
end
section
variable [Tau]
section
variable {P : Program} {w : World} {g : Cx} {K : Frag} {T : List Addr} {n : Nat} {r : Rc} {l : List Env} {A : Around} {X Y : Wl} {σ σ' : St} {s s' : Shared} {f : Fr} {env : Env} {E : Value → Shared → Prop} {F : Cx}
theorem relab_eq (e : bQ l X f env) (sc : Scope) : relabel sc env = relab f sc := by
 unfold relabel relab
 congr 1
 refine List.map_congr_left fun x _ => ?_
 obtain ⟨y, k⟩ := x
 show (if (k == .free && env.scope.kind == .function && env.kindOf y == some .cell) = true then (y, .cell) else (y, k)) = (if (k == .free && wQ f.scope y == some .cell) = true then (y, .cell) else (y, k))
 rw [e.fkind, e.kindOf y]
 have : ((ScopeKind.function == ScopeKind.function) = true) := by decide
 rw [this, Bool.and_true]
noncomputable abbrev RD : Wl → Nat → Addr × Addr → Prop := fun Y d p => Y.ρ[d]? = some p.1 ∧ Y.ρ[d + 1]? = some p.2 ∧ d + 1 ∉ Y.fr
theorem goodSc_ok {sc : Scope} (h : goodSc sc = true) : sc.kind = .function ∧ (∀ x ∈ sc.names, x.2 ≠ .cell) ∧ (∀ x ∈ sc.names, x.2 = .local → sc.names.lookup x.1 = some .local) := by
 unfold goodSc at h
 refine aN (fun h1 h2 => ?_) h
 rw [List.all_eq_true] at h2
 have h1 : sc.kind = .function := by
  revert h1
  cases sc.kind <;> first | (intro; rfl) | (intro q; exact absurd q (by decide))
 refine ⟨h1, fun x hx q => ?_, fun x hx q => ?_⟩
 ·have := (Bool.and_eq_true_iff.mp (h2 x hx)).1
  rw [q] at this
  exact absurd this (by decide)
 ·have := (Bool.and_eq_true_iff.mp (h2 x hx)).2
  have hl : (x.2 == .local) = true := by rw [q]; decide
  rw [hl, cond_true, look_eq] at this
  exact eq_of_beq this
theorem pushAll_two {o₁ o₂ : O} (h : hJ [o₁, o₂] σ = some σ') : σ.size < 4095 ∧ σ' = (σ.push o₁).push o₂ := by
 unfold hJ at h
 revert h; refine iQ fun h1 h => ?_
 unfold hJ at h
 refine bE (Nat.blt (σ.pushF o₁).size 4096) (fun h2 => ?_) (fun h2 => ?_)
 ·rw [h2] at h; injection h
 ·
  rw [h2, cond_true] at h
  injection h with q1; subst q1
  rw [St.pushF_eq, St.pushF_eq]
  rw [St.pushF_eq] at h2
  have := bI.mp h2
  rw [St.size_push] at this
  exact ⟨by omega, rfl⟩
theorem compK_ns {elt tg it : PySem.Expr} {ifs : List PySem.Expr} {sc : Scope} {d : Nat} {σ₁ : St} (h : compK g r f elt tg it ifs sc σ = .ok d σ₁) : ∃ m, σ₁.get (d + 1) = some (.ns m) := by
 unfold compK at h
 refine bE (((goodSc sc && !isSetE it) && fewIfs ifs)) (fun hc => ?_) (fun hc => ?_)
 ·rw [hc] at h; injection h
 ·
  rw [hc, cond_true] at h
  split at h
  ·cases h1 : r.ev f it σ with
   | stop => rw [h1] at h; injection h
   | exc => rw [h1] at h; injection h
   | ok v σ₂ =>
    rw [h1] at h
    change (iterOf g σ₂ v).bind _ = _ at h
    cases h2 : iterOf g σ₂ v with
    | stop => rw [h2] at h; injection h
    | exc => rw [h2] at h; injection h
    | ok c σ₃ =>
     rw [h2] at h
     dsimp only [Res.bind] at h
     split at h
     ·split at h
      ·split at h
       ·rename_i m hm; injection h with q1 q2; subst q1; subst q2; exact ⟨m, hm⟩
       ·injection h
      ·split at h <;> injection h
      ·injection h
     ·injection h
  ·injection h
theorem compK_ok (D : Snd P w g K T n r) (S : Sit P w g K T n l A X σ s) (e : bQ l X f env) {elt tg it : PySem.Expr} {ifs : List PySem.Expr} {sc : Scope} {pos fp : Pos} {use : Option (Value → Sem Unit)} {Qv : Value → Shared → Prop}
  {Q : Addr × Addr → Shared → Prop} (H : OK P w g l X RD Q E (compK g r f elt tg it ifs sc σ)) (hQ : ∀ p s', Q p s' → compPost (model P w) A E use Qv (.ref p.1) p.2 (.ok .next) s') :
  wpAny (model P w) A (comprehension (.ListComp elt [⟨tg, it, ifs, 0⟩] sc pos) sc env fp (newList []) false (eval it env) use) Qv E s := by
 unfold compK at H
 refine xpp (fun hc H => ?_) (OK.bif H)
 refine aN (fun h0 hifs => ?_) hc
 refine aN (fun hg hse => ?_) h0
 have hse : isSetE it = false := by simpa using hse
 refine xppp (fun hk hcell hnames => ?_) (goodSc_ok hg)
 split at H
 ·rename_i cl hcl
  refine aQ (fun cl' hclos hcr => ?_) (closure_ok e hcl)
  refine wpAny_comprehension_free rfl (noSet_fold hse) hclos hk hnames ?_
  refine D.ev S e (OK.bind H fun iv σ₁ _ Y s₁ u hy hr hu H => ?_)
  have S₁ := S.next hy hr
  refine iter_ok S₁ hu (OK.bind H fun c σ₂ _ Z s₂ u' hz hr₂ hc H => ?_)
  revert hc; refine aQ fun a ha q1 => ?_; subst q1
  have S₂ := S₁.next hz hr₂
  split at H
  ·rename_i σ₃ hp
   refine xpp (fun hsz q1 => ?_) (pushAll_two hp); clear hp; subst q1
   refine wpAny_newObj_type (wpAny_newFunctionEnv hcell (by intro y hy; simp at hy) (fun h₁ hns hsb => ?_) hk)
   have R3 : Rel P w (Z.add s₂.heap.objs.size) (σ₂.push (.list [])) { s₂ with heap := s₂.heap.push { cls := .type "list", dict := none, data := .seq ([] : List Value).toArray } } :=
    hr₂.alloc (by omega) (Heap.get?_none_of_le (Nat.le_refl _)) (fun b o eb => Heap.get?_push_of_some _ eb) (Heap.get?_push_size _ rfl) ⟨#[], 0, rfl, trivial⟩
   revert hns; refine xvvvpppp fun oC es ep k1 k2 k3 k4 => ?_
   have R4 := R3.alloc (s' := { s₂ with heap := h₁, toks := s₂.toks + ([] : List (Str × Value)).length }) (o := .ns []) (by rw [St.size_push]; omega) (Heap.get?_none_of_le (Nat.le_refl _))
    (fun b o eb => hsb.extBut b o (Nat.ne_of_lt (Heap.lt_size eb)) (Heap.get?_push_of_some _ eb)) k1 ⟨es, ep, k2, k3, fun x => by rw [k4 x]; trivial⟩
   have hle : Z.Le ((Z.add s₂.heap.objs.size).add (s₂.heap.push { cls := .type "list", dict := none, data := .seq ([] : List Value).toArray }).objs.size) := (Z.le_add _).trans (Wl.le_add _ _)
   have S₄ := S₂.next hle R4
   have hd : ((Z.add s₂.heap.objs.size).add (s₂.heap.push { cls := .type "list", dict := none, data := .seq ([] : List Value).toArray }).objs.size).ρ[σ₂.size]? = some s₂.heap.objs.size :=
    pG (Wl.le_add _ _).r (Wl.add_get hr₂.len)
   have hC : ((Z.add s₂.heap.objs.size).add (s₂.heap.push { cls := .type "list", dict := none, data := .seq ([] : List Value).toArray }).objs.size).ρ[σ₂.size + 1]? = some (s₂.heap.push { cls := .type "list", dict := none, data := .seq ([] : List Value).toArray }).objs.size :=
    Wl.add_get (R3.len.trans (St.size_push _ _))
   generalize hW : (Z.add s₂.heap.objs.size).add (s₂.heap.push { cls := .type "list", dict := none, data := .seq ([] : List Value).toArray }).objs.size = W at hle S₄ hd hC R4
   generalize hCa : (s₂.heap.push { cls := .type "list", dict := none, data := .seq ([] : List Value).toArray }).objs.size = C at hC
   have hle' := (hy.trans hz).trans hle
   have eC : bQ l W ⟨σ₂.size + 1, relab f sc, cl, f.qual, f.tab⟩ { newEnv sc C env.globals cl' env.qual none .none (some env) builtinsNs with scope := relabel sc env } :=
    ⟨let ⟨a1, a2, a3, a4, a5, a6⟩ := e.frm; ⟨a1, a2, a3, a4, a5, a6⟩, relab_eq e sc, hk, hC, e.glob, e.blt, hcr.mono hle'.r, e.qual, (e.mono hle').tab⟩
   have hnf : σ₂.size + 1 ∉ W.fr := fun hm => by
    have : σ₂.size + 1 ∈ Z.fr := by rw [← hle.f]; exact hm
    refine xvp (fun m hm => ?_) (hr₂.frs _ this)
    have := St.get_lt hm
    omega
   have haW := pG hle.r ha
   have HN : OK P w g l W RU (fun _ s' => compPost (model P w) A E use Qv (.ref s₂.heap.objs.size) C (.ok .next) s') (fun x s' => compPost (model P w) A E use Qv (.ref s₂.heap.objs.size) C (.error x) s')
     (compN g r ⟨σ₂.size + 1, relab f sc, cl, f.qual, f.tab⟩ elt tg ifs σ₂.size c 64 ((σ₂.push (.list [])).push (.ns []))) := by
    cases hN : compN g r ⟨σ₂.size + 1, relab f sc, cl, f.qual, f.tab⟩ elt tg ifs σ₂.size c 64 ((σ₂.push (.list [])).push (.ns [])) with
    | stop => rw [hN] at H; exact H.elim
    | ok _ σ₅ =>
     rw [hN] at H
     intro V s' _ hv hrv _
     dsimp only at H
     split at H
     ·exact hQ (s₂.heap.objs.size, C) s' (H V s' _ (hle.trans hv) hrv ⟨pG hv.r hd, pG hv.r hC, fun q => hnf (hv.f ▸ q)⟩)
     ·exact H.elim
    | exc md σ₅ =>
     rw [hN] at H
     cases md with
     | held =>
      dsimp only at H
      intro V s' x hv hrv hx
      split at H
      ·rename_i m hm
       refine xvpd (fun mm hns' => ?_) (hrv.ns hm (pG hv.r hC))
       have key : ∃ m, s'.heap.Ns C m ∧ ∀ h', Heap.SameBut C s'.heap h' → ∀ cenv : Env, cenv.locals = C → wpAny (model P w) A (PySem.passOn "comprehension.variables-let-go" (.ref x) cenv : Sem Value) (fun _ _ => False) E { s' with heap := h' } := by
        refine ⟨mm, hns', fun h' hs cenv _ => ?_⟩
        refine xpppvvvppp (fun R5 y1 y2 B a0 fl x1 x2 x3 => ?_) (held_kill hrv hm (pG hv.r hC) (fun q => hnf (hv.f ▸ q)) hs hx)
        refine passOn_any (B := B) (l := l) (cls := .ref g.fault) (a0 := a0) (fl := fl) (s := { s' with heap := h' }) x3 fun h'' fl' hh hs' => ?_
        refine H V _ x (hle.trans hv) ?_ ⟨y1, y2, B, a0, fl', x1, ?_, hh⟩
        ·rw [St.setF_eq]; exact R5.slots x2 x1 hh.1 hs'
        ·rw [St.setF_eq]; exact x2.slots R5 hh.1
       cases use <;> exact key
      ·exact H.elim
     | _ => exact H.elim
   have hnx : ∃ o σ', fZ g tg ((σ₂.push (.list [])).push (.ns [])) c = .ok o σ' := by
    have HN' := HN
    unfold compN at HN'
    cases hn : fZ g tg ((σ₂.push (.list [])).push (.ns [])) c with
    | stop => rw [hn] at HN'; exact HN'.elim
    | exc => rw [hn] at HN'; exact HN'.elim
    | ok o σ' => exact ⟨o, σ', rfl⟩
   revert hnx; refine xvvp fun o σ' hnx => ?_
   have loop := comp_loop (it := it) (sc := sc) (pos := pos) D hifs S₄ eC haW hd HN (R := compPost (model P w) A E use Qv (.ref s₂.heap.objs.size) C) (fun _ q => q) fun _ _ q => q
   refine codeAny_compStart_list loop (listSelf S₄ haW (o := o) ⟨o, hnx⟩ loop)
  ·exact H.elim
 ·exact H.elim
theorem ev_comp (D : Snd P w g K T n r) (S : Sit P w g K T n l A X σ s) (e : bQ l X f env) {elt tg it : PySem.Expr} {ifs : List PySem.Expr} {sc : Scope} {pos : Pos} {Q : Value → Shared → Prop} (H : OK P w g l X RV Q E (compE g r f elt tg it ifs sc σ)) :
  wpAny (model P w) A (eval (.ListComp elt [⟨tg, it, ifs, 0⟩] sc pos) env) Q E s := by
 rw [eval_ListComp]
 refine compK_ok (use := none) (Q := fun p s' => compPost (model P w) A E none Q (.ref p.1) p.2 (.ok .next) s') D S e (OK.bind (k := fun d σ => Res.ok (V.new d) (σ.setF (d + 1) .junk)) H fun d σ₁ hK Y s₁ p hy hr hp H => ?_) fun p s' q => q
 refine xvp (fun m hm => ?_) (compK_ns hK)
 refine xvpd (fun mm hns => ?_) (hr.ns hm hp.2.1)
 refine ⟨mm, hns, fun h' hs => ?_⟩
 refine OK.here H ?_ ⟨p.1, hp.1, rfl⟩
 rw [St.setF_eq]
 exact hr.kill hm hp.2.1 (qQ hs) hp.2.2
theorem Rel.ext {τ : St} (R : Rel P w X σ s) (hz : σ.size = τ.size) (h : ∀ n, σ.get n = τ.get n) : Rel P w X τ s :=
 ⟨R.keep, fun n o a e => R.fresh n o a ((h n).trans e), fun n m o o' a e₁ e₂ => R.nodup n m o o' a ((h n).trans e₁) ((h m).trans e₂), R.len.trans hz, hz ▸ R.room, fun n o e => R.objs n o ((h n).trans e), fun n hn => (h n) ▸ R.all n (hz ▸ hn),
  fun k hk => let ⟨m, e⟩ := R.frs k hk; ⟨m, (h k) ▸ e⟩, R.gens, R.os, fun n o a e => R.sys n o a ((h n).trans e)⟩
theorem swapC_eq (e : bQ l X f env) {x : Str} {p q : Pos} {sc : Scope} {elt : PySem.Expr} {gens : List Comprehension} {line : Nat} : swapsWith (.ListComp elt gens sc q) (some (.Name x p)) line env = pure (swapC f x p q sc) := by
 show (pure (env.blockKind == .function && env.kindOf x == some .local && p.line == q.line && !(sc.names.any fun (y : Str × NameKind) => y.1 == x && (y.2 == .local || y.2 == .cell))) : Sem Bool) = _
 congr 1
 unfold swapC
 rw [e.block, e.kindOf x]
 have h1 : (wQ f.scope x == some .local) = isLocK (wQ f.scope x) := by
  cases wQ f.scope x with
  | none => rfl
  | some k => cases k <;> rfl
 have h2 : (p.line == q.line) = Nat.beq p.line q.line := by rw [Bool.eq_iff_iff]; simp [Nat.beq_eq]
 have h3 : (sc.names.any fun (y : Str × NameKind) => y.1 == x && (y.2 == .local || y.2 == .cell)) = sc.names.any fun y => eqS y.1 x && (y.2 == .local || y.2 == .cell) := by
  congr 1; funext y; rw [eqS_beq]
 rw [h1, h2, h3]
 have h4 : (ScopeKind.function == ScopeKind.function) = true := by decide
 rw [h4, Bool.true_and, Bool.and_assoc]
 all_goals rfl
theorem storeN_kill {x : Str} {v : V} {k : Nat} {τ : St} (hk : wQ f.scope x = some .local) (hs : σ.size ≤ 4096) (hkl : k < σ.size) (h : storeN f σ x v = some τ) : τ.size = σ.size ∧ f.loc < σ.size ∧ ∃ m, σ.get f.loc = some (.ns m) ∧ τ = σ.set f.loc (.ns (put m x v)) := by
 have hN := storeI h
 clear h
 induction hN with
 | loc m q1 hm => exact ⟨rfl, St.get_lt hm, m, hm, rfl⟩
 | cell c v' q1 hc hm => rw [hk] at q1; injection q1 with q2; injection q2
theorem st_comp (D : Snd P w g K T n r) (S : Sit P w g K T n l A X σ s) (e : bQ l X f env) {x : Str} {p pos pos' : Pos} {elt tg it : PySem.Expr} {ifs : List PySem.Expr} {sc : Scope} {Q : Flow → Shared → Prop}
  (H : OK P w g l X RFl Q E (bif swapC f x p pos sc then (compK g r f elt tg it ifs sc σ).bind fun d σ => rQ ((storeN f σ x (.new d)).map fun σ => σ.setF (d + 1) .junk)
   else (compE g r f elt tg it ifs sc σ).bind fun v σ => rQ (storeN f σ x v))) :
  wpAny (model P w) A (exec (.Assign [.Name x p] (.ListComp elt [⟨tg, it, ifs, 0⟩] sc pos) pos') env) Q E s := by
 refine bE (swapC f x p pos sc) (fun hsw => ?_) (fun hsw => ?_)
 ·
  rw [hsw, cond_false] at H
  have main : wpAny (model P w) A (eval (.ListComp elt [⟨tg, it, ifs, 0⟩] sc pos) env) (fun v s₁ => wpAny (model P w) A (assign (.Name x p) env v) (fun _ => Q .next) E s₁) E s := by
   refine ev_comp D S e (OK.bind (k := fun v σ => rQ (storeN f σ x v)) H fun v σ₁ _ Y s₁ u hy hr hu H => ?_)
   refine aQ (fun σ₃ h3 q => ?_) (H.next)
   exact assign_Name (store_ok (S.next hy hr) (e.mono hy) hu h3 fun s' hr' => q s' hr')
  refine wpAny_Assign_stores main ?_ rfl
  have := swapC_eq e (x := x) (p := p) (q := pos) (sc := sc) (elt := elt) (gens := [⟨tg, it, ifs, 0⟩]) (line := pos'.line)
  rw [hsw] at this
  exact this
 ·
  rw [hsw, cond_true] at H
  rw [exec_Assign_arm]
  refine wpAny_bind (wpAny_standAt ?_)
  have hq : swapsWithSole [.Name x p] (.ListComp elt [⟨tg, it, ifs, 0⟩] sc pos) pos'.line env = pure true := by
   have := swapC_eq e (x := x) (p := p) (q := pos) (sc := sc) (elt := elt) (gens := [⟨tg, it, ifs, 0⟩]) (line := pos'.line)
   rw [hsw] at this
   exact this
  rw [hq]
  refine wpAny_bind (wpAny_pure ?_)
  rw [if_pos rfl]
  have hl : wQ f.scope x = some .local := by
   unfold swapC at hsw
   exact isLocK_eq (aL hsw)
  refine wpAny_bind ?_
  show wpAny _ _ (comprehension (.ListComp elt [⟨tg, it, ifs, 0⟩] sc pos) sc env (firstIterPos [⟨tg, it, ifs, 0⟩] pos) (newList []) false (eval it env) (some fun v => assignAll v [assign (.Name x p) env]) >>= fun _ => pure ()) _ _ s
  refine wpAny_bind (compK_ok (use := some fun v => assignAll v [assign (.Name x p) env]) (Q := fun p' s' => compPost (model P w) A E (some fun v => assignAll v [assign (.Name x p) env]) (fun _ s' => wpAny (model P w) A (pure ()) (fun _ s' => wpAny (model P w) A (pure Flow.next) Q E s') E s') (.ref p'.1) p'.2 (.ok .next) s') D S e
   (OK.bind (k := fun d σ => rQ ((storeN f σ x (.new d)).map fun σ => σ.setF (d + 1) .junk)) H fun d σ₁ hK Y s₁ p' hy hr hp H => ?_) fun p' s' q => ?_)
  ·refine aQ (fun σ₃ h3 q => ?_) (H.next)
   refine xvp (fun m hm => ?_) (compK_ns hK)
   refine aQ (fun τ hτ q1 => ?_) (Option.map_eq_some_iff.mp h3); subst q1
   have S₁ := S.next hy hr
   refine xppvpp (fun t1 t2 m' t3 t4 => ?_) (storeN_kill hl hr.room (St.get_lt hm) hτ)
   show wpAny _ _ (assign (.Name x p) env (.ref p'.1)) _ _ s₁
   have hv : VR Y.ρ (.new d) (.ref p'.1) := ⟨p'.1, hp.1, rfl⟩
   refine assign_Name (store_ok S₁ (e.mono hy) hv hτ fun s' hr' => ?_)
   have hne : d + 1 ≠ f.loc ∨ d + 1 = f.loc := by omega
   obtain ⟨mτ, hmτ⟩ : ∃ mτ, τ.get (d + 1) = some (.ns mτ) := by
    clear hτ h3 t1; subst t4
    rw [St.get_set t2 hr.room]
    split
    ·exact ⟨_, rfl⟩
    ·exact ⟨m, hm⟩
   refine xvpd (fun mm hns => ?_) (hr'.ns hmτ hp.2.1)
   refine ⟨mm, hns, fun h' hs => wpAny_pure (wpAny_pure (q _ ?_))⟩
   rw [St.setF_eq]
   exact hr'.kill hmτ hp.2.1 (qQ hs) hp.2.2
  ·exact q
end
end
section
variable [Tau]
theorem DR.lookup {ρ : List Addr} {m : List (Str × V)} {k : List (Str × Value)} (a : DR ρ m k) (y : Str) : OptR ρ (Mine.look m y) (k.lookup y) := a.ind (p := fun m k => OptR ρ (Mine.look m y) (k.lookup y)) trivial fun x v m u k e _ r => by
 rw [Mine.look_cons, List.lookup_cons]
 by_cases h : x = y
 ·subst h
  rw [eI.mpr rfl, cond_true, beq_self_eq_true]
  exact e
 ·rw [eqS_no h, cond_false, beq_false_of_ne (Ne.symm h)]
  exact r
theorem OptR.some_eq {ρ : List Addr} {o : Option V} {x : Option Value} (h : OptR ρ o x) : o.isSome = x.isSome := by
 cases o with
 | none => cases x with
  | none => rfl
  | some => exact h.elim
 | some => cases x with
  | none => exact h.elim
  | some => rfl
theorem DR.app {ρ : List Addr} {m n : List (Str × V)} {k j : List (Str × Value)} (a : DR ρ m k) (h : DR ρ n j) : DR ρ (m ++ n) (k ++ j) := a.ind (p := fun m k => DR ρ (m ++ n) (k ++ j)) h fun _ _ _ _ _ e _ r => ⟨rfl, e, r⟩
theorem DR.zip {ρ : List Addr} {ns : List Str} : ∀ {vs : List V} {us : List Value}, cQ ρ vs us → DR ρ (ns.zip vs) (ns.zip us) := by
 induction ns with
 | nil => intro vs us _; rw [List.zip_nil_left, List.zip_nil_left]; trivial
 | cons x ns ih =>
  intro vs us h
  cases vs with
  | nil => cases us with
   | nil => trivial
   | cons => exact h.elim
  | cons v vs => cases us with
   | nil => exact h.elim
   | cons u us => exact ⟨rfl, h.1, ih h.2⟩
noncomputable def fillU (slots : List (Str × Value)) : List (Str × Value) → List (Str × Value)
 | [] => slots
 | (x, d) :: l => if (slots.lookup x).isNone then fillU (slots ++ [(x, d)]) l else fillU slots l
theorem fill_ok {ρ : List Addr} {l : List (Str × V)} {l' : List (Str × Value)} {m : List (Str × V)} {k : List (Str × Value)} (a : DR ρ l l') (h : DR ρ m k) : DR ρ (fillD m l) (fillU k l') := a.ind (p := fun l l' => ∀ m k, DR ρ m k → DR ρ (fillD m l) (fillU k l')) (fun _ _ h => h) (fun x d l u l' e _ r m k h => by
 have := (h.lookup x).some_eq
 show DR ρ (bif (look m x).isSome then fillD m l else fillD (m ++ [(x, d)]) l) (if (k.lookup x).isNone then fillU (k ++ [(x, u)]) l' else fillU k l')
 rw [this]
 cases List.lookup x k with
 | none => exact r _ _ (h.app ⟨rfl, e, trivial⟩)
 | some z => exact r _ _ h) m k h
theorem pick_ok {ρ : List Addr} {m : List (Str × V)} {k : List (Str × Value)} (h : DR ρ m k) (ns : List Str) : DR ρ (pick m ns) (ns.filterMap fun n => (k.lookup n).map fun v => (n, v)) := by
 induction ns with
 | nil => trivial
 | cons x ns ih =>
  rw [List.filterMap_cons]
  have := h.lookup x
  show DR ρ (match look m x with | some v => (x, v) :: pick m ns | none => pick m ns) _
  revert this
  cases look m x with
  | none => cases List.lookup x k with
   | none => exact fun _ => ih
   | some z => exact fun h => h.elim
  | some v => cases List.lookup x k with
   | none => exact fun h => h.elim
   | some z => exact fun h => ⟨rfl, h, ih⟩
section
variable {P : Program} {w : World} {A : Around} {E : Value → Shared → Prop} {s : Shared}
theorem forIn_fill : ∀ (l : List (Str × Value)) (slots : List (Str × Value)), (forIn l slots fun (x : Str × Value) (r : List (Str × Value)) => if (r.lookup x.1).isNone = true then (pure (ForInStep.yield (r ++ [(x.1, x.2)])) : Sem _) else pure (ForInStep.yield r)) = pure (fillU slots l)
 | [], _ => rfl
 | (x, d) :: l, slots => by
  rw [List.forIn_cons]
  unfold fillU
  cases (slots.lookup x).isNone with
  | true => simp only [if_true, pure_bind]; exact forIn_fill l _
  | false => simp only [Bool.false_eq_true, if_false, pure_bind]; exact forIn_fill l _
theorem wpAny_eq {α : Type} {a b : Sem α} {Q : α → Shared → Prop} (h : a = b) (H : wpAny (model P w) A b Q E s) : wpAny (model P w) A a Q E s := h ▸ H
theorem bind_go {fd : FuncData} {us dus : List Value} {ar : List Arg} {kd : List (Option PySem.Expr)} {dd : List PySem.Expr} (hps : fd.params = ⟨[], ar, none, [], kd, none, dd⟩) (h1 : us.length ≤ (ar.map (·.arg)).length) (h2 : dus.length ≤ (ar.map (·.arg)).length)
  (hm : ((ar.map (·.arg)).take ((ar.map (·.arg)).length - dus.length)).filter (fun n => (((ar.map (·.arg)).zip us).lookup n).isNone) = [])
  {od : Option (Array Value)} (hod : (od.getD #[]).toList = dus) (hseq : ∀ (Q : Option (Array Value) → Shared → Prop), Q od s → wpAny (model P w) A (seqItems? fd.defaults) Q E s) {Q : List (Str × Value) → Shared → Prop} (q : Q ((ar.map (·.arg)).filterMap fun n => ((fillU ((ar.map (·.arg)).zip us) (((ar.map (·.arg)).drop ((ar.map (·.arg)).length - dus.length)).zip dus)).lookup n).map fun v => (n, v)) s) : wpAny (model P w) A (bindArgs fd ⟨us, []⟩) Q E s := by
 obtain ⟨n1, qn, ps, bd, sc, gl, cl, df, kw, dc, pm, an, cd, ct⟩ := fd
 subst hps
 unfold bindArgs
 refine wpAny_bind (m := pure _) (wpAny_pure ?_)
 refine wpAny_bind (hseq _ ?_)
 refine wpAny_eq (if_neg ?_) ?_
 ·intro h
  have h := aL h
  exact Nat.not_lt.mpr h1 (of_decide_eq_true h)
 have e2 : (od.getD #[]).toList.drop ((od.getD #[]).toList.length - (ar.map fun x : Arg => x.arg).length) = dus := by rw [hod, Nat.sub_eq_zero_of_le h2, List.drop_zero]
 refine wpAny_eq (if_neg ?_) ?_
 ·intro h
  change (!(((ar.map fun x : Arg => x.arg).take ((ar.map fun x : Arg => x.arg).length - ((od.getD #[]).toList.drop ((od.getD #[]).toList.length - (ar.map fun x : Arg => x.arg).length)).length)).filter (fun n => (((ar.map fun x : Arg => x.arg).zip us).lookup n).isNone)).isEmpty) = true at h
  rw [e2, hm] at h
  exact Bool.noConfusion h
 refine wpAny_bind (wpAny_eq (forIn_fill _ _) (wpAny_pure ?_))
 refine wpAny_bind (m := pure _) (wpAny_pure ?_)
 refine wpAny_eq (if_neg Bool.noConfusion) ?_
 refine wpAny_pure ?_
 change Q (((ar.map fun x : Arg => x.arg) ++ []).filterMap fun n => ((fillU ((ar.map fun x : Arg => x.arg).zip us) (((ar.map fun x : Arg => x.arg).drop ((ar.map fun x : Arg => x.arg).length - ((od.getD #[]).toList.drop ((od.getD #[]).toList.length - (ar.map fun x : Arg => x.arg).length)).length)).zip ((od.getD #[]).toList.drop ((od.getD #[]).toList.length - (ar.map fun x : Arg => x.arg).length)))).lookup n).map fun v => (n, v)) s
 rw [e2, List.append_nil]
 exact q
theorem bind_ok {ρ : List Addr} {fd : FuncData} {vs ds : List V} {us dus : List Value} {binds : List (Str × V)} (hp : plainPs fd.params = true) (hm : bindPs (fd.params.args.map (·.arg)) vs ds = some binds) (hv : cQ ρ vs us) (hd : cQ ρ ds dus)
  {od : Option (Array Value)} (hod : (od.getD #[]).toList = dus) (hseq : ∀ (Q : Option (Array Value) → Shared → Prop), Q od s → wpAny (model P w) A (seqItems? fd.defaults) Q E s) {Q : List (Str × Value) → Shared → Prop} (q : ∀ bs, DR ρ binds bs → Q bs s) : wpAny (model P w) A (bindArgs fd ⟨us, []⟩) Q E s := by
 revert hm; refine iQ fun hc hm => ?_
 refine iF (fun ha q1 => ?_) hm; subst q1
 have hvl := hv.len
 have hdl := hd.len
 have h1 := nL (aL hc)
 have h2 := nL (aR hc)
 rw [hvl] at h1
 rw [hdl] at h2 ha
 refine bind_go (plainPs_ok hp) h1 h2 ?_ hod hseq (q _ ?_)
 ·refine List.filter_eq_nil_iff.mpr fun x hx h5 => ?_
  have h3 := (List.all_eq_true.mp ha) x hx
  rw [((DR.zip (ns := fd.params.args.map (·.arg)) hv).lookup x).some_eq, Option.isNone_iff_eq_none.mp h5] at h3
  exact Bool.noConfusion h3
 ·rw [hdl]
  exact pick_ok (fill_ok (DR.zip hd) (DR.zip hv)) _
end
end
section
variable [Tau]
section
variable {P : Program} {w : World} {g : Cx} {K : Frag} {T : List Addr} {n : Nat} {r : Rc} {l : List Env} {A : Around} {X Y : Wl} {σ σ' : St} {s s' : Shared} {f : Fr} {env : Env} {E : Value → Shared → Prop} {F : Cx}
noncomputable def Wl.refr (X : Wl) (fr : List Nat) : Wl := { X with fr := fr }
theorem pQ.refr {fr : List Nat} {ob : Obj} {o : O} (h : pQ P w X ob o) : pQ P w (X.refr fr) ob o := by
 induction o with
 | ro o ih => exact ih h
 | _ => exact h
theorem Rel.refr {fr : List Nat} (R : Rel P w X σ s) (h : ∀ k ∈ fr, ∃ m : List (Str × V), σ.get k = some (.ns m)) : Rel P w (X.refr fr) σ s :=
 ⟨R.keep, R.fresh, R.nodup, R.len, R.room, fun n o e j => let ⟨a, ob, h1, h2, h3⟩ := R.objs n o e j; ⟨a, ob, h1, h2, h3.refr⟩, R.all, h, R.gens, R.os, R.sys⟩
theorem cells_rel : ∀ (names : List (Str × NameKind)) {X : Wl} {σ σ' : St} {s : Shared} {acc : List (Str × Nat)} {acc' : List (Str × Addr)}, Rel P w X σ s → fJ X.ρ acc acc' → hJ (List.replicate (nCells names) (.cell none)) σ = some σ' →
  ∃ Y, X.Le Y ∧ Rel P w Y σ' { s with heap := pushCells s.heap names } ∧ fJ Y.ρ (cellsOf σ.size names acc) (cellsFrom s.heap.objs.size names acc')
 | [], X, σ, σ', s, acc, acc', R, hc, h => by
  injection h with q1; subst q1
  exact ⟨X, .refl X, R, hc⟩
 | (x, k) :: names, X, σ, σ', s, acc, acc', R, hc, h => by
  unfold pushCells cellsFrom cellsOf
  unfold nCells at h
  refine cZ (isCellK k) (fun hk => ?_) (fun hk => ?_)
  ·
   have : (k == NameKind.cell) = true := by cases k <;> first | rfl | injection hk
   rw [hk, cond_true] at h
   rw [if_pos this, if_pos this, cond_true, bZ]
   rw [List.replicate_succ] at h
   unfold hJ at h
   revert h; refine iQ fun hz h => ?_
   rw [St.pushF_eq] at h
   have R1 : Rel P w (X.add s.heap.objs.size) (σ.push (.cell none)) { s with heap := s.heap.push { cls := .type "cell", data := .cell none } } :=
    R.alloc (bI.mp hz) (Heap.get?_none_of_le (Nat.le_refl _)) (fun b o eb => Heap.get?_push_of_some _ eb) (Heap.get?_push_size _ rfl) ⟨none, rfl, trivial⟩
   refine xvppp (fun Y h1 h2 h3 => ?_) (cells_rel names (acc := (x, σ.size) :: acc) (acc' := (x, s.heap.objs.size) :: acc') R1 ⟨rfl, Wl.add_get R.len, hc.mono (X.le_add _).r⟩ h)
   refine ⟨Y, (X.le_add _).trans h1, h2, ?_⟩
   have e : ({ s with heap := s.heap.push { cls := .type "cell", data := .cell none } } : Shared).heap.objs.size = s.heap.objs.size + 1 := Heap.size_push ..
   rw [e] at h3
   exact h3
  ·
   have : ¬ (k == NameKind.cell) = true := by cases k <;> first | decide | injection hk
   rw [hk, cond_false] at h
   rw [if_neg this, if_neg this, cond_false]
   exact cells_rel names R hc h
theorem storeBinds_ok {l' : List Env} (e : bQ l' X f env) (F : Str × Value → PUnit → Sem (ForInStep PUnit)) (hF : ∀ n v u, F (n, v) u = (do storeName env n v; pure (.yield ⟨⟩))) : ∀ (m : List (Str × V)) {k : List (Str × Value)} {σ σ' : St} {s : Shared} {Q : PUnit → Shared → Prop}, Sit P w g K T n l A X σ s → storeNs f (m.map (·.1)) (m.map (·.2)) σ = some σ' → DR X.ρ m k → (∀ s', Rel P w X σ' s' → Q ⟨⟩ s') →
  wpAny (model P w) A (forIn k ⟨⟩ F) Q E s := by
 intro m
 induction m with
 | nil =>
  intro k σ σ' s Q S h hd q
  cases k with
  | nil => injection h with q1; subst q1; exact wpAny_pure (q _ S.rel)
  | cons => exact hd.elim
 | cons x m ih =>
  intro k σ σ' s Q S h hd q
  obtain ⟨x, v⟩ := x
  cases k with
  | nil => exact hd.elim
  | cons y k =>
   obtain ⟨y, u⟩ := y
   revert hd; refine xppp fun h1 h2 h3 => ?_
   subst h1
   revert h; refine oB fun p hp h => ?_
   injection hp with q1; subst q1
   revert h; refine oB fun σ₁ hs h => ?_
   rw [List.forIn_cons, hF]
   exact wpAny_bind (wpAny_bind (store_ok S e h2 hs fun s' hr => wpAny_pure (ih (S.rel' hr) h h3 q)))
inductive FnAt (X : Wl) (s : Shared) (a : Addr) (cl : List (Str × Nat)) (tab : Option Nat) (ds : List V) : Arguments → FuncBody → Scope → Str → Prop
 | mk (o : Obj) (fd : FuncData) (dus : List Value) (ho : s.heap.get? a = some o) (hdt : o.data = .func fd) (hgl : fd.globals = mainGlobals) (hbl : fd.builtins = builtinsNs) (hcl : fJ X.ρ cl fd.closure) (hcode : s.heap.CodeRec fd.code fd.qualname)
  (hds : cQ X.ρ ds dus) (hdf : (dus = [] ∧ fd.defaults = .none) ∨ ∃ d n, fd.defaults = .ref d ∧ s.heap.get? d = some (eZ false dus.toArray n)) (htab : ∀ t, tab = some t → ∃ c P, fd.code = .ref c ∧ X.ρ[t]? = some P ∧ CodeHd X.B c P) : FnAt X s a cl tab ds fd.params fd.body fd.scope fd.qualname
theorem FnAt.of {X : Wl} {s : Shared} {a : Addr} {cl : List (Str × Nat)} {tab : Option Nat} {ds : List V} {ps : Arguments} {b : FuncBody} {sc : Scope} {q : Str} {o : Obj} {fd : FuncData} {dus : List Value} (ho : s.heap.get? a = some o) (hdt : o.data = .func fd) (e1 : fd.params = ps) (e2 : fd.body = b) (e3 : fd.scope = sc) (e4 : fd.qualname = q) (hgl : fd.globals = mainGlobals) (hbl : fd.builtins = builtinsNs) (hcl : fJ X.ρ cl fd.closure) (hcode : s.heap.CodeRec fd.code fd.qualname)
  (hds : cQ X.ρ ds dus) (hdf : (dus = [] ∧ fd.defaults = .none) ∨ ∃ d n, fd.defaults = .ref d ∧ s.heap.get? d = some (eZ false dus.toArray n)) (htab : ∀ t, tab = some t → ∃ c P, fd.code = .ref c ∧ X.ρ[t]? = some P ∧ CodeHd X.B c P) : FnAt X s a cl tab ds ps b sc q := by
 subst e1 e2 e3 e4
 exact .mk o fd dus ho hdt hgl hbl hcl hcode hds hdf htab
theorem plainSc_ok {sc : Scope} (h : plainSc sc = true) : sc.kind = .function ∧ sc.isCoroutine = false ∧ sc.isGenerator = false := by
 unfold plainSc at h
 simp only [Bool.and_eq_true, Bool.not_eq_true'] at h
 refine ⟨?_, h.2.1, h.2.2⟩
 have h1 := h.1
 revert h1
 cases sc.kind <;> first | (intro; rfl) | (intro q; exact absurd q (by decide))
theorem body_ok (D : Snd P w g K T n r) (S : Sit P w g K T n l A X σ s) (hdp : A.depth + 3 * n + 1 ≤ 999) (hun : A.units + 10 * n + 3 ≤ 9000) (hy : X.Le Y) (hr : Rel P w Y σ' s') {k : Nat} {m : List (Str × V)} {L : Addr} (hk : σ'.get k = some (.ns m)) (hL : Y.ρ[k]? = some L) {b : FuncBody}
  (e : bQ (env :: l) (Y.refr (k :: Y.fr)) f env) (hf : env.frame = some L) (hloc : f.loc = k) {Q : Value → Shared → Prop} (H : OK P w g l X RV Q E (body1 r f b σ')) {R : Result → Shared → Prop} (hQ : ∀ v s', Q v s' → R (.ok (.ret v)) s') (hE : ∀ x s', E x s' → R (.error x) s') :
  match b with
  | .stmts body => codeAny (model P w) A (.func body env) R s'
  | .expr x => codeAny (model P w) A (.expr x env) R s' := by
 have S₁ := S.next hy hr
 have SC : Sit P w g K T n (env :: l) (A.deeper env) (Y.refr (k :: Y.fr)) σ' s' := by
  refine ⟨⟨S.a.hand, Around.frames_deeper S.a.frames, ?_, ?_⟩, ?_, S₁.cx, S₁.tabs, ?_⟩
  ·show A.depth + 1 + 3 * n ≤ 999
   omega
  ·show A.units + 3 + 10 * n ≤ 9000
   omega
  ·intro hqt env' he'
   rcases List.mem_cons.mp he' with rfl | he'
   ·exact ⟨by rw [e.fkind]; decide, L, k, hf, .head _, hL⟩
   ·refine xpvvppp (fun h1 L' k' h2 h3 h4 => ?_) (S₁.fr hqt env' he')
    exact ⟨h1, L', k', h2, .tail _ h3, h4⟩
  ·refine hr.refr fun k' hk' => ?_
   rcases List.mem_cons.mp hk' with rfl | hk'
   ·exact ⟨m, hk⟩
   ·exact hr.frs k' hk'
 have back : ∀ {V : Wl} {σ₂ : St} {s₂ : Shared}, (Y.refr (k :: Y.fr)).Le V → Rel P w V σ₂ s₂ → X.Le (V.refr X.fr) ∧ Rel P w (V.refr X.fr) σ₂ s₂ := fun {V σ₂ s₂} hv hrv => by
  refine ⟨⟨fun b o q => hv.b b o (hy.b b o q), hy.r.trans hv.r, rfl, hv.g.trans hy.g, hv.o.trans hy.o⟩, hrv.refr fun k' hk' => hrv.frs k' ?_⟩
  rw [hv.f]
  exact .tail _ (hy.f.symm ▸ hk')
 have exc : ∀ {V : Wl} {σ₂ : St} {s₂ : Shared} {x : Addr} {md : Ex}, (Y.refr (k :: Y.fr)).Le V → Rel P w V σ₂ s₂ → ExcR g (env :: l) V σ₂ s₂ x md → OK P w g l X RV Q E (.exc .fly σ₂) →
   wpAny (model P w) (A.deeper env) (leaving env (.ref x)) (fun _ s'' => R (.error (.ref x)) s'') (fun e' s'' => R (.error e') s'') s₂ := fun {V σ₂ s₂ x md} hv hrv hx H => by
  refine leave_ok (Around.frames_deeper S.a.frames) hf hrv hx fun s₃ hr₃ hx₃ => hE _ _ ?_
  refine xpp (fun h1 h2 => ?_) (back hv hr₃)
  exact H _ s₃ x h1 h2 ⟨hx₃.1, fun env' he' => let ⟨h1, L', k', h2, h3, h4⟩ := S₁.fr hx₃.1 env' he'; ⟨h1, L', k', h2, hy.f ▸ h3, pG hv.r h4⟩, hx₃.2.2⟩
 unfold body1 at H
 cases b with
 | stmts body =>
  dsimp only at H ⊢
  refine codeAny_func (D.exs SC e ?_)
  cases hx : r.exs f body σ' with
  | stop => rw [hx] at H; exact H.elim
  | exc md σ₂ => rw [hx] at H; exact fun V s₂ x hv hrv hx => exc hv hrv hx H
  | ok q σ₂ =>
   rw [hx] at H
   cases q with
   | next =>
    intro V s₂ u hv hrv hu
    cases hu
    refine xpp (fun h1 h2 => ?_) (back hv hrv)
    exact hQ _ _ (H _ s₂ .none h1 h2 rfl)
   | ret v =>
    intro V s₂ u hv hrv hu
    revert hu; refine aQ fun u' q1 hu => ?_; subst q1
    refine xpp (fun h1 h2 => ?_) (back hv hrv)
    exact hQ _ _ (H _ s₂ u' h1 h2 hu)
 | expr x =>
  dsimp only at H ⊢
  refine kla_codeExpr (D.ev SC e ?_)
  cases hx : r.ev f x σ' with
  | stop => rw [hx] at H; exact H.elim
  | exc md σ₂ => rw [hx] at H; exact fun V s₂ x hv hrv hx => exc hv hrv hx H
  | ok v σ₂ =>
   rw [hx] at H
   intro V s₂ u hv hrv hu
   refine xpp (fun h1 h2 => ?_) (back hv hrv)
   exact hQ _ _ (H _ s₂ u h1 h2 hu)
end
end
section
variable [Tau]
theorem DR.rev {ρ : List Addr} {m : List (Str × V)} {k : List (Str × Value)} (a : DR ρ m k) : DR ρ m.reverse k.reverse := a.ind (p := fun m k => DR ρ m.reverse k.reverse) trivial fun x v m u k e _ r => by
 rw [List.reverse_cons, List.reverse_cons]
 exact r.app ⟨rfl, e, trivial⟩
theorem DR.mem {ρ : List Addr} (m : List (Str × V)) {k : List (Str × Value)} (a : DR ρ m k) : ∀ x ∈ k, ∃ y ∈ m, y.1 = x.1 := a.ind (p := fun m k => ∀ x ∈ k, ∃ y ∈ m, y.1 = x.1) (fun x h => by cases h) fun x v m u k _ _ r z hz => by
 rcases List.mem_cons.mp hz with rfl | hz
 ·exact ⟨_, .head _, rfl⟩
 ·refine aQ (fun y hy e => ?_) (r z hz)
  exact ⟨y, .tail _ hy, e⟩
theorem nCells_none : ∀ {names : List (Str × NameKind)}, nCells names = 0 → ∀ x ∈ names, x.2 ≠ .cell
 | (y, k) :: names, h, x, hx, q => by
  unfold nCells at h
  refine nJ (isCellK k) (fun hk => ?_) (fun hk => ?_)
  ·rw [hk, cond_true] at h; injection h
  ·
   rw [hk, cond_false] at h
   rcases List.mem_cons.mp hx with rfl | hx
   ·rw [show k = .cell from q] at hk; injection hk
   ·exact nCells_none h x hx q
section
variable {P : Program} {w : World} {g : Cx} {K : Frag} {T : List Addr} {n : Nat} {r : Rc} {l : List Env} {A : Around} {X Y : Wl} {σ σ' : St} {s s' : Shared} {f : Fr} {env : Env} {E : Value → Shared → Prop} {F : Cx}
theorem pushAll_get : ∀ (os : List O) {σ σ' : St}, hJ os σ = some σ' → ∀ {n : Nat} {o : O}, σ.get n = some o → σ'.get n = some o
 | [], σ, σ', h, n, o, e => by (injection h with q1; subst q1); exact e
 | o' :: os, σ, σ', h, n, o, e => by
  unfold hJ at h
  revert h; refine iQ fun hz h => ?_
  rw [St.pushF_eq] at h
  refine pushAll_get os h ?_
  rw [St.get_push (bI.mp hz), if_neg (Nat.ne_of_lt (St.get_lt e))]
  exact e
omit [Tau] in
theorem storeN_ns {x : Str} {v : V} (hs : σ.size ≤ 4096) (h : storeN f σ x v = some σ') {k : Nat} {m : List (Str × V)} (hk : σ.get k = some (.ns m)) : σ'.size = σ.size ∧ ∃ m', σ'.get k = some (.ns m') := by
 have hN := storeI h
 clear h
 induction hN with
 | loc m' q1 hm =>
  refine ⟨rfl, ?_⟩
  rw [St.get_set (St.get_lt hm) hs]
  by_cases q : k = f.loc
  ·rw [if_pos q]; exact ⟨_, rfl⟩
  ·rw [if_neg q]; exact ⟨m, hk⟩
 | cell c v' q1 hc hm =>
  refine ⟨rfl, m, ?_⟩
  rw [St.get_set (St.get_lt hm) hs, if_neg (fun q => by rw [q, hm] at hk; injection hk with q2; injection q2)]
  exact hk
theorem storeNs_ns' (xs : List Str) : ∀ {vs : List V} {σ σ' : St}, σ.size ≤ 4096 → storeNs f xs vs σ = some σ' → ∀ {k : Nat} {m : List (Str × V)}, σ.get k = some (.ns m) → ∃ m', σ'.get k = some (.ns m') := by
 induction xs with
 | nil =>
  intro vs σ σ' hs h k m hk
  refine iF (fun _ q1 => ?_) h; subst q1
  exact ⟨m, hk⟩
 | cons x xs ih =>
  intro vs σ σ' hs h k m hk
  revert h; refine oB fun p _ h => ?_
  revert h; refine oB fun σ₁ h1 h => ?_
  refine xpvp (fun h2 m' h3 => ?_) (storeN_ns hs h1 hk)
  exact ih (h2 ▸ hs) h h3
theorem Sit.in1 (S : Sit P w g K T n l A X σ s) (hun : A.units + 10 * n + 3 ≤ 9000) : Sit P w g K T n l A.in1 X σ s :=
 ⟨⟨S.a.hand, S.a.frames, S.a.depth, by show A.units + 1 + 10 * n ≤ 9000; omega⟩, S.fr, S.cx, S.tabs, S.rel⟩
noncomputable abbrev retR (Q : Value → Shared → Prop) (E : Value → Shared → Prop) : Result → Shared → Prop := fun r s' => match r with | .ok (.ret v) => Q v s' | .ok _ => False | .error e => E e s'
theorem isLocK_ok {sc : Scope} {x : Str} (h : isLocK (wQ sc x) = true) : sc.names.lookup x = some .local := (look_eq x sc.names).symm.trans (isLocK_eq h)
noncomputable def EntK (P : Program) (w : World) (g : Cx) (l : List Env) (X : Wl) (r : Rc) (b : FuncBody) (Q : Value → Shared → Prop) (E : Value → Shared → Prop) (C : Env → Shared → Prop) : Prop := ∀ Y σ' s' k (m : List (Str × V)) L env f, X.Le Y → Rel P w Y σ' s' → σ'.get k = some (.ns m) → Y.ρ[k]? = some L → bQ (env :: l) (Y.refr (k :: Y.fr)) f env → env.frame = some L → f.loc = k → OK P w g l X RV Q E (body1 r f b σ') → C env s'
noncomputable def EntW (P : Program) (w : World) (A : Around) (fd : FuncData) (a : Addr) (C : Env → Shared → Prop) (Eb : Value → Shared → Prop) (bs : List (Str × Value)) (s : Shared) : Prop :=
 wpAny (model P w) A (newFunctionEnv fd.scope fd.globals fd.closure bs (fd.qualname ++ ".<locals>.") (some a) fd.code none fd.builtins) (fun env s₂ => s₂.heap.NoLimit ∧ C env s₂) Eb s
section
variable {fd : FuncData} {a : Addr} {cl : List (Str × Nat)} {tab : Option Nat} {Q : Value → Shared → Prop} {C : Env → Shared → Prop} {Eb : Value → Shared → Prop} {bs : List (Str × Value)} {binds : List (Str × V)}
theorem Sit.lim (S : Sit P w g K T n l A X σ s) (hy : X.Le Y) (hr : Rel P w Y σ' s') : s'.heap.NoLimit := (S.cx.nolimit.keeps hy.b).keeps hr.keep
theorem enter_flat (S : Sit P w g K T n l A X σ s) (hk : fd.scope.kind = .function) (hgl : fd.globals = mainGlobals) (hbl : fd.builtins = builtinsNs) (hcl : fJ X.ρ cl fd.closure) (htab : ∀ t, tab = some t → ∃ c P, fd.code = .ref c ∧ X.ρ[t]? = some P ∧ CodeHd X.B c P)
  (hbs : DR X.ρ binds bs) (hn : Nat.beq (nCells fd.scope.names) 0 = true) (H : OK P w g l X RV Q E (enterF r fd.body fd.scope fd.qualname cl tab binds σ)) (hC : EntK P w g l X r fd.body Q E C) : EntW P w A.in1 fd a C Eb bs s := by
 refine xpp (fun hal H => ?_) (H.bif)
 refine aQ (fun σ' hp H => ?_) (H.om)
 revert hp; refine iQ fun hz hp => ?_
 injection hp with q1; subst q1
 rw [St.pushF_eq] at H
 replace hz := bI.mp hz
 have hl : ∀ x ∈ bs, fd.scope.names.lookup x.1 = some .local := fun x hx => by
  refine aQ (fun y hy e => ?_) (DR.mem _ hbs x hx)
  exact e ▸ isLocK_ok (List.all_eq_true.mp hal y hy)
 refine wpAny_newFunctionEnv (nCells_none (nE hn)) hl (fun h' hns hsb => ?_) hk
 revert hns; refine xvvvpppp fun ob es ep k1 k2 k3 k4 => ?_
 have R1 : Rel P w (X.add s.heap.objs.size) (σ.push (.ns binds.reverse)) { s with heap := h', toks := s.toks + bs.length } :=
  S.rel.alloc hz (Heap.get?_none_of_le (Nat.le_refl _)) (fun b o eb => hsb.extBut b o (Nat.ne_of_lt (Heap.lt_size eb)) (Heap.get?_push_of_some _ eb)) k1
   ⟨es, ep, k2, k3, fun x => by rw [k4 x]; exact ((hbs.mono (X.le_add _).r).rev).lookup x⟩
 have hL : (X.add s.heap.objs.size).ρ[σ.size]? = some s.heap.objs.size := Wl.add_get S.rel.len
 exact ⟨S.lim (X.le_add _) R1, hC (X.add s.heap.objs.size) _ _ σ.size binds.reverse s.heap.objs.size _ ⟨σ.size, fd.scope, cl, fd.qualname ++ sOf ".<locals>.", tab⟩ (X.le_add _) R1 (by rw [St.get_push hz, if_pos rfl]) hL
  ⟨⟨_, l, _, rfl, rfl, rfl⟩, rfl, hk, hL, hgl, hbl, hcl.mono (X.le_add _).r, rfl, fun t ht => let ⟨c, P, h1, h2, h3⟩ := htab t ht; ⟨c, P, h1, pG (X.le_add _).r h2, h3⟩⟩ rfl rfl H⟩
theorem enter_cells (S : Sit P w g K T n l A.in1 X σ s) (hk : fd.scope.kind = .function) (hgl : fd.globals = mainGlobals) (hbl : fd.builtins = builtinsNs) (hcl : fJ X.ρ cl fd.closure) (htab : ∀ t, tab = some t → ∃ c P, fd.code = .ref c ∧ X.ρ[t]? = some P ∧ CodeHd X.B c P)
  (hbs : DR X.ρ binds bs) (H : OK P w g l X RV Q E (enterC r fd.body fd.scope fd.qualname cl tab binds σ)) (hC : EntK P w g l X r fd.body Q E C) : EntW P w A.in1 fd a C Eb bs s := by
 refine aQ (fun σ₁ hp H => ?_) (H.om)
 refine aQ (fun σ₂ hst H => ?_) (H.om)
 revert hp; refine iQ fun hz hp => ?_
 rw [St.pushF_eq] at hp
 replace hz := bI.mp hz
 unfold EntW
 simp only [newFunctionEnv, Option.isSome_none, Bool.false_eq_true, if_false]
 refine wpAny_bind (wpAny_alloc ?_)
 refine wpAny_bind (wpAny_layCells _ (fun name kind cells => by cases hkc : kind == NameKind.cell <;> simp [hkc]) _ _ _ _ ?_)
 have R1 : Rel P w (X.add s.heap.objs.size) (σ.push (.ns [])) { s with heap := s.heap.push { cls := .type "frame", data := .dict #[] } } :=
  S.rel.alloc hz (Heap.get?_none_of_le (Nat.le_refl _)) (fun b o eb => Heap.get?_push_of_some _ eb) (Heap.get?_push_size _ rfl)
   ⟨#[], 0, rfl, fun e he => by simp at he, fun x => by simp [look_nil, nsFind, findBy]; trivial⟩
 refine xvppp (fun Y h1 R2 hcs => ?_) (cells_rel fd.scope.names R1 (hcl.mono (X.le_add _).r) hp)
 have hle := (X.le_add s.heap.objs.size).trans h1
 have hL : Y.ρ[σ.size]? = some s.heap.objs.size := pG h1.r (Wl.add_get S.rel.len)
 rw [St.size_push] at hcs
 have e1 : ({ s with heap := s.heap.push { cls := .type "frame", data := .dict #[] } } : Shared).heap.objs.size = s.heap.objs.size + 1 := Heap.size_push ..
 rw [e1] at hcs ⊢
 have eE : ∀ Z : Wl, Y.Le Z → bQ (newEnv fd.scope s.heap.objs.size fd.globals (cellsFrom (s.heap.objs.size + 1) fd.scope.names fd.closure) (fd.qualname ++ ".<locals>.") (some a) fd.code none fd.builtins :: l) Z
   ⟨σ.size, fd.scope, cellsOf (σ.size + 1) fd.scope.names cl, fd.qualname ++ sOf ".<locals>.", tab⟩
   (newEnv fd.scope s.heap.objs.size fd.globals (cellsFrom (s.heap.objs.size + 1) fd.scope.names fd.closure) (fd.qualname ++ ".<locals>.") (some a) fd.code none fd.builtins) := fun Z hz =>
  ⟨⟨_, l, _, rfl, rfl, rfl⟩, rfl, hk, pG hz.r hL, hgl, hbl, hcs.mono hz.r, rfl, fun t ht => let ⟨c, P, h1, h2, h3⟩ := htab t ht; ⟨c, P, h1, pG (hle.trans hz).r h2, h3.keeps (hle.trans hz).b⟩⟩
 refine wpAny_bind (storeBinds_ok (eE Y (.refl Y)) _ (fun _ _ _ => rfl) binds (S.next hle R2) hst (hbs.mono hle.r) fun s₂ hr₂ => wpAny_pure ⟨S.lim hle hr₂, ?_⟩)
 refine xvp (fun m' hm' => ?_) (storeNs_ns' _ R2.room hst (pushAll_get _ hp (show (σ.push (.ns [])).get σ.size = some (.ns []) by rw [St.get_push hz, if_pos rfl])))
 have e0 := eE Y (.refl Y)
 exact hC Y _ _ σ.size m' s.heap.objs.size _ ⟨σ.size, fd.scope, cellsOf (σ.size + 1) fd.scope.names cl, fd.qualname ++ sOf ".<locals>.", tab⟩ hle hr₂ hm' hL ⟨e0.frm, e0.scope, e0.kind, e0.loc, e0.glob, e0.blt, e0.cells, e0.qual, e0.tab⟩ rfl rfl H
end
theorem enter_code (D : Snd P w g K T n r) (S : Sit P w g K T n l A X σ s) (hdp : A.depth + 3 * n + 1 ≤ 999) (hun : A.units + 10 * n + 3 ≤ 9000) {a : Addr} {ps : Arguments} {b : FuncBody} {sc : Scope} {qual : Str} {cl : List (Str × Nat)} {tab : Option Nat} {ds vs : List V} {us : List Value}
  (hfn : FnAt X s a cl tab ds ps b sc qual) (hv : cQ X.ρ vs us) {Q : Value → Shared → Prop} (H : OK P w g l X RV Q E (enter r ps b sc qual cl tab ds vs σ)) : codeAny (model P w) A (.call (.ref a) ⟨us, []⟩) (retR Q E) s := by
 induction hfn with
 | mk o fd dus ho hdt hgl hbl hcl hcode hds hdf htab =>
 refine xpp (fun hc H => ?_) (H.bif)
 refine xppp (fun hk hco hgen => ?_) (plainSc_ok (aL hc))
 refine aQ (fun binds hb H => ?_) (H.om)
 have hroom : A.depth < recursionLimit := Nat.lt_of_le_of_lt (Nat.le_trans (Nat.le_trans (Nat.le_add_right _ (3 * n)) (Nat.le_succ _)) hdp) (by decide)
 have inner : ∀ (C : Env → Shared → Prop) (Eb : Value → Shared → Prop), EntK P w g l X r fd.body Q E C → wpAny (model P w) A.in1 (bindArgs fd ⟨us, []⟩) (EntW P w A.in1 fd a C Eb) Eb s := fun C Eb hC => by
  obtain ⟨od, hod, hseq⟩ : ∃ od : Option (Array Value), (od.getD #[]).toList = dus ∧ ∀ (Q : Option (Array Value) → Shared → Prop), Q od s → wpAny (model P w) A.in1 (seqItems? fd.defaults) Q Eb s := by
   rcases hdf with ⟨rfl, h⟩ | ⟨d, n, h, hd⟩
   ·exact ⟨none, rfl, fun Q q => by rw [h]; exact wpAny_pure q⟩
   ·exact ⟨some dus.toArray, by simp, fun Q q => by rw [h]; exact wpAny_seqItems hd rfl q⟩
  refine bind_ok (aR hc) hb hv hds hod hseq fun bs hbs => ?_
  refine nJ (Nat.beq (nCells fd.scope.names) 0) (fun hn => ?_) (fun hn => ?_)
  ·rw [hn] at H; exact enter_flat S hk hgl hbl hcl htab hbs hn H hC
  ·rw [hn] at H; exact enter_cells (S.in1 hun) hk hgl hbl hcl htab hbs H hC
 cases hbody : fd.body with
 | stmts body =>
  refine codeAny_call_function hroom ho hdt hco hgen hbody hcode (inner _ _ fun Y σ' s' k m L env f hy hr hk hL he hf hloc H => ?_)
  rw [hbody] at H
  exact body_ok (b := .stmts body) D S hdp hun hy hr hk hL he hf hloc H (R := retR Q E) (fun _ _ q => q) fun _ _ q => q
 | expr x =>
  refine kla_callFunE hroom ho hdt hco hgen hbody hcode (inner _ _ fun Y σ' s' k m L env f hy hr hk hL he hf hloc H => ?_)
  rw [hbody] at H
  exact body_ok (b := .expr x) D S hdp hun hy hr hk hL he hf hloc H (R := retR Q E) (fun _ _ q => q) fun _ _ q => q
end
end
section
variable [Tau]
section
variable {P : Program} {w : World} {g : Cx} {K : Frag} {T : List Addr} {n : Nat} {r : Rc} {l : List Env} {A : Around} {X Y : Wl} {σ σ' : St} {s s' : Shared} {f : Fr} {env : Env} {E : Value → Shared → Prop} {F : Cx}
theorem fn_old (S : Sit P w g K T n l A X σ s) {a : Nat} {ps : Arguments} {b : List Stmt} {sc : Scope} {q : Str} {ds : List V} {t : Option Nat} (h : lk g.olds a = some (.fn ps b sc q ds t)) : FnAt X s a [] t ds ps (.stmts b) sc q := by
 obtain ⟨od, fd, sl, h1, h2, h3, h4, h5, h6, h7, h8, h9, h10, h11, h12, h13⟩ := S.cx.olds a _ h
 have tabs : ∀ t', t = some t' → ∃ c P, fd.code = .ref c ∧ X.ρ[t']? = some P ∧ CodeHd X.B c P := fun t' ht => let ⟨c, P, e1, e2, e3⟩ := h13 t' ht; ⟨c, P, e1, pG S.tabs e2, e3⟩
 rcases h12 with ⟨rfl, h12⟩ | ⟨d, us, n, e1, e2, e3⟩
 ·exact .of (dus := []) (S.rel.keep _ _ h1) rfl h3 h4 h5 h6 h7 h8 (by rw [h9]; trivial) (jJ S.rel.keep h11) trivial (.inl ⟨rfl, h12⟩) tabs
 ·exact .of (dus := us.toList) (S.rel.keep _ _ h1) rfl h3 h4 h5 h6 h7 h8 (by rw [h9]; trivial) (jJ S.rel.keep h11) (e3.mono List.nil_prefix) (.inr ⟨d, n, e1, S.rel.keep _ _ e2⟩) tabs
theorem fn_new (S : Sit P w g K T n l A X σ s) {k : Nat} {a : Addr} {c : Fn} (h : σ.get k = some (.fn c)) (ha : X.ρ[k]? = some a) : FnAt X s a c.cl c.tab [] c.params c.body c.scope c.qual := by
 refine xvpddvpp (fun ob ho fd hd D => ?_) (S.rel.at h ha)
 exact .of (dus := []) ho hd D.params D.body D.scope D.qual D.globals D.builtins D.cells (jJ S.rel.keep D.code) trivial (.inl ⟨rfl, D.dflt⟩) D.tab
theorem room (S : Sit P w g K T (n + 1) l A X σ s) : A.depth + 3 * n + 1 ≤ 999 ∧ A.units + 10 * n + 3 ≤ 9000 := by
 have h1 := S.a.depth
 have h2 := S.a.units
 omega
theorem enter_ok (D : Snd P w g K T n r) (S : Sit P w g K T (n + 1) l A X σ s) {a : Addr} {ps : Arguments} {b : FuncBody} {sc : Scope} {qual : Str} {cl : List (Str × Nat)} {tab : Option Nat} {ds vs : List V} {us : List Value}
  (hfn : FnAt X s a cl tab ds ps b sc qual) (hv : cQ X.ρ vs us) {Q : Value → Shared → Prop} (H : OK P w g l X RV Q E (enter r ps b sc qual cl tab ds vs σ)) : wpAny (model P w) A (PySem.call (.ref a) us) Q E s :=
 wpAny_call (enter_code D S.less (room S).1 (room S).2 hfn hv H)
theorem tc_under (C : Addr) (us : List Value) : (A.under (.builtin "type.__call__" ⟨.ref C :: us, []⟩)) = { A with depth := A.depth + 1, units := A.units + 1 } := by
 unfold Around.under
 rfl
theorem make_ok (D : Snd P w g K T n r) (S : Sit P w g K T (n + 1) l A X σ s) {C : Nat} {mro : List Nat} {i : Nat} {ms : List (Str × Nat)} {as : List Str} (hC : lk g.olds C = some (.cls mro i ms as)) {ps : Arguments} {b : List Stmt} {sc : Scope} {q : Str} {ds : List V} {t : Option Nat}
  (hi : lk g.olds i = some (.fn ps b sc q ds t)) {σ₁ : St} (hp : hJ [.at [], .inst C σ.size] σ = some σ₁) {vs : List V} {us : List Value} (hv : cQ X.ρ vs us) {Q : Value → Shared → Prop}
  (H : OK P w g l X RV Q E ((enter r ps (.stmts b) sc q [] t ds (.new (σ.size + 1) :: vs) σ₁).bind fun v σ' => match v with
    | .none => .ok (.new (σ.size + 1)) σ'
    | _ => .stop "init")) : wpAny (model P w) A (PySem.call (.ref C) us) Q E s := by
 have cd : ClsD K C mro i ms as := S.cx.olds C _ hC
 have X₀ : K.In s.heap := fun a o e => S.rel.keep _ _ (S.cx.kin a o e)
 refine xpp (fun hz q1 => ?_) (pushAll_two hp); subst q1
 refine wpAny_call ?_
 obtain ⟨h, gg, d, tk, os⟩ := s
 refine make_core (makes_of X₀ cd.make) (looks_findIn X₀ cd.ini) (fun self => bind_fn X₀ self cd.inf) (.inl rfl) ?_
 rw [tc_under]
 have R1 : Rel P w (X.add h.objs.size) (σ.push (.at [])) ⟨h.push emptyDict, gg, d, tk, os⟩ :=
  S.rel.alloc (by omega) (Heap.get?_none_of_le (Nat.le_refl _)) (fun b o eb => Heap.get?_push_of_some _ eb) (Heap.get?_push_size _ rfl)
   ⟨#[], 0, rfl, fun e he => by simp at he, Nat.le_refl _, fun x => by simp [look_nil, nsFind, findBy]; trivial⟩
 have R2 : Rel P w ((X.add h.objs.size).add (h.objs.size + 1)) ((σ.push (.at [])).push (.inst C σ.size)) ⟨(h.push emptyDict).push (instObj C h.objs.size), gg, d, tk, os⟩ := by
  refine R1.alloc (by rw [St.size_push]; omega) (Heap.get?_none_of_le (by show (h.push emptyDict).objs.size ≤ h.objs.size + 1; rw [Heap.size_push]; exact Nat.le_refl _)) (fun b o eb => Heap.get?_push_of_some _ eb)
   (by have := Heap.get?_push_size (h.push emptyDict) (o := instObj C h.objs.size) rfl; rw [Heap.size_push] at this; exact this) ⟨h.objs.size, pG (Wl.le_add _ _).r (Wl.add_get S.rel.len), rfl⟩
 have hle : X.Le ((X.add h.objs.size).add (h.objs.size + 1)) := (X.le_add _).trans (Wl.le_add _ _)
 have hself : VR ((X.add h.objs.size).add (h.objs.size + 1)).ρ (.new (σ.size + 1)) (.ref (h.objs.size + 1)) := ⟨_, Wl.add_get (R1.len.trans (St.size_push _ _)), rfl⟩
 have S2 : Sit P w g K T n l { A with depth := A.depth + 1, units := A.units + 1 } ((X.add h.objs.size).add (h.objs.size + 1)) _ _ :=
  ⟨⟨S.a.hand, S.a.frames, by have := S.a.depth; show A.depth + 1 + 3 * n ≤ 999; omega, by have := S.a.units; show A.units + 1 + 10 * n ≤ 9000; omega⟩, fun q => (S.fr q).mono hle, S.cx.keeps hle.b, S.tabs.trans hle.r, R2⟩
 refine codeAny_mono (enter_code (vs := .new (σ.size + 1) :: vs) (us := .ref (h.objs.size + 1) :: us) D S2 (by have := S.a.depth; show A.depth + 1 + 3 * n + 1 ≤ 999; omega) (by have := S.a.units; show A.units + 1 + 10 * n + 3 ≤ 9000; omega) (fn_old S2 hi) ⟨hself, hv.mono hle.r⟩
  (Q := fun v s' => v = .none ∧ Q (.ref (h.objs.size + 1)) s') (E := E) ?_) fun r s' z => ?_
 ·refine OK.bind (Q₂ := Q) (R' := RV) (OK.mono hle H) fun v σ' _ Y s' u hy hr hu H => ?_
  cases v with
  | none => exact ⟨hu, OK.here H hr (hself.mono hy.r)⟩
  | _ => exact H.elim
 ·unfold retR at z
  rcases r with e | (v | _ | _ | _) <;> first | exact z | exact z.elim
end
end
section
variable [Tau]
section
variable {P : Program} {w : World} {g : Cx} {K : Frag} {T : List Addr} {n : Nat} {r : Rc} {l : List Env} {A : Around} {X Y : Wl} {σ σ' : St} {s s' : Shared} {f : Fr} {env : Env} {E : Value → Shared → Prop} {F : Cx}
theorem one_of {ρ : List Addr} {v : V} {us : List Value} (h : cQ ρ [v] us) : ∃ u, us = [u] ∧ VR ρ v u := by
 cases us with
 | nil => exact h.elim
 | cons u us => cases us with
  | nil => exact ⟨u, rfl, h.1⟩
  | cons => exact h.2.elim
theorem two_of {ρ : List Addr} {v v' : V} {us : List Value} (h : cQ ρ [v, v'] us) : ∃ u u', us = [u, u'] ∧ VR ρ v u ∧ VR ρ v' u' := by
 cases us with
 | nil => exact h.elim
 | cons u us =>
  refine aQ (fun u' q1 h' => ?_) (one_of h.2); subst q1
  exact ⟨u, u', rfl, h.1, h'⟩
theorem lstOf_ok {v : V} {xs : List V} (h : lstOf g σ v = some xs) : vQ g σ v = some (true, xs) := by
 refine oB (fun y h1 h2 => ?_) h
 obtain ⟨k, ys⟩ := y
 refine iF (fun h3 h4 => ?_) h2
 rw [h1, ← h4]
 exact congrArg (fun k => some (k, ys)) h3
theorem lenY_ok (S : Sit P w g K T n l A X σ s) {v : V} {u : Value} (hv : VR X.ρ v u) {Q : Value → Shared → Prop} (H : OK P w F l X RV Q E (lenY g v σ)) : wpAny (model P w) A (PySem.call (.builtin "len") [u]) Q E s := by
 refine aQ (fun y hy H => ?_) (H.om)
 refine xpp (fun hz H => ?_) (H.bif)
 obtain ⟨k, xs⟩ := y
 refine xQ (fun a us m q1 ho hr => ?_) (uJ S hy hv); clear hv; subst q1
 have hz := nL hz
 have hs := seqL hr
 have hfit : (us.size : Int) < 2 ^ 63 := hs ▸ Int.ofNat_lt.mpr (Nat.lt_of_le_of_lt hz (by decide))
 have hq : ∀ t k, Q (.int us.size t) { s with toks := k } := fun t k => OK.here H S.rel.same ⟨t, by rw [hs]⟩
 cases k with
 | true => exact len_list (eQ ho) hfit (hq _ _)
 | false => exact len_tuple (gQ ho) hfit (hq _ _)
theorem len_ok (S : Sit P w g K T n l A X σ s) {v : V} {u : Value} (hv : VR X.ρ v u) {Q : Value → Shared → Prop} (H : OK P w F l X RV Q E (lenO g v σ)) : wpAny (model P w) A (PySem.call (.builtin "len") [u]) Q E s := by
 cases v with
 | str x =>
  revert hv; refine xvp fun t q1 => ?_; subst q1
  refine xpp (fun hz H => ?_) (H.bif)
  have hl : x.length = x.cps.size := rfl
  replace hz := nL hz
  exact PySem.P.len_str (by rw [hl]; omega) (OK.here H S.rel.same ⟨_, rfl⟩)
 | _ => exact lenY_ok S hv H
noncomputable def TyG (g : Cx) (a : V) : Prop := match a with
 | .ty t => okT t = true
 | .old C => ∃ m, mroI (lk g.olds C) = some m
 | _ => False
omit [Tau] in
theorem mroI_ok {o : Option Old} {m : List Nat} (h : mroI o = some m) : ∃ i ms as, o = some (.cls m i ms as) := by
 revert h; refine oB fun x q1 h => ?_; subst q1
 cases x with
 | cls => injection h with q1; subst q1; exact ⟨_, _, _, rfl⟩
 | _ => exact nos h
theorem belowT_g {b : Ty} {a : V} {r : Bool} (h : belowT (fun C => mroI (lk g.olds C)) b a = some r) : TyG g a := by
 cases a with
 | ty t => exact aL (bifs h).1
 | old C => refine oB (fun m h1 _ => ?_) h; exact ⟨m, h1⟩
 | _ => exact nos h
theorem belowC_g {D : Nat} {a : V} {r : Bool} (h : belowC (fun C => mroI (lk g.olds C)) D a = some r) : TyG g a := by
 cases a with
 | ty t => exact (bifs h).1
 | old C => refine oB (fun m h1 _ => ?_) h; exact ⟨m, h1⟩
 | _ => exact nos h
theorem isTy_types {a : V} {c : V} {b : Bool} (h : isTy g a c = some b) : TyG g a := by
 cases c with
 | ty b => exact belowT_g h
 | old D => revert h; refine oB fun _ _ h => ?_; exact belowC_g h
 | _ => exact nos h
theorem isTy_typec {a : V} {c : V} {b : Bool} (h : isTy g a c = some b) : TyG g c := by
 cases c with
 | ty b => cases a with
  | ty t => exact aR (bifs h).1
  | old C => revert h; refine oB fun m _ h => ?_; exact (bifs h).1
  | _ => exact nos h
 | old D => refine oB (fun m h1 _ => ?_) h; exact ⟨m, h1⟩
 | _ => exact nos h
theorem isTy_cls {a : V} {c : V} {b : Bool} {u : Value} {ρ : List Addr} (h : isTy g a c = some b) (hc : VR ρ c u) : u = tyV c := by
 cases c with
 | ty b => exact hc
 | old D => exact hc
 | _ => exact nos h
theorem kit_old (S : Sit P w g K T n l A X σ s) {a : Nat} (h : TyG g (tyOld (lk g.olds a))) : ∃ H, KitX K (.ref a) (tyV (tyOld (lk g.olds a))) H ∧ H s.heap ∧ Value.ref a ≠ .builtin "__main__.__loader__#opaque" := by
 refine gE (lk g.olds a) (fun hx => ?_) (fun o hx => ?_)
 ·rw [hx] at h; exact Bool.noConfusion h
 ·
  rw [hx] at h
  cases o with
  | tup xs =>
   refine xvvpp (fun us m h1 h2 => ?_) (S.cx.olds a _ hx)
   exact ⟨_, kitx_tuple, ⟨_, S.rel.keep _ _ h1, rfl⟩, (fun h => by injection h)⟩
  | lst xs =>
   refine xvvpp (fun us m h1 h2 => ?_) (S.cx.olds a _ hx)
   exact ⟨_, kitx_list, ⟨_, S.rel.keep _ _ h1, rfl⟩, (fun h => by injection h)⟩
  | fn => exact Bool.noConfusion h
  | cls => exact Bool.noConfusion h
theorem kit_new (S : Sit P w g K T n l A X σ s) {k : Nat} {a : Addr} (ha : X.ρ[k]? = some a) (h : TyG g (tyNew σ (rd (σ.get k)))) : ∃ H, KitX K (.ref a) (tyV (tyNew σ (rd (σ.get k)))) H ∧ H s.heap ∧ Value.ref a ≠ .builtin "__main__.__loader__#opaque" := by
 refine gE (rd (σ.get k)) (fun hk => ?_) (fun o hk => ?_)
 ·rw [hk] at h; exact Bool.noConfusion h
 ·
  rw [hk] at h
  cases o with
  | list xs =>
   refine xvpvvr0d (fun us m ho => ?_) (S.rel.rat hk ha)
   exact ⟨_, kitx_list, ⟨_, ho, rfl⟩, (fun h => by injection h)⟩
  | tup xs =>
   refine xvpvvr0d (fun us m ho => ?_) (S.rel.rat hk ha)
   exact ⟨_, kitx_tuple, ⟨_, ho, rfl⟩, (fun h => by injection h)⟩
  | dict xs =>
   refine xvpd (fun kvs hD => ?_) (S.rel.dict hk ha)
   exact ⟨_, kitx_dict, hD.typeIs (s := s), (fun h => by injection h)⟩
  | inst C d =>
   change TyG g (tyInst C (atOf (rd (σ.get d)))) at h
   change ∃ H, KitX K (.ref a) (tyV (tyInst C (atOf (rd (σ.get d))))) H ∧ _
   refine gE (atOf (rd (σ.get d))) (fun hd => ?_) (fun m hd => ?_)
   ·rw [hd] at h; exact Bool.noConfusion h
   ·
    rw [hd] at h
    revert h; refine xvp fun mro h => ?_
    refine xvvvp (fun i ms as h => ?_) (mroI_ok h)
    refine xpppppp (fun k1 k2 k3 k4 k5 k6 => ?_) (ClsD.kit (show ClsD K C mro i ms as from S.cx.olds C _ h))
    refine xvvvvppd (fun dx od es ep e1 I => ?_) (inst_of S hk hd ha)
    exact ⟨_, kitx_own k1 k2 k3 k4 k5 k6, I, (fun h => by injection h)⟩
  | _ => exact Bool.noConfusion h
theorem kit_of (S : Sit P w g K T n l A X σ s) {v c : V} {u : Value} {b : Bool} (hv : VR X.ρ v u) (h : isTy g (tyOf g σ v) c = some b) : ∃ H, KitX K u (tyV (tyOf g σ v)) H ∧ H s.heap ∧ u ≠ .builtin "__main__.__loader__#opaque" := by
 replace h := isTy_types h
 cases v with
 | none => cases hv; exact ⟨_, kitx_none, trivial, (fun h => by injection h)⟩
 | bool => cases hv; exact ⟨_, kitx_bool, trivial, (fun h => by injection h)⟩
 | int => revert hv; refine xvp fun t q1 => ?_; subst q1; exact ⟨_, kitx_int, trivial, (fun h => by injection h)⟩
 | str => revert hv; refine xvp fun t q1 => ?_; subst q1; exact ⟨_, kitx_str, trivial, (fun h => by injection h)⟩
 | old a => cases hv; exact kit_old S h
 | new k => revert hv; refine aQ fun a ha q1 => ?_; subst q1; exact kit_new S ha h
 | _ => exact Bool.noConfusion h
theorem any_ok {K : Frag} {t : V} (hi : ∀ t c b, isTy g t c = some b → kitOne K (tyV t) (tyV c) = some b) {ρ : List Addr} {b : Bool} : ∀ {cs : List V} {us : List Value}, cQ ρ cs us → anyInst (isTy g t) cs = some b → kitAny K (tyV t) us = some b := by
 intro cs
 induction cs with
 | nil =>
  intro us hr h
  cases us with
  | nil => exact h
  | cons => exact hr.elim
 | cons c cs ih =>
  intro us hr h
  cases us with
  | nil => exact hr.elim
  | cons u us =>
   change (anyI (isTy g t c) (anyInst (isTy g t) cs)) = some b at h
   refine oE (isTy g t c) (fun hq => ?_) (fun q hq => ?_)
   ·rw [hq] at h; exact nos h
   ·
    rw [hq] at h
    unfold kitAny
    rw [isTy_cls hq hr.1, hi _ _ _ hq]
    cases q with
    | true => exact h
    | false => exact ih hr.2 h
theorem any_some' {f : V → Option Bool} {cs : List V} {b : Bool} (hn : nilB cs = false) (h : anyInst f cs = some b) : ∃ c b, f c = some b := by
 cases cs with
 | nil => exact Bool.noConfusion hn
 | cons c cs =>
  change anyI (f c) (anyInst f cs) = some b at h
  refine oE (f c) (fun hq => ?_) (fun q hq => ?_)
  ·rw [hq] at h; exact nos h
  ·exact ⟨c, q, hq⟩
theorem or_ff {a b : Bool} (h : (a || b) = false) : a = false ∧ b = false := Bool.or_eq_false_iff.mp h
theorem isa_ok (S : Sit P w g K T n l A X σ s) {v c : V} {u u' : Value} (hu : VR X.ρ v u) (hc : VR X.ρ c u') {Q : Value → Shared → Prop} (H : OK P w F l X RV Q E (isaO g v c σ)) : wpAny (model P w) A (PySem.call (.builtin "isinstance") [u, u']) Q E s := by
 have X₀ : K.In s.heap := fun a o e => S.rel.keep _ _ (S.cx.kin a o e)
 unfold isaO at H
 refine jZ (vQ g σ c) (fun y hx => ?_) (fun hx => ?_)
 ·
  rw [hx] at H
  obtain ⟨k, xs⟩ := y
  refine xpp (fun hk H => ?_) (H.bif')
  refine xpp (fun hk hn => ?_) (or_ff hk)
  have hk : k = false := hk
  subst hk
  refine aQ (fun b' hb' H => ?_) (H.opt)
  refine aQ (fun b hb e => ?_) (Option.map_eq_some_iff.mp hb')
  subst e
  refine xQ (fun a ws m q1 ho hr => ?_) (uJ S hx hc); subst q1
  refine xvvp (fun c' b' hcb => ?_) (any_some' hn hb)
  refine xvppp (fun H' Z hH hno => ?_) (kit_of S hu hcb)
  have hws : s.heap.get? a = some ⟨.type "tuple", none, .seq ws.toList.toArray m, #[]⟩ := by rw [Array.toArray_toList]; exact ho
  exact kia_tup Z X₀ hH hws (any_ok S.cx.isi hr hb) hno fun tk => OK.here H S.rel.same rfl
 ·
  rw [hx] at H
  refine aQ (fun b' hb' H => ?_) (H.opt)
  refine aQ (fun b hb e => ?_) (Option.map_eq_some_iff.mp hb')
  clear hb'; subst e
  refine xvppp (fun H' Z hH hno => ?_) (kit_of S hu hb)
  have := S.cx.isi _ _ _ hb
  rw [← isTy_cls hb hc] at this
  exact kia_one Z X₀ hH this hno fun tk => OK.here H S.rel.same rfl
theorem max_ok (S : Sit P w g K T n l A X σ s) {v c : V} {u u' : Value} (hu : VR X.ρ v u) (hc : VR X.ρ c u') {Q : Value → Shared → Prop} (H : OK P w F l X RV Q E (maxO v c σ)) : wpAny (model P w) A (PySem.call (.builtin "max") [u, u']) Q E s := by
 refine aQ (fun i h1 H => ?_) (H.om)
 refine aQ (fun j h2 H => ?_) (H.om)
 rw [intI_ok h1] at hu
 rw [intI_ok h2] at hc
 revert hu; refine xvp fun t q1 => ?_; subst q1
 revert hc; refine xvp fun t' q1 => ?_; subst q1
 refine max_two_ints S.a.hand fun h' tk hk => ?_
 refine OK.here H (S.rel.keeps hk) ?_
 by_cases q : i < j
 ·rw [if_pos q, if_pos q]; exact ⟨_, rfl⟩
 ·rw [if_neg q, if_neg q]; exact ⟨_, rfl⟩
theorem builtin_ok (S : Sit P w g K T n l A X σ s) {id : Bt} {vs : List V} {us : List Value} (hv : cQ X.ρ vs us) {Q : Value → Shared → Prop} (H : OK P w F l X RV Q E (builtin g id vs σ)) : wpAny (model P w) A (PySem.call (.builtin id.name) us) Q E s := by
 cases id with
 | len =>
  refine aQ (fun v h1 H => ?_) (H.om)
  rw [vJ h1] at hv
  refine aQ (fun u q1 hu => ?_) (one_of hv); subst q1
  exact len_ok S hu H
 | abs =>
  refine aQ (fun v h1 H => ?_) (H.om)
  refine aQ (fun i h2 H => ?_) (H.om)
  rw [vJ h1, intI_ok h2] at hv
  refine xvpvr0 (fun t q1 => ?_) (one_of hv); subst q1
  refine call_abs_int fun u tk => OK.here H S.rel.same ⟨u, ?_⟩
  congr 1
  split <;> omega
 | max =>
  refine aQ (fun p h1 H => ?_) (H.om)
  rw [twoI_ok h1] at hv
  refine oQ (fun u u' q1 hu hc => ?_) (two_of hv); subst q1
  exact max_ok S hu hc H
 | isinstance =>
  refine aQ (fun p h1 H => ?_) (H.om)
  rw [twoI_ok h1] at hv
  refine oQ (fun u u' q1 hu hc => ?_) (two_of hv); clear hv; subst q1
  exact isa_ok S hu hc H
theorem builtinO_ok (S : Sit P w g K T n l A X σ s) {id : Bt} {vs : List V} {us : List Value} (hv : cQ X.ρ vs us) {Q : Value → Shared → Prop} (H : OK P w F l X RV Q E (builtinO g id vs σ)) : wpAny (model P w) A (PySem.call (.builtin id.name) us) Q E s := by
 unfold builtinO at H
 refine jZ ((oneI vs).bind fun x => bif isAbs id then g.orc (.abs x) else none) (fun v h1 => ?_) (fun h1 => ?_)
 ·
  rw [h1] at H
  refine oB (fun x h2 h3 => ?_) h1
  refine iQ (fun h4 q => ?_) h3
  rw [vJ h2] at hv
  cases id <;> first | exact Bool.noConfusion h4 | skip
  refine aQ (fun i h1 h3 => ?_) (S.cx.orc _ _ q)
  refine builtin_ok S (F := F) (l := l) (AllR_dn.mpr hv) ?_
  show OK P w F l X RV Q E (builtin g .abs [dn _] σ)
  rw [h1]
  exact fun Y s u hy hr hu => H Y s u hy hr (h3 _ _ hu)
 ·
  rw [h1] at H
  refine oE ((twoI vs).bind fun p => bif isMax id then g.orc (.max p.1 p.2) else none) (fun h2 => ?_) (fun v h2 => ?_)
  ·rw [h2] at H; exact builtin_ok S hv H
  ·
   rw [h2] at H
   revert h2; refine oB fun p h2 h3 => ?_
   refine iQ (fun h4 q => ?_) h3
   rw [twoI_ok h2] at hv
   cases id <;> first | exact Bool.noConfusion h4 | skip
   refine oQ (fun i j h1 h2 h3 => ?_) (S.cx.orc _ _ q)
   refine builtin_ok S (F := F) (l := l) (AllR_dn.mpr hv) ?_
   show OK P w F l X RV Q E (builtin g .max [dn _, dn _] σ)
   rw [h1, h2]
   exact fun Y s u hy hr hu => H Y s u hy hr (h3 _ _ hu)
theorem call_list_ok (S : Sit P w g K T n l A X σ s) {v : V} {u : Value} (hu : VR X.ρ v u) {y : Bool × List V} (hy : vQ g σ v = some y) {Q : Value → Shared → Prop} (H : OK P w F l X RV Q E (newSeq σ false y.2)) : wpAny (model P w) A (PySem.call (.type "list") [u]) Q E s := by
 obtain ⟨k, xs⟩ := y
 refine xQ (fun a ws m q1 ho hr => ?_) (uJ S hy hu); clear hu; subst q1
 refine xpp (fun hz H => ?_) (H.bif)
 replace hz := nL hz
 refine call_list_seq a (T := bif k then "list" else "tuple") (by cases k <;> simp) ho rfl rfl (fun h' c' hk hl => ?_) (by rw [seqL hr]; exact Nat.le_trans hz (by decide))
 rw [newR_eq] at H
 refine xpp (fun hz2 H => ?_) (H.bif)
 rw [St.pushF_eq] at H
 exact H (X.add s.heap.objs.size) _ _ (X.le_add _) (S.rel.alloc (bI.mp hz2) (Heap.get?_none_of_le (Nat.le_refl _)) hk hl ⟨_, _, rfl, hr.mono (X.le_add _).r⟩) ⟨_, Wl.add_get S.rel.len, rfl⟩
theorem call_tup_ok (S : Sit P w g K T n l A X σ s) {v : V} {u : Value} (hu : VR X.ρ v u) {xs : List V} (hy : vQ g σ v = some (true, xs)) {Q : Value → Shared → Prop} (H : OK P w F l X RV Q E (newSeq σ true xs)) : wpAny (model P w) A (PySem.call (.type "tuple") [u]) Q E s := by
 refine xQ (fun a ws m q1 ho hr => ?_) (uJ S hy hu); clear hu; subst q1
 refine xpp (fun hz H => ?_) (H.bif)
 refine call_tuple_list (eQ ho) (fun h' hk => ?_) (by rw [seqL hr]; exact Nat.le_trans (nL hz) (by decide))
 exact new_ok (s := { s with heap := h' }) (ob := { cls := .type "tuple", data := .seq ws }) H (S.rel.keeps hk) ⟨ws, 0, rfl, hr.mono (X.le_add _).r⟩
theorem call_enum_ok (S : Sit P w g K T n l A X σ s) {v : V} {u : Value} (hu : VR X.ρ v u) {xs : List V} (hy : vQ g σ v = some (true, xs)) (hp : hJ [.iter true v 0, .enm σ.size 0] σ = some σ') {Q : Value → Shared → Prop} (H : OK P w F l X RV Q E (.ok (.new (σ.size + 1)) σ')) : wpAny (model P w) A (PySem.call (.type "enumerate") [u]) Q E s := by
 refine xQ (fun a ws m q1 ho hr => ?_) (uJ S hy hu); subst q1
 refine xpp (fun hz q1 => ?_) (pushAll_two hp); clear hp; subst q1
 refine call_enumerate_1 ho fun h' he hit hsz hk => ?_
 revert hit; refine xvppp fun oit k1 k2 k3 => ?_
 have R1 : Rel P w (X.add s.heap.objs.size) (σ.push (.iter true v 0)) { s with heap := h' } :=
  S.rel.alloc (Nat.lt_of_lt_of_le hz (by decide)) (Heap.get?_none_of_le (Nat.le_refl _)) hk k1 ⟨a, hu.mono (X.le_add _).r, k2, k3⟩
 have hz1 : σ.size < 4096 := Nat.lt_of_lt_of_le hz (by decide)
 have hlt : ∀ {o : Obj}, s.heap.get? (s.heap.objs.size + 1) = some o → False := fun e => Nat.not_succ_le_self _ (Nat.le_of_succ_le (Heap.lt_size e))
 refine H _ _ _ ((X.le_add _).trans (Wl.le_add _ _)) ?_ ⟨_, Wl.add_get (R1.len.trans (St.size_push _ _)), rfl⟩
 refine R1.alloc' (by rw [St.size_push]; exact Nat.succ_lt_succ hz) (fun k o' e j hk' => ?_) ?_ (fun b o e => e) he ⟨s.heap.objs.size, .none, pG (Wl.le_add _ _).r (Wl.add_get S.rel.len), rfl⟩
 ·rw [St.get_push hz1] at e
  by_cases q : k = σ.size
  ·subst q
   rw [Wl.add_get S.rel.len] at hk'
   exact Nat.succ_ne_self _ (Option.some.inj hk').symm
  ·rw [if_neg q] at e
   rw [Wl.add_lt (S.rel.len ▸ St.get_lt e)] at hk'
   refine xvpd (fun _ h1 => ?_) (S.rel.at e hk' j)
   exact hlt h1
 ·refine gE ((X.add s.heap.objs.size).B.get? (s.heap.objs.size + 1)) (fun q => ?_) (fun o q => ?_)
  ·rfl
  ·exact (hlt (S.rel.keep _ o q)).elim
theorem callTy_ok (S : Sit P w g K T n l A X σ s) {t : Ty} {vs : List V} {us : List Value} (hv : cQ X.ρ vs us) {Q : Value → Shared → Prop} (H : OK P w F l X RV Q E (callTy g t vs σ)) : wpAny (model P w) A (PySem.call (.type t.name) us) Q E s := by
 refine aQ (fun v h1 H => ?_) (H.om)
 rw [vJ h1] at hv
 refine aQ (fun u q1 hu => ?_) (one_of hv); subst q1
 cases t with
 | str =>
  refine aQ (fun i h2 H => ?_) (H.om)
  refine xpp (fun hz H => ?_) (H.bif)
  rw [intI_ok h2] at hu
  revert hu; refine xvp fun tk q1 => ?_; subst q1
  exact PySem.P.str_of_int (bI.mp hz) (OK.here H S.rel.same ⟨_, rfl⟩)
 | list => refine aQ (fun y h2 H => ?_) (H.om); exact call_list_ok S hu h2 H
 | tup => refine aQ (fun y h2 H => ?_) (H.om); exact call_tup_ok S hu (lstOf_ok h2) H
 | range =>
  refine aQ (fun i h2 H => ?_) (H.om)
  rw [natI_ok h2] at hu
  revert hu; refine xvp fun tk q1 => ?_; clear hv; subst q1
  exact call_range_1 (new_ok (ob := { cls := .type "range", data := .fields #[.int 0 s.toks, .int i tk, .int 1 (s.toks + 1)] }) H S.rel ⟨_, _, _, rfl⟩)
 | enum =>
  refine aQ (fun y h2 H => ?_) (H.om)
  refine aQ (fun σ' h3 H => ?_) (H.om)
  exact call_enum_ok S hu (lstOf_ok h2) h3 H
 | _ => exact H.elim
theorem callTyO_ok (S : Sit P w g K T n l A X σ s) {t : Ty} {vs : List V} {us : List Value} (hv : cQ X.ρ vs us) {Q : Value → Shared → Prop} (H : OK P w F l X RV Q E (callTyO g t vs σ)) : wpAny (model P w) A (PySem.call (.type t.name) us) Q E s := by
 unfold callTyO at H
 refine oE ((oneI vs).bind fun x => bif isStrT t then g.orc (.str x) else none) (fun h1 => ?_) (fun v h1 => ?_)
 ·rw [h1] at H; exact callTy_ok S hv H
 ·
  rw [h1] at H
  refine oB (fun x h2 h3 => ?_) h1
  refine iQ (fun h4 q => ?_) h3
  rw [vJ h2] at hv
  cases t <;> first | exact Bool.noConfusion h4 | skip
  refine xvppp (fun i h1 h2 h3 => ?_) (S.cx.orc _ _ q)
  refine callTy_ok S (F := F) (l := l) (t := .str) (AllR_dn.mpr hv) ?_
  show OK P w F l X RV Q E (callTy g .str [dn _] σ)
  rw [h1]
  show OK P w F l X RV Q E (bif Nat.blt i.natAbs.log2 1920 then .ok (.str (Str.ofString (toString i))) σ else .stop "digits")
  rw [h2]
  exact fun Y s u hy hr hu => H Y s u hy hr (h3 _ _ hu)
end
end
section
variable [Tau]
theorem among_snoc {p : Pos} {a b : Int} {c : Value} (l : List Value) (h : TriplesOk l) : codeAmong p (l ++ [rawInt a, rawInt b, c]) = match codeAmong p l with
  | some x => some x
  | none => if a == p.line && b == p.col then some c else none := by
 fun_induction TriplesOk l with
 | case1 => simp [codeAmong, rawInt]
 | case2 a' t b' u x rest ih =>
  simp only [List.cons_append, codeAmong]
  split
  ·rfl
  ·exact ih h
 | case3 l h1 h2 => exact h.elim
theorem findMade_snoc {p : Pos} {x y : Nat} {q : Str} : ∀ l : List ((Nat × Nat) × Str), findMade (l ++ [((x, y), q)]) p = match findMade l p with
  | some z => some z
  | none => if x == p.line && y == p.col then some q else none
 | [] => by simp [findMade]
 | ((a, b), z) :: l => by
  rw [List.cons_append]
  unfold findMade
  split
  ·rfl
  ·exact findMade_snoc l
section
variable {P : Program} {w : World} {g : Cx} {K : Frag} {T : List Addr} {n : Nat} {r : Rc} {l : List Env} {A : Around} {X Y : Wl} {σ σ' : St} {s s' : Shared} {f : Fr} {env : Env} {E : Value → Shared → Prop} {F : Cx}
theorem TabD.snoc {B B' : Heap} {ps : Array Value} {made : List ((Nat × Nat) × Str)} (k : B.StaysIn B') (D : TabD B ps made) {pos : Pos} {q : Str} {c : Addr} (hc : B'.CodeRec (.ref c) q) :
  TabD B' (ps ++ #[rawInt pos.line, rawInt pos.col, .ref c]) (made ++ [((pos.line, pos.col), q)]) := by
 have e : (ps ++ #[rawInt pos.line, rawInt pos.col, .ref c]).toList = ps.toList ++ [rawInt pos.line, rawInt pos.col, .ref c] := by simp
 refine ⟨by rw [e]; exact TriplesOk_snoc _ _ _ _ D.1, fun p => ?_⟩
 rw [e, among_snoc _ D.1, findMade_snoc]
 have := D.2 p
 refine gOption10 (findMade made p) (fun z hm => ?_) (fun hm => ?_)
 ·
  rw [hm] at this
  revert this; refine aQ fun c' h1 h2 => ?_
  rw [h1]
  exact ⟨c', rfl, jJ k h2⟩
 ·
  rw [hm] at this
  rw [this]
  have hz : ((pos.line : Int) == (p.line : Int) && (pos.col : Int) == (p.col : Int)) = (pos.line == p.line && pos.col == p.col) := by
   rw [Bool.eq_iff_iff]
   simp only [Bool.and_eq_true, beq_iff_eq, Int.natCast_inj]
  dsimp only
  rw [hz]
  cases pos.line == p.line && pos.col == p.col with
  | true => exact ⟨c, rfl, hc⟩
  | false => rfl
noncomputable def grown (B h : Heap) (c : Addr) : Heap := hideAll h ((List.range h.objs.size).filter fun b => (B.get? b).isNone && b != c)
theorem grown_of {B h : Heap} {c b : Addr} {o : Obj} (e : (grown B h c).get? b = some o) : h.get? b = some o := of_hideAll _ e
theorem grown_keep {B h : Heap} {c b : Addr} {o : Obj} (e : h.get? b = some o) (hb : (B.get? b).isSome ∨ b = c) : (grown B h c).get? b = some o := by
 refine hideAll_get _ e fun hm => ?_
 have := (List.mem_filter.mp hm).2
 rcases hb with hb | rfl
 ·simp [Option.isSome_iff_ne_none.mp hb] at this
 ·simp at this
theorem grown_none {B h : Heap} {c b : Addr} (h1 : B.get? b = none) (h2 : b ≠ c) : (grown B h c).get? b = none := by
 refine gE ((grown B h c).get? b) (fun e => ?_) (fun o e => ?_)
 ·rfl
 ·
  have hl := Heap.lt_size (grown_of e)
  have : (grown B h c).get? b = none := hideAll_none _ (List.mem_filter.mpr ⟨List.mem_range.mpr hl, by simp [h1, h2]⟩)
  rw [this] at e; injection e
theorem Rel.revive {n : Nat} {a : Addr} {ob : Obj} {o : O} (R : Rel P w X σ s) (e₀ : σ.get n = some .junk) (ea : X.ρ[n]? = some a) (hn : ∀ k o', σ.get k = some o' → o' ≠ .junk → X.ρ[k]? = some a → False) (hB : X.B.get? a = none) (ha : s.heap.get? a = some ob) (hd : pQ P w X ob o) (hro : autoParam (∀ o', o ≠ .ro o') Mine.nk) :
  Rel P w X (σ.set n o) s :=
 have hl : n < σ.size := St.get_lt e₀
 {keep := R.keep
  fresh := fun p o₁ b e₁ j₁ h₁ => by
   rw [St.get_set hl R.room] at e₁
   by_cases q₁ : p = n
   ·subst q₁; rw [ea] at h₁; injection h₁ with q1; subst q1; exact hB
   ·rw [if_neg q₁] at e₁; exact R.fresh _ _ b e₁ j₁ h₁
  nodup := fun p q o₁ o₂ b e₁ e₂ j₁ j₂ h₁ h₂ => by
   rw [St.get_set hl R.room] at e₁ e₂
   by_cases q₁ : p = n <;> by_cases q₂ : q = n
   ·rw [q₁, q₂]
   ·subst q₁
    rw [if_neg q₂] at e₂
    rw [ea] at h₁; injection h₁ with q1; subst q1
    exact (hn _ _ e₂ j₂ h₂).elim
   ·subst q₂
    rw [if_neg q₁] at e₁
    rw [ea] at h₂; injection h₂ with q1; subst q1
    exact (hn _ _ e₁ (O.mut_ne j₁) h₁).elim
   ·rw [if_neg q₁] at e₁
    rw [if_neg q₂] at e₂
    exact R.nodup _ _ _ _ b e₁ e₂ j₁ j₂ h₁ h₂
  len := R.len
  room := R.room
  objs := fun m o' e j => by
   rw [St.get_set hl R.room] at e
   by_cases q : m = n
   ·rw [if_pos q] at e; injection e with q1; subst q1; subst q; exact ⟨a, ob, ea, ha, hd⟩
   ·rw [if_neg q] at e; exact R.objs m o' e j
  all := fun m h => by
   rw [St.get_set hl R.room]
   split
   ·rfl
   ·exact R.all m h
  frs := fun k hk => by
   refine xvp (fun m h2 => ?_) (R.frs k hk)
   refine ⟨m, ?_⟩
   rw [St.get_set hl R.room, if_neg (show ¬ k = n from fun q => by rw [q, e₀] at h2; injection h2 with q1; injection q1)]
   exact h2
  gens := R.gens
  os := R.os
  sys := fun p o' b e h => by
   rw [St.get_set hl R.room] at e
   by_cases q : p = n
   ·rw [if_pos q] at e; exact (hro o' (Option.some.inj e)).elim
   ·rw [if_neg q] at e; exact R.sys p o' b e h }
theorem Rel.rebase {B : Heap} (R : Rel P w X σ s) (hX : X.B.StaysIn B) (hB : B.StaysIn s.heap) (hf : ∀ n o a, σ.get n = some o → o.mut = true → X.ρ[n]? = some a → B.get? a = none) : Rel P w { X with B := B } σ s :=
 ⟨hB, hf, R.nodup, R.len, R.room, fun n o e j => let ⟨a, ob, h1, h2, h3⟩ := R.objs n o e j; ⟨a, ob, h1, h2, pQ.mono (X := X) (Y := { X with B := B }) ⟨hX, List.prefix_rfl, rfl, rfl, rfl⟩ h3⟩, R.all, R.frs, R.gens, R.os, R.sys⟩
noncomputable def FnMk (b : FuncBody) (env : Env) (ps : Arguments) (sc : Scope) (pos : Pos) (q : Str) (mk : Sem Value) : Prop := ∃ name firstLine, mk = makeFunction name q ps b sc env [] [] [] pos firstLine
set_option tactic.hygienic true in
theorem makeFn_ok (S : Sit P w g K T n l A X σ s) (e : bQ l X f env) {ps : Arguments} {b : FuncBody} {sc : Scope} {pos : Pos} {q name : Str} {firstLine : Nat} {Q : Value → Shared → Prop} (H : OK P w F l X RV Q E (makeFn f ps b sc pos q σ)) :
  wpAny (model P w) A (makeFunction name q ps b sc env [] [] [] pos firstLine) Q E s := by
 unfold makeFn at H
 split at H
 ·rename_i cl σ₁ hcl hmk
  refine aQ (fun cl' hclos hcr => ?_) (closure_ok e hcl)
  unfold makeCode at hmk
  split at hmk
  ·rename_i t ht
   split at hmk
   ·rename_i made hσ
    refine oQ (fun c Pa hcode hP hd => ?_) (e.tab t ht)
    refine xvpvr0p (fun pl hob D => ?_) (S.rel.at hσ hP)
    refine xvvvpppppp (fun mg bm obm m1 m2 m3 m4 m5 m6 => ?_) (S.cx.bmain)
    have m1' := m1.keeps S.rel.keep
    have hBP := S.rel.fresh _ _ Pa hσ rfl hP
    have hbP : bm ≠ Pa := fun q => by subst q; rw [hBP] at m5; injection m5
    have hgP : mainGlobals ≠ Pa := fun q => by
     revert m1; refine xvvvpd fun o _ _ ho => ?_
     rw [q, hBP] at ho; injection ho
    have hb : s.heap.BuiltinsAt mg Pa := ⟨bm, obm, m2, m3, m4, hbP, S.rel.keep _ _ m5, m6⟩
    have hDp := D.2 pos
    split at hmk
    ·rename_i q' hq'
     split at hmk
     ·rename_i hqq
      injection hmk with q1; subst q1
      have hqe := eI.mp hqq
      rw [hq'] at hDp
      revert hDp; refine aQ fun c' h1 h2 => ?_
      rw [hqe] at h2
      have fin : ∀ (fd : FuncData) (h' : Heap) (tk : Tok), (∀ b o, s.heap.get? b = some o → h'.get? b = some o) → fd.params = ps → fd.body = b → fd.scope = sc → fd.qualname = q → fd.globals = mainGlobals → fd.builtins = builtinsNs → fd.defaults = .none → fd.kwdefaults = .none → fd.closure = cl' → fd.code = .ref c' →
        Q (.ref h'.objs.size) { s with heap := h'.push { cls := .type "function", data := .func fd }, toks := tk } := fun fd h' tk hk a1 a2 a3 a4 a5 a6 a7 a8 a9 a10 => by
       have R1 : Rel P w X σ { s with heap := h' } := S.rel.keeps hk
       exact new_ok (s := { s with heap := h' }) (ob := { cls := .type "function", data := .func fd }) H R1 ⟨rfl, rfl, fd, rfl, a1, a2, a3, a4, a5, a6, a7, a8, by rw [a9]; exact hcr.mono (X.le_add _).r, by rw [a10, a4]; exact h2, by (intro _ h; injection h)⟩
      cases b with
      | stmts body => exact makeFunction_hit hclos e.glob m1' hcode (hd.keeps S.rel.keep) hob D.1 h1 hb fun ctv doc h' tk hk hsz => fin _ h' tk hk rfl rfl rfl rfl rfl rfl rfl rfl rfl rfl
      | expr body => exact kla_makeFunctionHit hclos e.glob m1' hcode (hd.keeps S.rel.keep) hob D.1 h1 hb fun ctv h' tk hk hsz => fin _ h' tk hk rfl rfl rfl rfl rfl rfl rfl rfl rfl rfl
     ·injection hmk
    ·rename_i hq'
     injection hmk with q1; subst q1
     rw [hq'] at hDp
     have fin : ∀ (fd : FuncData) (h' : Heap) (tk : Tok) (c' : Addr), Heap.ExtBut Pa s.heap h' → s.heap.objs.size ≤ c' → c' < h'.objs.size → h'.CodeRec (.ref c') q → h'.get? Pa = some (tabObj (pl ++ #[rawInt pos.line, rawInt pos.col, .ref c'])) →
       fd.params = ps → fd.body = b → fd.scope = sc → fd.qualname = q → fd.globals = mainGlobals → fd.builtins = builtinsNs → fd.defaults = .none → fd.kwdefaults = .none → fd.closure = cl' → fd.code = .ref c' →
       Q (.ref h'.objs.size) { s with heap := h'.push { cls := .type "function", data := .func fd }, toks := tk } := fun fd h' tk c' hx hge hlt hrec htb a1 a2 a3 a4 a5 a6 a7 a8 a9 a10 => by
      refine xvvvvpppp (fun c₂ oc vs tq e2 hoc hdc hvc => ?_) (id hrec)
      injection e2 with q1; subst q1
      have hxk : ∀ b, b ≠ Pa → ∀ o, s.heap.get? b = some o → h'.get? b = some o := fun b hb o eb => hx b o hb eb
      have R1 : Rel P w X (σ.set t .junk) { s with heap := h' } := S.rel.kill hσ hP hxk (S.rel.notFr hσ (fun _ h => by injection h))
      have hc'n : ∀ {b : Addr} {o : Obj}, s.heap.get? b = some o → b ≠ c' := fun {b o} eb q => by
       subst q
       exact absurd (Heap.lt_size eb) (Nat.not_lt.mpr hge)
      have hXB : X.B.StaysIn (grown X.B h' c') := fun b o eb => by
       refine grown_keep ?_ (.inl (by rw [eb]; rfl))
       exact hxk b (fun q => by subst q; rw [hBP] at eb; injection eb) o (S.rel.keep b o eb)
      have hBs : (grown X.B h' c').StaysIn h' := fun b o eb => grown_of eb
      have hcB : (grown X.B h' c').CodeRec (.ref c') q := ⟨c', oc, vs, tq, rfl, grown_keep hoc (.inr rfl), hdc, hvc⟩
      have live : ∀ k o' a', σ.get k = some o' → o'.mut = true → X.ρ[k]? = some a' → (grown X.B h' c').get? a' = none := fun k o' a' ek j hk => by
       refine xvpd (fun ob' ho' => ?_) (S.rel.at ek hk (O.mut_ne j))
       exact grown_none (S.rel.fresh _ _ a' ek j hk) (hc'n ho')
      have hl := St.get_lt hσ
      have dead : ∀ {k : Nat} {o' : O}, (σ.set t .junk).get k = some o' → o' ≠ .junk → k ≠ t ∧ σ.get k = some o' := fun {k o'} ek j => by
       rw [St.get_set hl S.rel.room] at ek
       by_cases q : k = t
       ·rw [if_pos q] at ek; injection ek with q1; subst q1; exact (j rfl).elim
       ·rw [if_neg q] at ek; exact ⟨q, ek⟩
      have R2 := R1.rebase (B := grown X.B h' c') hXB hBs fun k o' a' ek j hk => live k o' a' (dead ek (O.mut_ne j)).2 j hk
      have hjk : (σ.set t .junk).get t = some .junk := by rw [St.get_set hl S.rel.room, if_pos rfl]
      have R3 := R2.revive (o := .tab (made ++ [((pos.line, pos.col), q)])) hjk hP (fun k o' ek j hk => (dead ek j).1 (S.rel.nodup t k _ _ Pa hσ (dead ek j).2 rfl j hP hk).symm) (live t _ Pa hσ rfl hP) htb ⟨_, rfl, D.snoc hXB hcB⟩
      have R4 : Rel P w { X with B := grown X.B h' c' } (σ.setF t (.tab (made ++ [((pos.line, pos.col), q)]))) { s with heap := h' } := by
       rw [St.setF_eq]
       refine R3.ext rfl fun k => ?_
       rw [St.get_set (by simpa using hl) (by simpa using S.rel.room), St.get_set hl S.rel.room, St.get_set hl S.rel.room]
       split <;> rfl
      have hle : X.Le { X with B := grown X.B h' c' } := ⟨hXB, List.prefix_rfl, rfl, rfl, rfl⟩
      exact new_ok (s := { s with heap := h' }) (ob := { cls := .type "function", data := .func fd }) (OK.mono hle H) R4 ⟨rfl, rfl, fd, rfl, a1, a2, a3, a4, a5, a6, a7, a8, by rw [a9]; exact hcr.mono (X.le_add _).r, by rw [a10, a4]; exact hcB, by (intro _ h; injection h)⟩
     cases b with
     | stmts body => exact makeFunction_K hclos e.glob m1' hcode (hd.keeps S.rel.keep) hob D.1 hDp hgP hb fun c' ctv doc h' tk hx hge hlt hrec htb => fin _ h' tk c' hx hge hlt hrec htb rfl rfl rfl rfl rfl rfl rfl rfl rfl rfl
     | expr body => exact kla_makeFunction hclos e.glob m1' hcode (hd.keeps S.rel.keep) hob D.1 hDp hgP hb fun c' ctv h' tk hx hge hlt hrec htb => fin _ h' tk c' hx hge hlt hrec htb rfl rfl rfl rfl rfl rfl rfl rfl rfl rfl
   ·injection hmk
  ·injection hmk
 ·exact H.elim
end
end
section
variable [Tau]
section
variable {P : Program} {w : World} {g : Cx} {K : Frag} {T : List Addr} {n : Nat} {r : Rc} {l : List Env} {A : Around} {X Y : Wl} {σ σ' : St} {s s' : Shared} {f : Fr} {env : Env} {E : Value → Shared → Prop} {F : Cx}
set_option tactic.hygienic true in
theorem call_ok (D : Snd P w g K T n r) (S : Sit P w g K T (n + 1) l A X σ s) {fv : V} {u : Value} {vs : List V} {us : List Value} (hf : VR X.ρ fv u) (hv : cQ X.ρ vs us) {Q : Value → Shared → Prop} (H : OK P w g l X RV Q E (call1 g r fv vs σ)) :
  wpAny (model P w) A (PySem.call u us) Q E s := by
 unfold call1 at H
 split at H
 ·rename_i a
  cases hf
  split at H
  ·rename_i ps b sc q ds t h
   exact enter_ok D S (fn_old S h) hv H
  ·rename_i mro i ms as h
   unfold callCls at H
   split at H
   ·rename_i ps b sc q ds t σ₁ hi hp
    exact make_ok D S h hi hp hv H
   ·exact H.elim
  ·exact H.elim
 ·rename_i k
  revert hf; refine aQ fun a ha q1 => ?_; subst q1
  split at H
  ·rename_i c hk
   exact enter_ok D S (fn_new S hk ha) hv H
  ·exact H.elim
 ·rename_i id
  cases hf
  exact builtinO_ok S hv H
 ·rename_i t
  cases hf
  exact callTyO_ok S hv H
 ·exact H.elim
theorem noDef_ok {ps : Arguments} (h : noDef ps = true) : ps.defaults = [] ∧ ps.kw_defaults = [] := ⟨yQ (aL h), yQ (aR h)⟩
theorem ev_lambda (S : Sit P w g K T n l A X σ s) (e : bQ l X f env) {ps : Arguments} {b : PySem.Expr} {sc : Scope} {pos : Pos} (hd : noDef ps = true) {Q : Value → Shared → Prop} (H : OK P w F l X RV Q E (makeFn f ps (.expr b) sc pos (f.qual ++ sOf "<lambda>") σ)) :
  wpAny (model P w) A (eval (.Lambda ps b sc pos) env) Q E s := by
 refine xpp (fun h1 h2 => ?_) (noDef_ok hd)
 refine kla_eval ?_ ?_
 ·obtain ⟨po, a, va, ko, kd, kw, df⟩ := ps
  subst h1
  subst h2
  rfl
 ·rw [← e.qual] at H
  exact makeFn_ok S e H
theorem anns_nil {env : Env} {as : List Arg} (h : (as.all fun a => noB a.annotation) = true) : annotationsOf as env = [] := by
 induction as with
 | nil => rfl
 | cons a as ih =>
  obtain ⟨x, an, p⟩ := a
  have h1 : an = none := noB_ok (aL h)
  subst h1
  exact ih (aR h)
theorem noAnn_ok {ps : Arguments} {env : Env} (h : noAnn ps = true) : annTrees ps none env = [] := by
 obtain ⟨a, b, c, d, e, k, m⟩ := ps
 have e1 : a = [] := yQ (aL h)
 have e2 : c = none := noB_ok (aL (aR h))
 have e3 : d = [] := yQ (aL (aR (aR h)))
 have e4 : k = none := noB_ok (aL (aR (aR (aR h))))
 have e5 : annotationsOf b env = [] := anns_nil (aR (aR (aR (aR h))))
 subst e1 e2 e3 e4
 unfold annTrees
 simp only [List.append_nil, Option.toList]
 rw [e5]
 rfl
theorem st_def (S : Sit P w g K T n l A X σ s) (e : bQ l X f env) {ps : Arguments} {b : List Stmt} {sc : Scope} {pos : Pos} {nm bnd : Str} (hc : ((noDef ps && noAnn ps) && (eqS nm bnd && ownName f nm)) = true) {Q : Flow → Shared → Prop}
  (H : OK P w F l X RFl Q E ((makeFn f ps (.stmts b) sc pos (f.qual ++ nm) σ).bind fun v σ => rQ (storeN f σ nm v))) :
  wpAny (model P w) A (exec (.FunctionDef nm ps b [] none [] sc none bnd pos) env) Q E s := by
 have h1 := aL (aL hc)
 have h2 := aR (aL hc)
 have h4 := aR (aR hc)
 have := eI.mp (aL (aR hc))
 clear hc
 subst this
 refine xpp (fun d1 d2 => ?_) (noDef_ok h1)
 refine nestDef_K d1 d2 (noAnn_ok h2) ?_
 have hq : qualnameIn env nm nm = f.qual ++ nm := by
  unfold qualnameIn
  rw [e.kindOf nm, e.qual]
  have : (wQ f.scope nm == some NameKind.globalExplicit) = false := by
   refine iI (fun k hk h5 => ?_) h4
   rw [hk]
   cases k with
   | globalExplicit => exact Bool.noConfusion h5
   | _ => rfl
  rw [this]; rfl
 rw [hq]
 refine makeFn_ok S e (OK.bind (k := fun v σ => rQ (storeN f σ nm v)) H fun v σ₁ _ Y s₁ u hy hr hu H => ?_)
 refine aQ (fun σ₃ h3 q => ?_) (H.next)
 exact store_ok (S.next hy hr) (e.mono hy) hu h3 fun s' hr' => q s' hr'
noncomputable def PR (ρ : List Addr) : List (Str × V) → List (Value × Value) → Prop
 | [], [] => True
 | (x, v) :: m, (k, u) :: j => (∃ t, k = .str x t) ∧ VR ρ v u ∧ PR ρ m j
 | _, _ => False
theorem pairs_ok (D : Snd P w g K T n r) {pos : Pos} : ∀ (ks : List (Option PySem.Expr)) {es : List PySem.Expr} {X : Wl} {σ : St} {s : Shared} {Q : List (Value × Value) → Shared → Prop}, Sit P w g K T n l A X σ s → bQ l X f env →
  OK P w g l X (fun Y l j => PR Y.ρ l j) Q E (pairs r f ks es σ) → wpAny (model P w) A (evalPairs (pairTrees ks es env pos)) Q E s := by
 intro ks
 induction ks with
 | nil =>
  intro es X σ s Q S e H
  cases es with
  | nil => exact evalPairs_nil (OK.here H S.rel trivial)
  | cons => exact H.elim
 | cons k ks ih =>
  intro es X σ s Q S e H
  cases k with
  | none => cases es <;> exact H.elim
  | some k =>
   cases es with
   | nil => exact H.elim
   | cons x es =>
    unfold pairs at H
    refine evalPairs_cons (D.ev S e (OK.bind H fun kv σ₁ _ Y s₁ uk hy hr hk H => ?_))
    refine wpAny_bind (D.ev (S.next hy hr) (e.mono hy) (OK.bind H fun v σ₂ _ Z s₂ u hz hr₂ hu H => wpAny_bind (wpAny_standAt (wpAny_pure ?_))))
    refine ih ((S.next hy hr).next hz hr₂) ((e.mono hy).mono hz) (OK.bind H fun m σ₃ _ W s₃ j hw hr₃ hj H => ?_)
    cases kv with
    | str y =>
     revert hk; refine xvp fun t q1 => ?_; subst q1
     exact OK.here H hr₃ ⟨⟨t, rfl⟩, hu.mono hw.r, hj⟩
    | _ => exact H.elim
theorem store_all {d : Addr} {ρ : List Addr} : ∀ (m : List (Str × V)) {j : List (Value × Value)} {kvs : List (Str × Value)} {es : List (Str × V)} {s : Shared} {Q : PUnit → Shared → Prop}, PR ρ m j → s.heap.DictOf (strKind P w) d kvs → DR ρ es kvs → (kvs.map (·.1)).Nodup → kvs.length + m.length ≤ 1000 →
  (∀ h' tk kvs', h'.DictOf (strKind P w) d kvs' → DR ρ (m.foldl (fun es p => put es p.1 p.2) es) kvs' → (∀ b, b ≠ d → ∀ o, s.heap.get? b = some o → h'.get? b = some o) → Q ⟨⟩ { s with heap := h', toks := tk }) → wpAny (model P w) A (storeAll d j) Q E s := by
 intro m
 induction m with
 | nil =>
  intro j kvs es s Q hp hd hr hn hl q
  cases j with
  | nil => exact wpAny_pure (q s.heap s.toks kvs hd hr fun b _ o e => e)
  | cons => exact hp.elim
 | cons x m ih =>
  intro j kvs es s Q hp hd hr hn hl q
  obtain ⟨x, v⟩ := x
  cases j with
  | nil => exact hp.elim
  | cons y j =>
   obtain ⟨k, u⟩ := y
   revert hp; refine xppp fun q1 hv hp => ?_; revert q1; refine xvp fun t q2 => ?_; subst q2
   unfold storeAll
   rw [List.forIn_cons]
   have hlen : (stored kvs x u).length ≤ kvs.length + 1 := by
    unfold stored
    split
    ·simp
    ·simp
   rw [List.length_cons] at hl
   refine wpAny_bind (wpAny_bind (wpAny_dictSet_pairs (knd := strKind P w) (k := x) (strIs x t) hd (fun h' h1 h2 => wpAny_pure ?_) (Nat.le_trans (by omega : kvs.length ≤ 1000) (by decide))))
   refine ih (s := { s with heap := h', toks := s.toks + 1 }) hp h1 (hr.put hv hn) (stored_nodup hn) (by show (stored kvs x u).length + m.length ≤ 1000; omega) fun h'' tk kvs' k1 k2 k3 => q h'' tk kvs' k1 k2 fun b hb o e => k3 b hb o (qQ h2 b hb o e)
theorem ev_dict (D : Snd P w g K T n r) (S : Sit P w g K T n l A X σ s) (e : bQ l X f env) {ks : List (Option PySem.Expr)} {es : List PySem.Expr} {pos : Pos} (hc : (Nat.ble ks.length 15 && (Nat.beq ks.length es.length && ks.all Option.isSome)) = true) {Q : Value → Shared → Prop}
  (H : OK P w g l X RV Q E (match hJ [.dict []] σ with
  | some σ₁ => (pairs r f ks es σ₁).bind fun l σ' => (match σ'.get σ.size with
   | some (.dict []) => .ok (.new σ.size) (σ'.setF σ.size (.dict (l.foldl (fun es p => put es p.1 p.2) [])))
   | _ => .stop "dict")
  | none => .stop "room")) : wpAny (model P w) A (eval (.Dict ks es pos) env) Q E s := by
 simp only [Bool.and_eq_true] at hc
 revert hc; refine xppp fun h1 h2 h3 => ?_
 have h1 := nL h1
 have h2 := nE h2
 unfold hJ at H
 refine bE (Nat.blt σ.size 4096) (fun hz => ?_) (fun hz => ?_)
 ·rw [hz] at H; exact H.elim
 ·
  rw [hz, cond_true, St.pushF_eq] at H
  unfold hJ at H
  dsimp only at H
  have R1 : Rel P w (X.add s.heap.objs.size) (σ.push (.dict [])) { s with heap := s.heap.push { cls := .type "dict", data := .dict #[] } } :=
   S.rel.alloc (bI.mp hz) (Heap.get?_none_of_le (Nat.le_refl _)) (fun b o eb => Heap.get?_push_of_some _ eb) (Heap.get?_push_size _ rfl)
    ⟨[], ⟨#[], 0, ⟨rfl, rfl, rfl⟩, rfl, fun _ he => by simp at he, Pairs.nil, List.nodup_nil⟩, trivial⟩
  have hd : (X.add s.heap.objs.size).ρ[σ.size]? = some s.heap.objs.size := Wl.add_get S.rel.len
  have fin : ∀ {m : List (Str × V)} {σ₂ : St} {Y : Wl} {s₂ : Shared}, (X.add s.heap.objs.size).Le Y → Rel P w Y σ₂ s₂ → OK P w g l Y RV Q E (match σ₂.get σ.size with
   | some (.dict []) => .ok (.new σ.size) (σ₂.setF σ.size (.dict (m.foldl (fun es p => put es p.1 p.2) [])))
   | _ => .stop "dict") → ∀ {h' : Heap} {tk : Tok} {kvs' : List (Str × Value)}, h'.DictOf (strKind P w) s.heap.objs.size kvs' → DR Y.ρ (m.foldl (fun es p => put es p.1 p.2) []) kvs' → (∀ b, b ≠ s.heap.objs.size → ∀ o, s₂.heap.get? b = some o → h'.get? b = some o) →
   Q (.ref s.heap.objs.size) { s₂ with heap := h', toks := tk } := fun {m σ₂ Y s₂} hy hr H {h' tk kvs'} k1 k2 k3 => by
    split at H
    ·rename_i hg
     refine OK.here H ?_ ⟨_, pG hy.r hd, rfl⟩
     rw [St.setF_eq]
     refine aQ (fun o' ho' hd' => ?_) (Heap.dictOf_iff.mp k1)
     exact hr.set hg (pG hy.r hd) k3 ho' ⟨kvs', hd', k2⟩ fun m q => by injection q
    ·exact H.elim
  cases ks with
  | nil =>
   cases es with
   | cons => injection h2
   | nil =>
    refine wpAny_Dict_empty ?_
    have := fin (m := []) (.refl _) R1 (OK.mono (X.le_add _) H) (h' := s.heap.push { cls := .type "dict", data := .dict #[] }) (tk := s.toks) (Heap.DictOf.new _) trivial fun b _ o eb => eb
    exact this
  | cons k ks =>
   refine wpAny_Dict_any h3 h2 (by simp) h1 ?_
   have S1 := S.next (X.le_add _) R1
   refine pairs_ok D (k :: ks) S1 (e.mono (X.le_add _)) (OK.bind (OK.mono (X.le_add _) H) fun m σ₂ hm Y s₂ j hy hr hj H => ?_)
   have hg : ∃ kvs, s₂.heap.DictOf (strKind P w) s.heap.objs.size kvs ∧ kvs = [] := by
    refine oE (σ₂.get σ.size) (fun hq => ?_) (fun o hq => ?_)
    ·rw [hq] at H; exact H.elim
    ·
     rw [hq] at H
     cases o with
     | dict es' =>
      cases es' with
      | nil =>
       refine aQ (fun kvs a1 a2 => ?_) (hr.dict (show rd (σ₂.get σ.size) = _ by rw [hq]; rfl) (pG hy.r hd))
       cases kvs with
       | nil => exact ⟨_, a1, rfl⟩
       | cons => exact a2.elim
      | cons => exact H.elim
     | _ => exact H.elim
   revert hg; refine xvpr0 fun hD => ?_
   have hml : m.length ≤ 15 := by
    have : ∀ (ks : List (Option PySem.Expr)) {es : List PySem.Expr} {σ σ' : St} {m : List (Str × V)}, pairs r f ks es σ = .ok m σ' → m.length = ks.length := by
     intro ks
     induction ks with
     | nil => intro es σ σ' m h; cases es <;> cases h; rfl
     | cons k ks ih =>
      intro es σ σ' m h
      cases k with
      | none => cases es <;> injection h
      | some k =>
       cases es with
       | nil => injection h
       | cons x es =>
        unfold pairs at h
        cases h1 : r.ev f k σ with
        | stop => rw [h1] at h; injection h
        | exc => rw [h1] at h; injection h
        | ok kv σ₁ =>
         rw [h1] at h
         change (r.ev f x σ₁).bind _ = _ at h
         cases h2 : r.ev f x σ₁ with
         | stop => rw [h2] at h; injection h
         | exc => rw [h2] at h; injection h
         | ok v σ₂ =>
          rw [h2] at h
          change (pairs r f ks es σ₂).bind _ = _ at h
          cases h3 : pairs r f ks es σ₂ with
          | stop => rw [h3] at h; injection h
          | exc => rw [h3] at h; injection h
          | ok m' σ₃ =>
           rw [h3] at h
           dsimp only [Res.bind] at h
           cases kv with
           | str y => injection h with q1 q2; subst q1; subst q2; exact congrArg (· + 1) (ih h3)
           | _ => injection h
    rw [this _ hm]
    exact h1
   exact store_all m hj hD (show DR Y.ρ [] [] from trivial) List.nodup_nil (by simp; omega) fun h' tk kvs' k1 k2 k3 => fin hy hr H k1 k2 k3
theorem ev_rev (D : Snd P w g K T n r) (S : Sit P w g K T n l A X σ s) (e : bQ l X f env) {o : PySem.Expr} {kk : Nat} {p1 p2 p3 pos : Pos} {Q : Value → Shared → Prop} (H : OK P w g l X RV Q E ((r.ev f o σ).bind fun v σ => (match v with
  | .new k => (match rd (σ.get k) with | some (.list xs) => newSeq σ false xs.reverse | _ => .stop "slice")
  | _ => .stop "slice"))) : wpAny (model P w) A (eval (.Subscript o (.Slice none none (some (.UnaryOp .USub (.Constant (.int 1) kk p1) p2)) p3) pos) env) Q E s := by
 rw [eval_Subscript]
 refine wpAny_bind (D.ev S e (OK.bind H fun v σ₁ _ Y s₁ u hy hr hu H => wpAny_bind (wpAny_holding ?_)))
 cases v with
 | new k =>
  revert hu; refine aQ fun a ha q1 => ?_; subst q1
  dsimp only at H
  split at H
  ·rename_i xs hk
   refine kQ (fun us m ho hx => ?_) (hr.rat hk ha)
   have hs := seq_ok H hr hx.rev
   refine wpAny_Slice (wpAny_pure (wpAny_pure ?_))
   refine wpAny_UnaryOp (wpAny_Constant_int (PySem.P.neg_int ?_))
   refine wpAny_bind (wpAny_standAt ?_)
   have hl : Heap.IsList s₁.heap a us := ⟨_, ho, rfl, m, rfl⟩
   refine tail_any (value := o) (ops := [.ref a, .ref s₁.heap.objs.size]) (Heap.IsList.typeIs (s := { s₁ with heap := s₁.heap.push _, toks := _ }) (hl.push _)) slot_list_getitem.lookup
    (wpAny_getItem_list_slice (s := { s₁ with heap := s₁.heap.push _, toks := _ }) (hl.push _) (Heap.IsSliceOf.new ..) .none .none (.int (-1) _) (by decide) ?_ (by have := hs.1; simpa using this)) rfl
   rw [krv_pick]
   have R1 : Rel P w Y σ₁ { s₁ with heap := s₁.heap.push { cls := .type "slice", data := .fields #[.none, .none, .int (-1) (s₁.toks + 1)] }, toks := s₁.toks + 1 + 1 } := hr.push _
   have := (seq_ok H R1 hx.rev).2 { s₁ with heap := (s₁.heap.push { cls := .type "slice", data := .fields #[.none, .none, .int (-1) (s₁.toks + 1)] }).push { cls := .type "list", data := .seq us.toList.reverse.toArray }, toks := s₁.toks + 1 + 1 } rfl rfl rfl
   exact this
  ·exact H.elim
 | _ => exact H.elim
end
end
end Mine
end
section
open PySem PySem.W PySem.Calls PyProof.Rows PySem.SeqAt Builtin Builtin.ObjectAttr
namespace Mine
section
variable [Tau]
section
variable {M : Model} {A : Around} {E : Value → Shared → Prop} {h : Heap} {g : Array GenState} {d : Drawn} {t : Nat} {os : OsState}
variable {nm q : Str} {C N Mk : Addr} {bs : List Value} {hdct : Bool} {sn : List Str} {sub : List Value} {ab : Bool} {col : Option Bool} {dd : Option Addr} {k0 k1 k2 k3 k5 : Option Value}
theorem flt_check_new {rest : List Value} {Q : Unit → Shared → Prop} (hC : h.get? C = some (excClassObj nm q C N bs (dZ Mk) hdct sn sub ab col dd k0 k1 k2 k3 k5 "Exception.__new__"))
  (hq : Q () ⟨h, g, d, t, os⟩) : wpAny M A (checkBuiltinCall "Exception.__new__" ⟨.ref C :: rest, []⟩) Q E ⟨h, g, d, t, os⟩ := by
 have Fn := PySem.F.excBase_Exception
 have hcont : (Value.ref C :: dZ Mk).contains (.type "Exception") = true := by simp [dZ]
 have hstar := Fn.noStar
 simp only [checkBuiltinCall, Fn.newKind, Fn.newSplit, Fn.newRow]
 repeat (first | refine wpAny_loadPart_at hC ?_ | (refine wpAny_isSubtype_exc hC ?_; rw [hcont]) | refine wpAny_staticBase_exc hC ?_ | refine wpAny_madeBy_exc hC ?_ | simp only [bne_self_eq_false, Bool.false_eq_true, if_false] | wp_step)
 exact hq
theorem flt_check_init {e : Addr} {oe : Obj} {rest : List Value} {Q : Unit → Shared → Prop}
  (hC : h.get? C = some (excClassObj nm q C N bs (dZ Mk) hdct sn sub ab col dd k0 k1 k2 k3 k5 "Exception.__new__")) (he : h.get? e = some oe) (hcls : oe.cls = .ref C) (hq : Q () ⟨h, g, d, t, os⟩) :
  wpAny M A (checkBuiltinCall "Exception.__init__" ⟨.ref e :: rest, []⟩) Q E ⟨h, g, d, t, os⟩ := by
 have F := PySem.F.excBase_Exception
 have hcB : (Value.ref C :: dZ Mk).contains (.type "Exception") = true := by simp [dZ]
 have hshort := F.noStar
 simp only [checkBuiltinCall, F.initKind, F.initSplit, F.initRow]
 repeat (first | (with_reducible refine wpAny_loadPart_at he ?_; rw [hcls]) | with_reducible refine wpAny_loadPart_at hC ?_ | (with_reducible refine wpAny_isSubtype_exc hC ?_; rw [hcB]) | wp_step)
 refine wpAny_onRaise ?_
 rw [show ∀ (a b : String) (n : Nat), Bind.check ⟨.positional, "*", "Exception", .self, [⟨"args", .varPos, false⟩]⟩ a b n (List.map (fun x => x.fst) ({ pos := Value.ref e :: rest } : Args).kw) = pure () from
  fun a b n => check_star_args _ _ _ _ _ _]
 exact wpAny_pure hq
end
section
variable {prog : Program} {w : World} {A : Around} {R : Result → Shared → Prop} {E : Value → Shared → Prop} {h : Heap} {g : Array GenState} {d : Drawn} {t : Nat} {os : OsState}
variable {nm q : Str} {C N Mk : Addr} {bs : List Value} {hdct : Bool} {sn : List Str} {sub : List Value} {ab : Bool} {col : Option Bool} {dd : Option Addr} {k0 k1 k2 k3 k5 : Option Value}
noncomputable abbrev excNew (C t : Addr) : Obj := { cls := .ref C, data := .fields #[.ref t, .none, .none, .none, .bool false, .none] }
theorem flt_new {rest : List Value} (hC : h.get? C = some (excClassObj nm q C N bs (dZ Mk) hdct sn sub ab col dd k0 k1 k2 k3 k5 "Exception.__new__"))
  (hq : R (.ok (.ret (.ref (h.objs.size + 1)))) ⟨(h.push { cls := .type "tuple", data := .seq rest.toArray }).push (excNew C h.objs.size), g, d, t, os⟩) (hrest : rest.length ≤ sizeLine) :
  codeAny (model prog w) A (.builtin "Exception.__new__" ⟨.ref C :: rest, []⟩) R ⟨h, g, d, t, os⟩ := by
 have Fn := PySem.F.excBase_Exception
 have hends := Fn.ends
 have hcB : (Value.ref C :: dZ Mk).contains (.type "Exception") = true := by simp [dZ]
 have hcA : (Value.ref C :: dZ Mk).contains (.type "AttributeError") = false := by simp [dZ]
 have hcN : (Value.ref C :: dZ Mk).contains (.type "NameError") = false := by simp [dZ]
 refine codeAny_builtinAt Fn.entry ?_
 unfold Builtin.«BaseException.__new__»
 refine PySem.wpAt_bind ?_
 show PySem.wpAt _ _ _ (stack >>= _) _ _ _
 refine PySem.wpAt_bind (PySem.wpAt_stack fun p below => PySem.wpAt_of_wpAny ?_)
 wp_walk
 refine PySem.wpAt_of_wpAny ?_
 rw [Fn.owner]
 repeat (first | with_reducible refine wpAny_madeHere_exc Fn.canon hC ?_ | with_reducible refine wpAny_loadPart_at hC ?_ | (with_reducible refine wpAny_isSubtype_exc hC ?_; first | rw [hcB] | rw [hcA] | rw [hcN]) | wp_step)
 show R _ _
 rw [Heap.size_push]
 exact hq
theorem flt_call {rest : List Value} {i : Addr} {K : Frag} {Q : Value → Shared → Prop} (X : K.In h) (hC : h.get? C = some (excClassObj nm q C N bs (dZ Mk) hdct sn sub ab col dd k0 k1 k2 k3 k5 "Exception.__new__"))
  (hi : findIn K (.ref C) "__init__" = some (some (.ref i))) (hf : typeIn K (.ref i) = some (.type "function"))
  (hq : codeAny (model prog w) (A.under (.builtin "type.__call__" ⟨.ref C :: rest, []⟩)) (.call (.ref i) ⟨.ref (h.objs.size + 1) :: rest, []⟩) (fun r s' => match r with | .ok (.ret v) => v = .none ∧ Q (.ref (h.objs.size + 1)) s' | .ok _ => False | .error e => E e s')
   ⟨(h.push { cls := .type "tuple", data := .seq rest.toArray }).push (excNew C h.objs.size), g, d, t, os⟩) (hrest : rest.length ≤ sizeLine) :
  wpAny (model prog w) A (call (.ref C) rest) Q E ⟨h, g, d, t, os⟩ := by
 have f1 := tc_lookup
 have f2 := tc_bind (.ref C)
 have Fn := PySem.F.excBase_Exception
 have hT : (⟨h, g, d, t, os⟩ : Shared).TypeIs (.ref C) "type" := ⟨_, hC, rfl⟩
 refine wpAny_call (codeAny_of_tree ?_)
 show wpAny _ _ (callAny (.ref C) _) _ _ _
 repeat (any_goals (first | assumption | with_reducible refine wpAny_loadPart_at hC ?_ | wp_step))
 refine ⟨rfl, ?_⟩
 refine codeAny_call_builtin_at (Code.quiet_builtin _ (by decide +kernel)) entry_typeCall (wpAny_check_type_call_sub hC ?_)
 repeat (first | with_reducible refine wpAny_loadPart_at hC ?_ | with_reducible refine wpAny_madeBy_exc hC ?_ | wp_step)
 refine codeAny_call_builtin_code (Code.quiet_builtin _ Fn.quiet) (flt_check_new hC ?_)
 refine flt_new hC ?_ hrest
 show wpAny _ _ _ _ _ _
 have hC₁ := Heap.get?_push_of_some (excNew C h.objs.size) (Heap.get?_push_of_some { cls := .type "tuple", data := .seq rest.toArray } hC)
 have hget : ((h.push { cls := .type "tuple", data := .seq rest.toArray }).push (excNew C h.objs.size)).get? (h.objs.size + 1) = some (excNew C h.objs.size) := by heap_get
 have hcC : (Value.ref C :: dZ Mk).contains (.ref C) = true := by simp
 have X₁ : K.In ((h.push { cls := .type "tuple", data := .seq rest.toArray }).push (excNew C h.objs.size)) := X.keeps fun b o e => Heap.get?_push_of_some _ (Heap.get?_push_of_some _ e)
 have t1 : Looks (model prog w) ((h.push { cls := .type "tuple", data := .seq rest.toArray }).push (excNew C h.objs.size)) (typeOf (.ref (h.objs.size + 1))) (.ref C) := (Looks.ld hget).andThen .now
 have i1 := looks_findIn (M := model prog w) X₁ hi
 have b1 := bind_fn (M := model prog w) X₁ (.ref (h.objs.size + 1)) hf
 unfold isInstance callSpecial? specialOf
 repeat (first | with_reducible refine wpAny_loadPart_at hget ?_ | wp_step)
 show wpAny _ _ (isSubtype (.ref C) (.ref C)) _ _ _
 refine wpAny_isSubtype_exc hC₁ ?_
 rw [hcC]
 dsimp only [Bool.not_true]
 rw [if_neg (by decide)]
 refine wpAny_bind (wpAny_holding (wpAny_bind (wpAny_bind (t1.here (i1.here ?_)))))
 dsimp only
 refine wpAny_holding (wpAny_bind (b1.here (wpAny_bind (wpAny_call ?_))))
 refine codeAny_mono hq fun r s' z => ?_
 rcases r with e | (v | _ | _ | _) <;> first | exact z | exact z.elim | skip
 revert z; refine xpp fun q1 z => ?_; subst q1
 exact wpAny_pure (wpAny_pure z)
theorem flt_osa {ox : Obj} {x : Addr} {K : Frag} {name : Str} {tk : Tok} {v : Value} (X : K.In h) (hC : h.get? C = some (excClassObj nm q C N bs (dZ Mk) true sn sub ab col dd k0 k1 k2 k3 k5 "Exception.__new__"))
  (I : InstAt h x ox C none) (ha : findIn K (.ref C) name = some none)
  (hq : ∀ h' dx tk', h'.get? x = some { ox with dict := some dx } → (∀ b o, b ≠ x → h.get? b = some o → h'.get? b = some o) → R (.ok (.ret .none)) ⟨h', g, d, tk', os⟩) :
  codeAny (model prog w) A (.call (.builtin "object.__setattr__") ⟨[.ref x, .str name tk, v], []⟩) R ⟨h, g, d, t, os⟩ := by
 have SF := PySem.F.store_Exception
 have hcB : (Value.ref C :: dZ Mk).contains (.type "object") = true := by simp [dZ]
 have sub : Looks (model prog w) h (isInstance (.ref x) (.type "object")) true := I.type.andThen fun A Q E s k q => by
  obtain ⟨h', g', d', t', os'⟩ := s
  exact wpAny_isSubtype_exc (k _ _ hC) (by rw [hcB]; exact q)
 have hm : Looks (model prog w) h (mroOf (.ref C)) (.ref C :: dZ Mk) := fun A Q E s k q => by
  obtain ⟨h', g', d', t', os'⟩ := s
  exact wpAny_mroOf_exc (k _ _ hC) q
 refine codeAny_call_builtin SF.slot.plain SF.entry (@check_slot (model prog w) _ _ ⟨h, g, d, t, os⟩ "object.__setattr__" "object" "__setattr__" (.ref x) [.str name tk, v] [] _ SF.kind SF.split sub (SF.args (.ref x) (.str name tk) v) ?_)
 rw [osa_eq, refuse_eq]
 refine wpAny_bind (wpAny_bind (I.type.here (wpAny_bind (hm.here ?_))))
 rw [refuseLoop_ref, refuseLoop_ref, SF.passes]
 have L3 : Looks (model prog w) h (storeTaker? none) none := .now
 refine wpAny_pure (wpAny_bind (I.type.here (wpAny_bind ((looks_findIn X ha).here (wpAny_bind (L3.here ?_))))))
 dsimp only
 obtain ⟨hx, hcl, hno, hdn⟩ := I
 obtain ⟨oc, od, odt, osl⟩ := ox
 dsimp only at hcl hdn
 subst hcl
 cases od with
 | some _ => exact hdn.elim
 | none =>
  have hxC : ¬ ∃ c, odt = .cls c := fun ⟨c, z⟩ => by subst z; injection hno
  have hx₁ : (h.push { cls := .type "dict", data := .dict #[] }).get? x = some ⟨.ref C, none, odt, osl⟩ := Heap.get?_push_of_some _ hx
  have hxs : x ≠ h.objs.size := Nat.ne_of_lt (Heap.lt_size hx)
  unfold storeInOwnDict
  refine wpAny_bind (wpAny_pure (wpAny_bind ?_))
  unfold ownDictForStores instanceDict
  refine wpAny_bind (wpAny_loadPart hx (wpAny_bind ?_))
  unfold classData
  refine wpAny_bind (wpAny_load hC (wpAny_pure ?_))
  dsimp only [Bool.not_true, Bool.not_false]
  rw [if_neg (by decide)]
  rw [if_neg (by simp [typeHasDict])]
  have body : wpAny (model prog w) A.in1 (storeInDict h.objs.size (.str name tk) name v) (fun fin s' => match fin with | .done f => R (.ok f) s' | .again c' => c'.quiet = true ∧ codeAny (model prog w) A c' R s') (fun e s' => R (.error e) s')
    ⟨((h.push { cls := .type "dict", data := .dict #[] }).update x fun o => { o with dict := some h.objs.size }), g, d, t, os⟩ := by
   have hgd : ((h.push { cls := .type "dict", data := .dict #[] }).update x fun o => { o with dict := some h.objs.size }).get? h.objs.size
     = some { cls := .type "dict", data := .dict #[] } :=
    (Heap.get?_update_ne _ _ _ _ hxs.symm).trans (Heap.get?_push_at rfl rfl)
   have hnd : ((h.push { cls := .type "dict", data := .dict #[] }).update x fun o => { o with dict := some h.objs.size }).Ns h.objs.size (fun _ => none) :=
    ⟨_, #[], _, hgd, rfl, fun e he => absurd he (by simp), fun _ => rfl⟩
   unfold storeInDict newKeyGuard
   refine wpAny_bind (wpAny_pure (wpAny_bind (wpAny_nsSet1 (Heap.Ns1.of_empty hnd) fun h' hn' hs => ?_)))
   refine xQ (fun oD esD epD hoD hdD hcD => ?_) (hn'.count (Within.cons name v Within.nil))
   refine wpAny_bind (wpAny_lookBehind hoD (by rw [hdD]; exact pastItsLine_dict (Nat.le_trans hcD (by rw [List.length_cons, List.length_nil, sizeLine_eq]; omega))) ?_)
   have hx' : h'.get? x = some ⟨.ref C, some h.objs.size, odt, osl⟩ := by
    refine (hs.2 x hxs).trans (Heap.get?_update_self _ hx₁ ?_)
    have hfr := (Heap.get?_some_iff.mp hx).2
    cases odt <;> first | rfl | exact hfr
   refine wpAny_pure (hq h' _ _ hx' fun b ob hbx hb => ?_)
   exact (hs.2 b (Nat.ne_of_lt (Heap.lt_size hb))).trans ((Heap.get?_update_ne _ _ _ _ hbx).trans (Heap.get?_push_of_some _ hb))
  cases odt <;> first | exact (hxC ⟨_, rfl⟩).elim | exact wpAny_bind (wpAny_alloc' (wpAny_bind (wpAny_update' hx₁ (wpAny_pure body))))
end
end
section
variable [Tau]
noncomputable def exprI (s : Stmt) : Option (PySem.Expr × Pos) := match s with
 | .Expr e p => some (e, p)
 | _ => none
theorem exprI_ok {s : Stmt} {q : PySem.Expr × Pos} (h : exprI s = some q) : s = .Expr q.1 q.2 := by cases s <;> first | exact nos h | ((injection h with q1; subst q1); rfl)
noncomputable def asgI (s : Stmt) : Option (List PySem.Expr × PySem.Expr × Pos) := match s with
 | .Assign ts e p => some (ts, e, p)
 | _ => none
theorem asgI_ok {s : Stmt} {q : List PySem.Expr × PySem.Expr × Pos} (h : asgI s = some q) : s = .Assign q.1 q.2.1 q.2.2 := by cases s <;> first | exact nos h | ((injection h with q1; subst q1); rfl)
structure IniA where
 x : PySem.Expr × Pos
 c : PySem.Expr × List PySem.Expr × Pos
 t : PySem.Expr × Str × Pos
 o : Str × Pos
 a : PySem.Expr × PySem.Expr
 a1 : Str × Pos
 a2 : Str × Pos
noncomputable def iniA (s : Stmt) : Option IniA := (exprI s).bind fun x => (callI x.1).bind fun c => (attrI c.1).bind fun t => (nameI t.1).bind fun o => (twoI c.2.1).bind fun a => (nameI a.1).bind fun a1 => (nameI a.2).bind fun a2 => some ⟨x, c, t, o, a, a1, a2⟩
noncomputable def IniA.st (d : IniA) : Stmt := .Expr (.Call (.Attribute (.Name d.o.1 d.o.2) d.t.2.1 d.t.2.2) [.Name d.a1.1 d.a1.2, .Name d.a2.1 d.a2.2] [] d.c.2.2) d.x.2
theorem iniA_ok {s : Stmt} {d : IniA} (h : iniA s = some d) : s = d.st := by
 revert h; refine oB fun x h1 h => ?_
 revert h; refine oB fun c h2 h => ?_
 revert h; refine oB fun t h3 h => ?_
 revert h; refine oB fun o h4 h => ?_
 revert h; refine oB fun a h5 h => ?_
 revert h; refine oB fun a1 h6 h => ?_
 revert h; refine oB fun a2 h7 h => ?_
 injection h with q1; subst q1
 unfold IniA.st
 rw [exprI_ok h1, callI_ok h2, attrI_ok h3, nameI_ok h4, twoI_ok h5, nameI_ok h6, nameI_ok h7]
structure IniB where
 x : List PySem.Expr × PySem.Expr × Pos
 t : PySem.Expr
 u : PySem.Expr × Str × Pos
 o : Str × Pos
 c : Str × Pos
noncomputable def iniB (s : Stmt) : Option IniB := (asgI s).bind fun x => (oneI x.1).bind fun t => (attrI t).bind fun u => (nameI u.1).bind fun o => (nameI x.2.1).bind fun c => some ⟨x, t, u, o, c⟩
noncomputable def IniB.st (d : IniB) : Stmt := .Assign [.Attribute (.Name d.o.1 d.o.2) d.u.2.1 d.u.2.2] (.Name d.c.1 d.c.2) d.x.2.2
theorem iniB_ok {s : Stmt} {d : IniB} (h : iniB s = some d) : s = d.st := by
 revert h; refine oB fun x h1 h => ?_
 revert h; refine oB fun t h2 h => ?_
 revert h; refine oB fun u h3 h => ?_
 revert h; refine oB fun o h4 h => ?_
 revert h; refine oB fun c h5 h => ?_
 injection h with q1; subst q1
 unfold IniB.st
 rw [asgI_ok h1, vJ h2, attrI_ok h3, nameI_ok h4, nameI_ok h5]
noncomputable def isExc (v : Option V) : Bool := match v with
 | some v => (match v with
  | .ty t => (match t with
   | .exc => true
   | _ => false)
  | _ => false)
 | none => false
theorem isExc_ok {v : Option V} (h : isExc v = true) : v = some (.ty .exc) := by
 cases v with
 | none => exact Bool.noConfusion h
 | some v => cases v with
  | ty t => cases t <;> first | rfl | exact Bool.noConfusion h
  | _ => exact Bool.noConfusion h
noncomputable def exoI (o : Option O) : Option Nat := o.bind fun o => match o with
 | .exo F d => bif d then none else some F
 | _ => none
theorem exoI_ok {o : Option O} {F : Nat} (h : exoI o = some F) : o = some (.exo F false) := by
 revert h; refine oB fun x q1 h => ?_; subst q1
 cases x with
 | exo F d => cases d with
  | true => injection h
  | false => injection h with q1; subst q1; rfl
 | _ => exact nos h
noncomputable def iniGo (g : Cx) (f : Fr) (σ : St) (a : IniA) (b : IniB) : Option St := bif eqS a.t.2.1 (sOf "__init__") && (eqS b.u.2.1 (sOf "message") && (Nat.beq a.t.2.2.endLine a.c.2.2.line && isExc (lJ g f σ a.o.1))) then
  ((lJ g f σ a.a1.1).bind newI).bind fun k => (lJ g f σ a.a2.1).bind fun _ => ((lJ g f σ b.o.1).bind newI).bind fun k' => (lJ g f σ b.c.1).bind fun _ => bif Nat.beq k k' then (exoI (σ.get k)).bind fun F => bif Nat.beq F g.fault then some (σ.set k (.exo F true)) else none else none else none
noncomputable def iniEx (g : Cx) (f : Fr) (b : List Stmt) (σ : St) : Option St := (twoI b).bind fun p => (iniA p.1).bind fun a => (iniB p.2).bind fun b => iniGo g f σ a b
noncomputable def iniEv (g : Cx) (f : Fr) (e : PySem.Expr) (σ : St) : Res V := match e with
 | .Name x _ => oJ "name" (lJ g f σ x) σ
 | _ => .stop ""
noncomputable def initR (g : Cx) : Rc where
 ev f e σ := iniEv g f e σ
 tst _ _ _ := .stop ""
 exs f b σ := rQ (iniEx g f b σ)
 call _ _ _ := .stop ""
theorem in_nil {h : Heap} : Frag.In [] h := fun _ _ e => by injection e
section
variable {prog : Program} {w : World} {A : Around} {E : Value → Shared → Prop} {s : Shared}
theorem gm_type {T : String} {name : Str} {v : Value} {pl : Sem Bool} {Q : Value × List Value → Shared → Prop} (ht : typeOf (.type T) = pure (.type "type")) (hs : Manifest.isStub T = false)
  (e : findCls [] (.type T) (.type "type") name = some (.val v)) (hh : handedIn v = true) (h : Q (v, []) { s with toks := s.toks + 1 }) : wpAny (model prog w) A (getMethod (.type T) name pl) Q E s := by
 have X : Frag.In [] s.heap := in_nil
 have hstub : opaqueClassAbove (.type T) = pure none := by unfold opaqueClassAbove; dsimp only; rw [hs]; rfl
 have L0 : Looks (model prog w) s.heap (typeOf (.type T)) (.type "type") := Looks.of_pure ht
 have hg : findIn [] (.type "type") "__getattribute__" = some (some (.builtin "type.__getattribute__")) := type_tga
 unfold getMethod specialOf
 refine wpAny_bind (wpAny_bind (L0.here ((looks_findIn X hg).here ?_)))
 dsimp only
 rw [if_pos canon_tga]
 refine wpAny_bind (wpAny_mono (Q := fun v => Q (v, [])) (E := E) ?_ (fun _ _ z => wpAny_pure z) fun _ _ z => z)
 have LO : Looks (model prog w) s.heap (opaqueClassAbove (.type T)) none := Looks.of_pure hstub
 refine cls_open X LO L0 hg (looks_hook X (r := none) (by rfl)) (by show subIn [] _ _ = _; rfl) e
  (wpAny_pure (by show wpAny _ _ (handedOut v) _ _ _; rw [handedOut_of hh]; exact wpAny_pure h))
theorem exc_init_found : findCls [] (.type "Exception") (.type "type") (sOf "__init__") = some (.val (.builtin "Exception.__init__")) := by kernel_rfl
theorem gm_exc {name : Str} (hn : name = sOf "__init__") {pl : Sem Bool} {Q : Value × List Value → Shared → Prop} (h : Q (.builtin "Exception.__init__", []) { s with toks := s.toks + 1 }) : wpAny (model prog w) A (getMethod (.type "Exception") name pl) Q E s := by
 subst hn
 exact gm_type (by kernel_rfl) (by decide +kernel) exc_init_found (by decide +kernel) h
theorem exc_init_run {e : Addr} {oe : Obj} {vs : Array Value} {a0 : Value} {rest : List Value} {Q : Fin → Shared → Prop} (he : s.heap.get? e = some oe) (hd : oe.data = .fields vs) (h0 : vs[0]? = some a0) (hl : rest.length ≤ sizeLine)
  (q : ∀ h', h'.get? e = some { oe with data := .fields (vs.setIfInBounds 0 (.ref s.heap.objs.size)) } → (∀ b o, b ≠ e → s.heap.get? b = some o → h'.get? b = some o) → Q (.done (.ret .none)) { s with heap := h' }) :
  wpAny (model prog w) A (Builtin.«BaseException.__init__» ⟨.ref e :: rest, []⟩) Q E s := by
 have hs0 : 0 < vs.size := (Array.getElem?_eq_some_iff.mp h0).1
 have he' : (s.heap.push { cls := .type "tuple", data := .seq rest.toArray }).get? e = some oe := Heap.get?_push_of_some _ he
 unfold Builtin.«BaseException.__init__»
 dsimp only
 rw [if_neg (by decide)]
 refine wpAny_bind (wpAny_newTuple ?_ hl)
 unfold Builtin.BaseException.bexcPut
 refine wpAny_bind (wpAny_bind (wpAny_field he' hd h0 (wpAny_bind (wpAny_setField he' hd hs0 ?_))))
 have done : ∀ (u : Unit), wpAny (model prog w) A (ret .none) Q E { s with heap := (s.heap.push { cls := .type "tuple", data := .seq rest.toArray }).update e (Obj.mapFields (·.setIfInBounds 0 (.ref s.heap.objs.size))) } := fun _ => by
  refine wpAny_pure (q _ ?_ fun b o hb hbo => ?_)
  ·rw [Heap.get?_update_self _ he' (Obj.isFreed_of_fields (Obj.data_mapFields hd _))]
   obtain ⟨oc, od, odt, osl⟩ := oe
   dsimp only at hd
   clear he q he'; subst hd
   rfl
  ·exact (Heap.get?_update_ne _ _ _ _ hb).trans (Heap.get?_push_of_some _ hbo)
 cases a0 <;> first | exact wpAny_pure (done ()) | exact wpAny_letGo (done ())
end
section
variable {P : Program} {w : World} {g : Cx} {K : Frag} {T : List Addr} {n : Nat} {l : List Env} {A : Around} {X Y : Wl} {σ σ' : St} {s s' : Shared} {f : Fr} {env : Env} {E : Value → Shared → Prop} {F : Cx}
theorem Rel.touch {n : Nat} {a : Addr} {ob : Obj} {o : O} (R : Rel P w X σ s) (e₀ : σ.get n = some o) (hj : o.mut = true) (ea : X.ρ[n]? = some a) (hs : ∀ b, b ≠ a → ∀ o, s.heap.get? b = some o → s'.heap.get? b = some o) (ha : s'.heap.get? a = some ob) (hd : pQ P w X ob o)
  (hg : autoParam (s'.gens = s.gens) Mine.rf) (ho : autoParam (s'.os = s.os) Mine.rf) : Rel P w X σ s' :=
 { R with
  keep := fun b o e => hs b (fun q => by subst q; rw [R.fresh _ _ b e₀ hj ea] at e; injection e) o (R.keep b o e)
  objs := fun p o₁ e₁ j₁ => by
   by_cases q : p = n
   ·subst q
    rw [e₀] at e₁
    injection e₁ with q1; subst q1
    exact ⟨a, ob, ea, ha, hd⟩
   ·refine oQ (fun b ob' h1 h2 h3 => ?_) (R.objs p o₁ e₁ j₁)
    exact ⟨b, ob', h1, hs b (fun z => q (R.nodup n p _ _ a e₀ e₁ hj j₁ ea (z ▸ h1)).symm) _ h2, h3⟩
  gens := hg.trans R.gens
  os := ho.trans R.os }
theorem init_go (D : Snd P w g K T n ⟨(initR g).ev, fun _ _ _ => .stop "", fun _ _ _ => .stop "", fun _ _ _ => .stop ""⟩) (S : Sit P w g K T n l A X σ s) (e : bQ l X f env) {i : IniA} {d : IniB} {Q : Flow → Shared → Prop} (H : iniGo g f σ i d = some σ') (q : ∀ Y s', X.Le Y → Rel P w Y σ' s' → Q .next s') : wpAny (model P w) A (execs [i.st, d.st] env) Q E s := by
 revert H; refine iQ fun hc H => ?_
 revert H; refine oB fun k h2 H => ?_
 revert H; refine oB fun v h3 H => ?_
 revert H; refine oB fun k' h4 H => ?_
 revert H; refine oB fun v' h5 H => ?_
 revert H; refine iQ fun hk H => ?_
 revert H; refine oB fun F hg H => ?_
 revert H; refine iF fun hF H => ?_
 subst H
 have hk := nE hk
 subst hk
 have hF := nE hF
 subst hF
 have hg := exoI_ok hg
 revert h2; refine oB fun y2 h2 h2' => ?_
 have h2' := iZ h2'
 subst h2'
 revert h4; refine oB fun y4 h4 h4' => ?_
 have h4' := iZ h4'
 subst h4'
 have hi := eI.mp (aL hc)
 have hm := eI.mp (aL (aR hc))
 have hp := nE (aL (aR (aR hc)))
 have h1 := isExc_ok (aR (aR (aR hc)))
 obtain ⟨nm, qq, N, bs, Mk, sn, sub, ab, col, dd, k0, k1, k2, k3, k5, hC₀⟩ := S.cx.flt.obj
 have hC := S.rel.keep _ _ hC₀
 refine xvp (fun x hx => ?_) (S.rel.isin hg)
 unfold IniA.st
 refine wpAny_execs_cons (wpAny_Expr_any ?_ (interactive_no e) (noComp_swap rfl _ _))
 rw [arm_eval_Call, base_eq (by rfl)]
 refine wpAny_bind (name_ok S e h1 fun u hu => wpAny_bind (wpAny_standAt ?_))
 cases hu
 have hform : methodCallForm (([.Name i.a1.1 i.a1.2, .Name i.a2.1 i.a2.2] : List PySem.Expr).length + ([] : List Keyword).length) (backTo i.c.2.2 (starEach [.Name i.a1.1 i.a1.2, .Name i.a2.1 i.a2.2] env)) (backToKw i.c.2.2 (keywordEach [] env)) = true := by
  rfl
 unfold methodCall
 rw [hform]
 refine wpAny_bind (wpAny_holding (gm_exc hi ?_))
 refine wpAny_bind (wpAny_of_eq (show methodCallPos true (.Name i.o.1 i.o.2) env i.t.2.2 i.c.2.2 = pure i.c.2.2 by unfold methodCallPos; simp [hp]) ?_)
 have S' : Sit P w g K T n l A X σ { s with toks := s.toks + 1 } := ⟨S.a, S.fr, S.cx, S.tabs, S.rel.same⟩
 refine callw_ok D S' e (by rfl) (Q₁ := fun us s' => ∃ Y, X.Le Y ∧ Rel P w Y σ s' ∧ cQ Y.ρ [.new k, v] us) ?_ ?_
 ·have hev : evs ⟨(initR g).ev, fun _ _ _ => .stop "", fun _ _ _ => .stop "", fun _ _ _ => .stop ""⟩ f [.Name i.a1.1 i.a1.2, .Name i.a2.1 i.a2.2] σ = .ok [.new k, v] σ := by
   show (oJ "name" (lJ g f σ i.a1.1) σ).bind _ = _
   rw [h2]
   show ((oJ "name" (lJ g f σ i.a2.1) σ).bind _).bind _ = _
   rw [h3]
   rfl
  rw [hev]
  exact fun Y s' us hy hr hus => ⟨Y, hy, hr, hus⟩
 ·rintro us s₁ ⟨Y, hy, hr, hus⟩
  refine ⟨keeps_bt, ?_⟩
  refine oQ (fun u1 u2 q1 q2 hu2 => ?_) (two_of hus); clear hus; subst q1; revert q2; refine aQ fun x' hx' q3 => ?_; subst q3
  have hxY := pG hy.r hx
  rw [hxY] at hx'
  injection hx' with q1; subst q1
  refine xvpppvvppp (fun ob₁ hob₁ hcls₁ hdn₁ vs₁ a1 hd₁ hv0₁ hv1₁ => ?_) (hr.at hg hxY)
  have S₁ := S.next hy hr
  have e₁ := e.mono hy
  have FF := PySem.F.excBase_Exception
  refine wpAny_call (codeAny_call_builtin FF.init.plain FF.initEntry ?_)
  have hC₁ := hr.keep _ _ (hy.b _ _ hC₀)
  refine flt_check_init (h := s₁.heap) (g := s₁.gens) (d := s₁.drawn) (t := s₁.toks) (os := s₁.os) hC₁ hob₁ hcls₁ (exc_init_run (s := s₁) hob₁ hd₁ hv0₁ (by rw [sizeLine_eq]; show 1 ≤ 16777216; decide) fun h' hh hk => ?_)
  have hs0 : 0 < vs₁.size := (Array.getElem?_eq_some_iff.mp hv0₁).1
  have hr₂ : Rel P w Y σ { s₁ with heap := h' } := hr.touch hg rfl hxY (fun b hb o => hk b o hb) hh ⟨hcls₁, hdn₁, _, .ref s₁.heap.objs.size, rfl, by simp [hs0], by rw [Array.getElem?_setIfInBounds_ne (by decide)]; exact hv1₁⟩
  have S₂ := S.next hy hr₂
  show wpAny _ _ _ _ _ _
  refine wpAny_execs_cons (plainObj_wpAny_Assign_Attribute (name_ok S₂ e₁ h5 fun u hu => name_ok S₂ e₁ h4 fun uo ho => ?_) rfl)
  revert ho; refine aQ fun x' hx' q1 => ?_; subst q1
  rw [hxY] at hx'
  injection hx' with q1; subst q1
  refine xvpppvvppp (fun ob₂ hob₂ hcls₂ hdn₂ vs₂ a2 hd₂ hv0₂ hv1₂ => ?_) (hr₂.at hg hxY)
  have I : InstAt h' x ob₂ g.fault none := ⟨hob₂, hcls₂, by unfold notCls; rw [hd₂], by rw [hdn₂ rfl]; trivial⟩
  have X₂ : K.In h' := fun a o e => hr₂.keep _ _ (S₂.cx.kin a o e)
  refine set_plain (s := { s₁ with heap := h' }) X₂ I S.cx.flt.sa ?_
  refine flt_osa (h := h') (g := s₁.gens) (d := s₁.drawn) (t := s₁.toks + 1) (os := s₁.os) X₂ (hr₂.keep _ _ (hy.b _ _ hC₀)) I (by rw [hm]; exact S.cx.flt.ms) fun h₃ dx tk hh₃ hk₃ => ?_
  exact wpAny_execs_nil (q Y _ hy (hr₂.set hg hxY (fun b hb o => hk₃ b o hb) hh₃ ⟨hcls₂, (by intros; contradiction), vs₂, a2, hd₂, hv0₂, hv1₂⟩ (by intros; contradiction)))
theorem init_exs (D : Snd P w g K T n ⟨(initR g).ev, fun _ _ _ => .stop "", fun _ _ _ => .stop "", fun _ _ _ => .stop ""⟩) (S : Sit P w g K T n l A X σ s) (e : bQ l X f env) {b : List Stmt} {Q : Flow → Shared → Prop} (H : OK P w g l X RFl Q E (rQ (iniEx g f b σ))) : wpAny (model P w) A (execs b env) Q E s := by
 refine oE (iniEx g f b σ) (fun hi => ?_) (fun σ' hi => ?_)
 ·rw [hi] at H; exact False.elim H
 ·
  rw [hi] at H
  refine oB (fun p h1 h => ?_) hi
  revert h; refine oB fun i h2 h => ?_
  revert h; refine oB fun d h3 h => ?_
  rw [twoI_ok h1, iniA_ok h2, iniB_ok h3]
  exact init_go D S e h fun Y s' hy hr => H Y s' .next hy hr rfl
theorem snd_names (P : Program) (w : World) (g : Cx) (K : Frag) (T : List Addr) (n : Nat) : Snd P w g K T n ⟨(initR g).ev, fun _ _ _ => .stop "", fun _ _ _ => .stop "", fun _ _ _ => .stop ""⟩ where
 ev := fun {f e σ X s A l env Q E} S e' H => by
  cases e <;> first | exact False.elim H | skip
  refine aQ (fun v h H => ?_) (OK.opt (show OK P w g l X RV Q E (oJ "name" (lJ g f σ _) σ) from H))
  exact name_ok S e' h fun u hu => H.here S.rel hu
 tst := fun _ _ H => H.elim
 exs := fun _ _ H => H.elim
 call := fun _ _ _ H => H.elim
theorem snd_init (P : Program) (w : World) (g : Cx) (K : Frag) (T : List Addr) (n : Nat) : Snd P w g K T n (initR g) where
 ev := (snd_names P w g K T n).ev
 tst := fun _ _ H => H.elim
 exs := fun S e H => init_exs (snd_names P w g K T n) S e H
 call := fun _ _ _ H => H.elim
theorem init_enter {ps : Arguments} {b : List Stmt} {sc : Scope} {q : Str} (I : InitD ps b sc) (hx : look g.globals (sOf "Exception") = some (.ty .exc)) {k : Nat} {m : Str} (hz : σ.size < 4096) (hk : σ.get k = some (.exo g.fault false)) :
  enter (initR g) ps (.stmts b) sc q [] none [] [.new k, .str m] σ = .ok .none ((σ.push (.ns [(sOf "message", .str m), (sOf "self", .new k)])).set k (.exo g.fault true)) := by
 obtain ⟨ia, ⟨p1, p2, p3, p4, p5, p6, p7, p8, p9, p10, rfl, hp⟩, i1, i2, i3, i4, i5, i6⟩ := I
 have hget : (σ.push (.ns [(sOf "message", .str m), (sOf "self", .new k)])).get σ.size = some (.ns [(sOf "message", .str m), (sOf "self", .new k)]) := by rw [St.get_push hz, if_pos rfl]
 have hk' : (σ.push (.ns [(sOf "message", .str m), (sOf "self", .new k)])).get k = some (.exo g.fault false) := by rw [St.get_push hz, if_neg (Nat.ne_of_lt (St.get_lt hk))]; exact hk
 have hb : bindPs [sOf "self", sOf "message"] [V.new k, .str m] [] = some [(sOf "self", .new k), (sOf "message", .str m)] := rfl
 have nm : ∀ (f : Fr), f.scope = sc → f.loc = σ.size → ∀ y v, wQ sc y = some .local → eqS y (sOf "__debug__") = false → look [(sOf "message", V.str m), (sOf "self", .new k)] y = some v →
   lJ g f (σ.push (.ns [(sOf "message", .str m), (sOf "self", .new k)])) y = some v := fun f hf hl y v hy hd hv => by
  unfold lJ
  rw [hd, hf, hy, hl, cond_false]
  dsimp only
  rw [hget]
  exact hv
 have ne : ∀ (f : Fr), f.scope = sc → lJ g f (σ.push (.ns [(sOf "message", .str m), (sOf "self", .new k)])) (sOf "Exception") = some (.ty .exc) := fun f hf => by
  unfold lJ
  rw [show eqS (sOf "Exception") (sOf "__debug__") = false from by decide +kernel, hf, i6]
  exact hx
 unfold enter
 rw [i1, i2, ia, hb]
 show (bif Nat.beq (nCells sc.names) 0 then enterF _ _ _ _ _ _ _ _ else _) = _
 rw [i3]
 show enterF _ _ _ _ _ _ _ _ = _
 unfold enterF
 rw [show ([(sOf "self", V.new k), (sOf "message", .str m)].all fun x => isLocK (wQ sc x.1)) = true from by show (isLocK (wQ sc (sOf "self")) && (isLocK (wQ sc (sOf "message")) && true)) = true; rw [i4, i5]; rfl, cond_true]
 show om (bif Nat.blt σ.size 4096 then some (σ.pushF _) else none) _ _ = _
 rw [bI.mpr hz, cond_true, show ∀ {β : Type} (a : St) (m : String) (k : St → Res β), om (some a) m k = k a from fun _ _ _ => rfl, St.pushF_eq]
 have hgo : ∀ f : Fr, f.scope = sc → f.loc = σ.size → iniEx g f [.Expr (.Call (.Attribute (.Name (sOf "Exception") p1) (sOf "__init__") p2) [.Name (sOf "self") p3, .Name (sOf "message") p4] [] p5) p6, .Assign [.Attribute (.Name (sOf "self") p7) (sOf "message") p8] (.Name (sOf "message") p9) p10] (σ.push (.ns [(sOf "message", .str m), (sOf "self", .new k)])) = some ((σ.push (.ns [(sOf "message", .str m), (sOf "self", .new k)])).set k (.exo g.fault true)) := fun f hf hl => by
  show (bif eqS (sOf "__init__") (sOf "__init__") && (eqS (sOf "message") (sOf "message") && (Nat.beq p2.endLine p5.line && isExc (lJ g f (σ.push (.ns [(sOf "message", .str m), (sOf "self", .new k)])) (sOf "Exception")))) then _ else none) = _
  rw [show eqS (sOf "__init__") (sOf "__init__") = true from by decide +kernel, show eqS (sOf "message") (sOf "message") = true from by decide +kernel, hp, ne f hf]
  show ((lJ g f (σ.push (.ns [(sOf "message", .str m), (sOf "self", .new k)])) (sOf "self")).bind newI).bind (fun _ => (lJ g f (σ.push (.ns [(sOf "message", .str m), (sOf "self", .new k)])) (sOf "message")).bind fun _ => _) = _
  rw [nm f hf hl (sOf "self") (.new k) i4 (by decide +kernel) rfl, nm f hf hl (sOf "message") (.str m) i5 (by decide +kernel) rfl]
  show (bif Nat.beq k k then (exoI ((σ.push (.ns [(sOf "message", .str m), (sOf "self", .new k)])).get k)).bind _ else none) = _
  rw [Nat.beq_refl, hk']
  show (bif Nat.beq g.fault g.fault then _ else none) = _
  rw [Nat.beq_refl]
  rfl
 unfold body1 initR
 dsimp only [List.reverse, List.reverseAux]
 rw [hgo _ rfl rfl]
 rfl
end
section
variable {M : Model} {A : Around} {E : Value → Shared → Prop} {env : Env}
variable {nm q : Str} {C N Mk : Addr} {bs : List Value} {hdct : Bool} {sn : List Str} {sub : List Value} {ab : Bool} {col : Option Bool} {dd : Option Addr} {k0 k1 k2 k3 k5 : Option Value}
theorem raise_made {s : Shared} {x : Sem Value} {Q : Flow → Shared → Prop} (hh : A.handled = none)
  (h : wpAny M A x (fun v s₁ => ∃ e oe vs, v = .ref e ∧ s₁.heap.get? C = some (excClassObj nm q C N bs (dZ Mk) hdct sn sub ab col dd k0 k1 k2 k3 k5 "Exception.__new__") ∧
   s₁.heap.get? e = some oe ∧ oe.cls = .ref C ∧ oe.data = .fields vs ∧ vs[1]? = some .none ∧ E (.ref e) s₁) E s) :
  wpAny M A (raiseStmt env (some x) none) Q E s := by
 have hcB : (Value.ref C :: dZ Mk).contains (.type "BaseException") = true := by simp [dZ]
 unfold raiseStmt
 refine wpAny_bind (wpAny_mono h (fun v s₁ h₁ => ?_) fun _ _ x => x)
 revert h₁; refine xvvvppppppp fun e oe vs q1 hC he hcls hd h1 hE => ?_; subst q1
 obtain ⟨hp, g, d, tk, os⟩ := s₁
 obtain ⟨oc, od, odt, osl⟩ := oe
 dsimp only at hcls hd
 subst hcls hd
 repeat (first | with_reducible refine wpAny_loadPart_at he ?_ | with_reducible refine wpAny_loadPart_at hC ?_ | (with_reducible refine wpAny_isSubtype_exc hC ?_; rw [hcB]) | with_reducible refine wpAny_bind (wpAny_field he rfl h1 ?_) | wp_step)
 exact wpAny_raiseNew_none hh hE
end
end
section
variable [Tau]
section
variable {P : Program} {w : World} {g : Cx} {K : Frag} {T : List Addr} {n : Nat} {r : Rc} {l : List Env} {A : Around} {X Y : Wl} {σ σ' : St} {s s' : Shared} {f : Fr} {env : Env} {E : Value → Shared → Prop} {F : Cx}
theorem Rel.junked {σ₁ : St} (R : Rel P w X σ s) (hs : σ₁.size = σ.size) (hr : ∀ n o, σ₁.get n = some o → σ.get n = some o ∨ o = .junk) (hall : ∀ n, n < σ.size → (σ₁.get n).isSome) (hf : ∀ k ∈ X.fr, σ₁.get k = σ.get k) : Rel P w X σ₁ s where
 keep := R.keep
 fresh := fun n o b e j h => (hr n o e).elim (fun e => R.fresh n o b e j h) fun z => by subst z; injection j
 nodup := fun n m o₁ o₂ b e₁ e₂ j₁ j₂ h₁ h₂ => (hr n o₁ e₁).elim (fun e₁ => (hr m o₂ e₂).elim (fun e₂ => R.nodup n m o₁ o₂ b e₁ e₂ j₁ j₂ h₁ h₂) fun z => (j₂ z).elim) fun z => by subst z; injection j₁
 len := R.len.trans hs.symm
 room := hs ▸ R.room
 objs := fun n o e j => (hr n o e).elim (fun e => R.objs n o e j) fun z => (j z).elim
 all := fun n h => hall n (hs ▸ h)
 frs := fun k hk => by refine xvp (fun m e => ?_) (R.frs k hk); exact ⟨m, by rw [hf k hk]; exact e⟩
 gens := R.gens
 os := R.os
 sys := fun n o b e h => (hr n _ e).elim (fun e => R.sys n o b e h) (fun h => by injection h)
theorem fault_made (S : Sit P w g K T (n + 1) l A X σ s) (hqt : g.quiet = false) (hz : σ.size < 4000) {m : Str} {u : Value} (hu : VR X.ρ (.str m) u) {Q : Value → Shared → Prop}
  (q : ∀ Y x s', X.Le Y → Rel P w Y ((σ.push .junk).push .junk) s' → ExcR g l Y ((σ.push .junk).push .junk) s' x .fresh → Q (.ref x) s') :
  wpAny (model P w) A (PySem.call (.ref g.fault) [u]) Q E s := by
 obtain ⟨nm, qn, N, bs, Mk, sn, sub, ab, col, dd, k0, k1, k2, k3, k5, hC₀⟩ := S.cx.flt.obj
 refine xvvvvvpppp (fun i ps b sc qq hi hf hlk I => ?_) (S.cx.flt.ini)
 have hC := S.rel.keep _ _ hC₀
 have X₀ : K.In s.heap := fun a o e => S.rel.keep _ _ (S.cx.kin a o e)
 obtain ⟨h, gg, d, t, os⟩ := s
 refine flt_call X₀ hC hi hf ?_ (by rw [sizeLine_eq]; simp)
 have hxn : h.get? (h.objs.size + 1) = none := Heap.get?_none_of_le (Nat.le_succ _)
 have hxe : ((h.push { cls := .type "tuple", data := .seq [u].toArray }).push (excNew g.fault h.objs.size)).get? (h.objs.size + 1) = some (excNew g.fault h.objs.size) := by heap_get
 generalize hxx : h.objs.size + 1 = x at hxn hxe ⊢
 have R1 : Rel P w (X.add x) (σ.push (.exo g.fault false)) ⟨(h.push { cls := .type "tuple", data := .seq [u].toArray }).push (excNew g.fault h.objs.size), gg, d, t, os⟩ :=
  S.rel.alloc (by omega) hxn (fun b o eb => Heap.get?_push_of_some _ (Heap.get?_push_of_some _ eb)) hxe ⟨rfl, fun _ => rfl, _, .ref h.objs.size, rfl, rfl, rfl⟩
 have hle : X.Le (X.add x) := X.le_add _
 have hx : (X.add x).ρ[σ.size]? = some x := Wl.add_get S.rel.len
 have S2 : Sit P w g K T n l (A.under (.builtin "type.__call__" ⟨.ref g.fault :: [u], []⟩)) (X.add x) (σ.push (.exo g.fault false)) ⟨(h.push { cls := .type "tuple", data := .seq [u].toArray }).push (excNew g.fault h.objs.size), gg, d, t, os⟩ := by
  rw [tc_under]
  exact ⟨⟨S.a.hand, S.a.frames, by have := S.a.depth; show A.depth + 1 + 3 * n ≤ 999; omega, by have := S.a.units; show A.units + 1 + 10 * n ≤ 9000; omega⟩, fun q => (S.fr q).mono hle, S.cx.keeps hle.b, S.tabs.trans hle.r, R1⟩
 have hk : (σ.push (.exo g.fault false)).get σ.size = some (.exo g.fault false) := by rw [St.get_push (by omega), if_pos rfl]
 have hgs : (σ.push (.exo g.fault false)).size < 4096 := by rw [St.size_push]; omega
 refine codeAny_mono (enter_code (vs := [.new σ.size, .str m]) (us := [.ref x, u]) (Q := fun v s' => v = .none ∧ Q (.ref x) s') (snd_init P w g K T n) S2 (by rw [tc_under]; have := S.a.depth; show A.depth + 1 + 3 * n + 1 ≤ 999; omega) (by rw [tc_under]; have := S.a.units; show A.units + 1 + 10 * n + 3 ≤ 9000; omega) (fn_old S2 hlk) ⟨⟨x, hx, rfl⟩, hu.mono hle.r, trivial⟩
  (E := E) ?_) fun r s' z => ?_
 ·rw [init_enter I S.cx.flt.exn hgs hk]
  intro Y s' v hy hr hv
  cases hv
  refine ⟨rfl, ?_⟩
  have hxY := pG hy.r hx
  have hkk : ((σ.push (.exo g.fault false)).push (.ns [(sOf "message", .str m), (sOf "self", .new σ.size)])).get σ.size = some (.exo g.fault false) := by rw [St.get_push hgs, if_neg (by rw [St.size_push]; omega)]; exact hk
  have hroom : ((σ.push (.exo g.fault false)).push (.ns [(sOf "message", .str m), (sOf "self", .new σ.size)])).size ≤ 4096 := by rw [St.size_push, St.size_push]; omega
  have hge : (((σ.push (.exo g.fault false)).push (.ns [(sOf "message", .str m), (sOf "self", .new σ.size)])).set σ.size (.exo g.fault true)).get σ.size = some (.exo g.fault true) := by rw [St.get_set (St.get_lt hkk) hroom, if_pos rfl]
  refine xvppdvvppp (fun ob hob hcls vs a0 hd hv0 hv1 => ?_) (hr.at hge hxY)
  have hB := hr.fresh _ _ x hge rfl hxY
  have hz1 : σ.size < 4096 := by omega
  have gJ : ∀ p o, ((σ.push .junk).push .junk).get p = some o → (((σ.push (.exo g.fault false)).push (.ns [(sOf "message", .str m), (sOf "self", .new σ.size)])).set σ.size (.exo g.fault true)).get p = some o ∧ p ≠ σ.size ∨ o = .junk := fun p o e => by
   rw [St.get_push (by rw [St.size_push]; omega), St.size_push] at e
   by_cases q₁ : p = σ.size + 1
   ·rw [if_pos q₁] at e; injection e with q1; subst q1; exact .inr rfl
   ·rw [if_neg q₁, St.get_push hz1] at e
    by_cases q₂ : p = σ.size
    ·rw [if_pos q₂] at e; injection e with q1; subst q1; exact .inr rfl
    ·rw [if_neg q₂] at e
     refine .inl ⟨?_, q₂⟩
     rw [St.get_set (St.get_lt hkk) hroom, if_neg q₂, St.get_push hgs, St.size_push, if_neg q₁, St.get_push hz1, if_neg q₂]
     exact e
  have hfr : ∀ k ∈ Y.fr, k < σ.size := fun k hk => by
   rw [hy.f, hle.f] at hk
   refine xvp (fun _ e => ?_) (S.rel.frs k hk)
   exact St.get_lt e
  refine q Y x s' (hle.trans hy) (hr.junked ?_ (fun p o e => (gJ p o e).elim (fun z => .inl z.1) .inr) (fun p hp => ?_) fun k hk => ?_) ⟨hqt, ((S.fr hqt).mono (hle.trans hy)), ob, vs, a0, hob, hcls, hd, hv1, hv0, hB, fun p o e j h => ?_⟩
  ·show ((σ.push .junk).push .junk).size = ((σ.push (.exo g.fault false)).push (.ns [(sOf "message", .str m), (sOf "self", .new σ.size)])).size
   rw [St.size_push, St.size_push, St.size_push, St.size_push]
  ·have hp : p < ((σ.push (.exo g.fault false)).push (.ns [(sOf "message", .str m), (sOf "self", .new σ.size)])).size := hp
   rw [St.size_push, St.size_push] at hp
   rw [St.get_push (by rw [St.size_push]; omega), St.size_push]
   by_cases q₁ : p = σ.size + 1
   ·rw [if_pos q₁]; rfl
   ·rw [if_neg q₁, St.get_push hz1]
    by_cases q₂ : p = σ.size
    ·rw [if_pos q₂]; rfl
    ·rw [if_neg q₂]; exact S.rel.all p (by omega)
  ·have := hfr k hk
   rw [St.get_push (by rw [St.size_push]; omega), St.size_push, if_neg (by omega), St.get_push hz1, if_neg (by omega)]
   rw [St.get_set (St.get_lt hkk) hroom, if_neg (by omega), St.get_push hgs, St.size_push, if_neg (by omega), St.get_push hz1, if_neg (by omega)]
  ·refine orE (xpp fun e' hne => ?_) (fun z => ?_) (gJ p o e)
   ·exact hne (hr.nodup σ.size p _ _ x hge e' rfl j hxY h).symm
   ·exact j z
 ·unfold retR at z
  rcases r with e | (v | _ | _ | _) <;> first | exact z | exact z.elim
set_option tactic.hygienic true in
theorem st_raise (D : Snd P w g K T n r) (S : Sit P w g K T (n + 1) l A X σ s) (e : bQ l X f env) {x : Str} {np cpos pos : Pos} {ex : PySem.Expr} {Q : Flow → Shared → Prop} (H : OK P w g l X RFl Q E (ex1 g r f (.Raise (some (.Call (.Name x np) [ex] [] cpos)) none pos) σ)) :
  wpAny (model P w) A (exec (.Raise (some (.Call (.Name x np) [ex] [] cpos)) none pos) env) Q E s := by
 change OK P w g l X RFl Q E (exRaise g r f x ex σ) at H
 unfold exRaise at H
 cases hqt : g.quiet with
 | true => rw [hqt] at H; exact H.elim
 | false =>
 rw [hqt, cond_false] at H
 split at H
 ·rename_i a ha
  by_cases hq : (Nat.beq a g.fault && noStar ex) = true
  ·rw [if_pos hq] at H
   revert hq; refine aN fun hq hst => ?_
   have hq := nE hq
   subst hq
   obtain ⟨nm, qn, N, bs, Mk, sn, sub, ab, col, dd, k0, k1, k2, k3, k5, hC₀⟩ := S.cx.flt.obj
   have hn : pJ [ex] = true := by unfold pJ pJ; rw [hst]; rfl
   rw [arm_exec_Raise]
   refine wpAny_bind (wpAny_standAt ?_)
   show wpAny _ _ (raiseStmt env (some (eval (.Call (.Name x np) [ex] [] cpos) env >>= fun v => standAt pos >>= fun _ => pure v)) none) _ _ _
   refine raise_made (C := g.fault) (nm := nm) (q := qn) (N := N) (bs := bs) (Mk := Mk) (hdct := true) (sn := sn) (sub := sub) (ab := ab) (col := col) (dd := dd) (k0 := k0) (k1 := k1) (k2 := k2) (k3 := k3) (k5 := k5) S.a.hand ?_
   refine wpAny_bind (wpAny_Call_ofName (name_ok S e ha fun u hu => ?_))
   cases hu
   refine callw_ok D S.less e hn (Q₁ := fun us s' => ∃ Y σ' m u, X.Le Y ∧ Rel P w Y σ' s' ∧ us = [u] ∧ VR Y.ρ (.str m) u ∧ σ'.size < 4000 ∧ OK P w g l Y RFl Q E (.exc .fresh ((σ'.push .junk).push .junk))) ?_ ?_
   ·have H : OK P w g l X RFl Q E ((evs r f [ex] σ).bind fun vs σ => match vs with
      | [.str _] => bif Nat.blt σ.size 4000 then .exc .fresh ((σ.pushF .junk).pushF .junk) else .stop "room"
      | _ => .stop "raise") := by
     unfold evs
     rw [hst, cond_true]
     cases hev : r.ev f ex σ with
     | ok v σ₁ =>
      rw [hev] at H
      cases v <;> first | exact H | exact H.elim
     | exc m σ₁ => rw [hev] at H; exact H
     | stop w => rw [hev] at H; exact H.elim
    refine OK.bind H fun vs σ₁ _ Y s₁ us hy hr hus H => ?_
    split at H
    ·rename_i m _
     refine xpp (fun hz H => ?_) (OK.bif H)
     rw [St.pushF_eq, St.pushF_eq] at H
     cases us with
     | nil => exact hus.elim
     | cons u us =>
     cases us with
     | cons _ _ => exact hus.2.elim
     | nil => exact ⟨Y, σ₁, m, u, hy, hr, rfl, hus.1, bI.mp hz, H⟩
    ·exact H.elim
   ·rintro us s' ⟨Y, σ', m, u, hy, hr, rfl, hu, hz, H⟩
    have hC : s'.heap.get? g.fault = _ := hr.keep _ _ (hy.b _ _ hC₀)
    refine ⟨⟨.machine, .inr (.inl rfl), fun A Q E s k q => ?_⟩, ?_⟩
    ·obtain ⟨h', g', d', t', os'⟩ := s
     exact wpAny_keeperOf_exc (k _ _ hC) q
    ·refine fault_made (S.next hy hr) hqt hz hu fun Z x s₂ hz' hr₂ hx => ?_
     refine wpAny_bind (wpAny_standAt (wpAny_pure ?_))
     have hx₀ := hx
     revert hx₀; refine xddvvvppppd fun oe vs a0 h1 h2 h3 h4 => ?_
     exact ⟨x, oe, vs, rfl, hr₂.keep _ _ (hz'.b _ _ (hy.b _ _ hC₀)), h1, h2, h3, h4, H Z s₂ x hz' hr₂ hx⟩
  ·rw [if_neg hq] at H; exact H.elim
 ·exact H.elim
end
end
end Mine
end
section
open PySem PySem.W PySem.Calls PyProof.Rows PySem.SeqAt
namespace Mine
section
variable [Tau]
section
variable {P : Program} {w : World} {g : Cx} {K : Frag} {T : List Addr} {n : Nat} {r : Rc} {l : List Env} {A : Around} {X Y : Wl} {σ σ' : St} {s s' : Shared} {f : Fr} {env : Env} {E : Value → Shared → Prop} {F : Cx}
theorem land_ok {A' : Around} (R : Rel P w X σ s) {x : Addr} (hx : ExcR F l X σ s x .held) {Q : Unit → Shared → Prop} (q : ∀ s', Rel P w X σ s' → ExcR F l X σ s' x .held → Q () s') : wpAny (model P w) A' (setFlight (.ref x) none) Q E s := by
 revert hx; refine xppvvvppp fun hqt hF B a0 fl h1 h2 h3 => ?_
 refine setFlight_any (fr := none) h3 fun h' hh hs => q _ (R.slots h2 h1 hh.1 hs) ?_
 exact ⟨hqt, hF, B, a0, _, h1, h2.slots R hh.1, hh⟩
theorem st_try (D : Snd P w g K T n r) (S : Sit P w g K T n l A X σ s) (e : bQ l X f env) {x z : Str} {b : List Stmt} {p p1 p2 p3 : Pos} {k : Nat} {pos : Pos} {Q : Flow → Shared → Prop}
  (H : OK P w g l X RFl Q E (ex1 g r f (.Try b [.ExceptHandler (some (.Name x p)) none [.Return (some (.Constant (.str z) k p1)) p2] p3] [] [] pos) σ)) :
  wpAny (model P w) A (exec (.Try b [.ExceptHandler (some (.Name x p)) none [.Return (some (.Constant (.str z) k p1)) p2] p3] [] [] pos) env) Q E s := by
 change OK P w g l X RFl Q E (exTry g r f b x z σ) at H
 unfold exTry at H
 refine wpAny_Try_except (D.exs S e ?_)
 cases hb : r.exs f b σ with
 | stop w' => rw [hb] at H; exact H.elim
 | ok q σ₁ =>
  rw [hb] at H
  intro Y s₁ u hy hr hu
  have h1 := H Y s₁ u hy hr hu
  cases u with
  | next => exact wpAny_execs_nil h1
  | _ => exact h1
 | exc m σ₁ =>
  rw [hb] at H
  cases m with
  | fresh => exact H.elim
  | held => exact H.elim
  | fly =>
   dsimp only at H
   split at H
   ·rename_i a ha
    by_cases hq : Nat.beq a g.fault = true
    ·rw [if_pos hq] at H
     have hq := nE hq
     subst hq
     obtain ⟨nm, qn, N, bs, Mk, sn, sub, ab, col, dd, k0, k1, k2, k3, k5, hC₀⟩ := S.cx.flt.obj
     intro Y s₁ x' hy hr hx
     have S₁ := S.next hy hr
     refine note_ok S₁ (e.mono hy) hx fun s₂ hr₂ hx₂ => land_ok hr₂ hx₂ fun s₃ hr₃ hx₃ => ?_
     have S₃ : Sit P w g K T n l A Y σ₁ s₃ := ⟨S₁.a, S₁.fr, S₁.cx, S₁.tabs, hr₃⟩
     refine wpAny_handleBy_cons (codeAny_handlers_test (name_ok S₃ (e.mono hy) ha fun u hu => ?_)) (by intro q; injection q)
     cases hu
     have hC := hr₃.keep _ _ (hy.b _ _ hC₀)
     have hx₄ := hx₃
     revert hx₃; refine xddvvvdddddvvvvvppd fun B a0 fl oe vs T' oT ts he q1 => ?_; revert q1; refine xpd fun hcls => ?_
     obtain ⟨hh, gg, dd', tt, oo⟩ := s₃
     refine wpAny_excMatches_sub_self (h := hh) (g := gg) (d := dd') (t := tt) (os := oo) hC he hcls (by simp [dZ]) ?_
     refine codeAny_handlers_suite (land_ok hr₃ hx₄ fun s₅ hr₅ hx₅ => ?_)
     refine wpAny_execs_cons (wpAny_Return_some (wpAny_Constant_str ?_))
     exact H Y _ _ hy hr₅.same ⟨_, rfl, ⟨_, rfl⟩⟩
    ·rw [if_neg hq] at H; exact H.elim
   ·exact H.elim
end
end
section
variable [Tau]
section
variable {P : Program} {w : World} {g : Cx} {K : Frag} {T : List Addr} {n : Nat} {r : Rc} {l : List Env} {A : Around} {X Y : Wl} {σ σ' : St} {s s' : Shared} {f : Fr} {env : Env} {E : Value → Shared → Prop} {F : Cx}
noncomputable def evNd (g : Cx) (r : Rc) (f : Fr) (σ : St) (d : Nd) : Res V := Nd.casesOn (motive := fun _ => Res V) d (fun c => evConst c σ) (fun x => evName g f x σ) (fun o x => evAttr g r f o x σ) (fun o x p as pos => methE g r f o x p as pos σ) (fun fe as => callE g r f fe as σ)
 (fun l op x => evCmp g r f l op x σ) (fun op es => bools g r f op es σ) (fun x => evNot g r f x σ) (fun x => evSub r f x σ) (fun l op x => evBin g r f l op x σ) (fun t a b => evIf r f t a b σ) (fun es => evTup r f es σ) (fun es => evList r f es σ)
 (fun ks vs => evDict r f ks vs σ) (fun ps b sc pos => evLam f ps b sc pos σ) (fun elt tg it ifs sc => compE g r f elt tg it ifs sc σ) (fun o => evRev r f o σ) (fun o s => evIdx g r f o s σ) (fun _ _ _ _ _ => .stop "expr") (.stop "expr")
noncomputable def exNd (g : Cx) (r : Rc) (f : Fr) (σ : St) (d : Ns) : Res Fl := Ns.casesOn (motive := fun _ => Res Fl) d (fun e => exRet r f e σ) (.ok (.ret .none) σ) (.ok .next σ) (fun e => exExpr r f e σ) (fun t b o => exIf r f t b o σ) (fun o x e => exAttr g r f o x e σ) (fun o i e => exItem r f o i e σ)
 (fun ts es => exTup r f ts es σ) (fun x p elt tg it ifs sc pos => exComp g r f x p elt tg it ifs sc pos σ) (fun t e => exStore g r f t e σ) (fun t it b => exFor g r f t it b σ) (fun t b => whlN r f t b 64 σ) (fun x e => exRaise g r f x e σ) (fun b x z => exTry g r f b x z σ)
 (fun nm ps b sc bnd pos => exDef f nm ps b sc bnd pos σ) (.stop "stmt")
theorem ev_eq {e : PySem.Expr} : ev1 g r f e σ = evNd g r f σ (nd e) := rfl
theorem ex_eq {b : Stmt} : ex1 g r f b σ = exNd g r f σ (nst b) := rfl
theorem is0_ok {a : Int} (h : is0 a = true) : a = 0 := by
 cases a with
 | ofNat n => exact congrArg Int.ofNat (nE h)
 | negSucc n => exact Bool.noConfusion h
theorem isOne_ok {x : PySem.Expr} (h : isOne x = true) : ∃ k p, x = .Constant (.int 1) k p := by
 cases x with
 | Constant c k p => cases c with
  | int i => cases i with
   | ofNat n => rw [nE h]; exact ⟨k, p, rfl⟩
   | negSucc n => exact Bool.noConfusion h
  | _ => exact Bool.noConfusion h
 | _ => exact Bool.noConfusion h
theorem isNeg1_ok {x : PySem.Expr} (h : isNeg1 x = true) : ∃ k p q, x = .UnaryOp .USub (.Constant (.int 1) k p) q := by
 cases x with
 | UnaryOp op y q => cases op with
  | USub =>
   refine xvvp (fun k p q1 => ?_) (isOne_ok h); subst q1
   exact ⟨k, p, q, rfl⟩
  | _ => exact Bool.noConfusion h
 | _ => exact Bool.noConfusion h
theorem isRev_ok {s : PySem.Expr} (h : isRev s = true) : ∃ k p q t, s = .Slice none none (some (.UnaryOp .USub (.Constant (.int 1) k p) q)) t := by
 cases s with
 | Slice a b c t => cases a with
  | some => exact Bool.noConfusion h
  | none => cases b with
   | some => exact Bool.noConfusion h
   | none => cases c with
    | none => exact Bool.noConfusion h
    | some x =>
     refine xvvvp (fun k p q q1 => ?_) (isNeg1_ok h); subst q1
     exact ⟨k, p, q, t, rfl⟩
 | _ => exact Bool.noConfusion h
theorem ev_callN (D : Snd P w g K T n r) (S : Sit P w g K T n l A X σ s) (e : bQ l X f env) {fe : PySem.Expr} {as : List PySem.Expr} {kws : List Keyword} {pos : Pos} {Q : Value → Shared → Prop} (H : OK P w g l X RV Q E (evNd g r f σ (ndCall fe as kws pos))) :
  wpAny (model P w) A (eval (.Call fe as kws pos) env) Q E s := by
 cases kws with
 | cons => exact False.elim H
 | nil => cases fe with
  | Attribute o x p => exact ev_meth D S e H
  | _ => exact ev_call D S e rfl H
theorem ev_compN (D : Snd P w g K T n r) (S : Sit P w g K T n l A X σ s) (e : bQ l X f env) {elt : PySem.Expr} {gens : List Comprehension} {sc : Scope} {pos : Pos} {Q : Value → Shared → Prop} (H : OK P w g l X RV Q E (evNd g r f σ (ndComp elt gens sc))) :
  wpAny (model P w) A (eval (.ListComp elt gens sc pos) env) Q E s := by
 cases gens with
 | nil => exact False.elim H
 | cons c cs => cases cs with
  | cons => exact False.elim H
  | nil =>
   obtain ⟨tg, it, ifs, a⟩ := c
   change OK P w g l X RV Q E (evNd g r f σ (bif is0 a then .comp elt tg it ifs sc else .bad)) at H
   refine bE (is0 a) (fun h0 => ?_) (fun h0 => ?_)
   ·rw [h0] at H; exact False.elim H
   ·rw [h0] at H; rw [is0_ok h0]; exact ev_comp D S e H
theorem ev_subN (D : Snd P w g K T n r) (S : Sit P w g K T n l A X σ s) (e : bQ l X f env) {o i : PySem.Expr} {pos : Pos} {Q : Value → Shared → Prop} (H : OK P w g l X RV Q E (evNd g r f σ (bif isRev i then .rev o else .idx o i))) :
  wpAny (model P w) A (eval (.Subscript o i pos) env) Q E s := by
 refine nJ (isRev i) (fun hr => ?_) (fun hr => ?_)
 ·
  rw [hr] at H
  refine xvvvvp (fun k p q t q1 => ?_) (isRev_ok hr); subst q1
  exact ev_rev D S e H
 ·
  rw [hr] at H
  refine xpp (fun hc H => ?_) (OK.bif' (show OK P w g l X RV Q E (evIdx g r f o i σ) from H))
  exact ev_sub D S e hc H
theorem ev_cmpN (D : Snd P w g K T n r) (S : Sit P w g K T n l A X σ s) (e : bQ l X f env) {a : PySem.Expr} {ops : List CmpOp} {xs : List PySem.Expr} {pos : Pos} {Q : Value → Shared → Prop} (H : OK P w g l X RV Q E (evNd g r f σ (ndCmp a ops xs))) :
  wpAny (model P w) A (eval (.Compare a ops xs pos) env) Q E s := by
 cases ops with
 | nil => exact False.elim H
 | cons op ops => cases xs with
  | nil => exact False.elim H
  | cons b xs => cases ops with
   | nil => cases xs with
    | nil => exact ev_cmp D S e H
    | cons => exact False.elim H
   | cons op' ops => cases ops with
    | cons => exact False.elim H
    | nil => cases xs with
     | nil => exact False.elim H
     | cons c xs => cases xs <;> exact False.elim H
theorem ev_ok (D : Snd P w g K T n r) (S : Sit P w g K T n l A X σ s) (e : bQ l X f env) {x : PySem.Expr} {Q : Value → Shared → Prop} (H : OK P w g l X RV Q E (ev1 g r f x σ)) :
  wpAny (model P w) A (eval x env) Q E s := by
 rw [ev_eq] at H
 cases x with
 | Constant c k pos => exact ev_const (r := r) (f := f) S H
 | Name x pos => exact ev_name (r := r) S e H
 | Attribute o x pos => exact ev_attr D S e H
 | Call fe as kws pos => exact ev_callN D S e H
 | Compare a ops xs pos => exact ev_cmpN D S e H
 | BoolOp op es pos => exact ev_bool D S e H
 | UnaryOp op a pos => cases op with
  | Not => exact ev_not D S e H
  | USub => exact ev_usub D S e H
  | _ => exact False.elim H
 | BinOp a op b pos => exact ev_bin D S e H
 | IfExp t a b pos => exact ev_ifexp D S e H
 | Tuple es k pos => exact ev_tuple D S e H
 | List es pos => exact ev_list D S e H
 | Dict ks vs pos =>
  refine xpp (fun hc H => ?_) (OK.bif (show OK P w g l X RV Q E (evDict r f ks vs σ) from H))
  exact ev_dict D S e hc H
 | Lambda ps b sc pos =>
  refine xpp (fun hc H => ?_) (OK.bif (show OK P w g l X RV Q E (evLam f ps b sc pos σ) from H))
  exact ev_lambda S e hc H
 | ListComp elt gens sc pos => exact ev_compN D S e H
 | Subscript o i pos => exact ev_subN D S e H
 | _ => exact False.elim H
theorem ex_storeN (D : Snd P w g K T n r) (S : Sit P w g K T n l A X σ s) (e : bQ l X f env) {t v : PySem.Expr} {pos : Pos} {Q : Flow → Shared → Prop} (H : OK P w g l X RFl Q E (exStore g r f t v σ)) :
  wpAny (model P w) A (exec (.Assign [t] v pos) env) Q E s := by
 refine xpp (fun hc H => ?_) (OK.bif' H)
 rw [Bool.or_eq_false_iff] at hc
 exact st_name D S e hc.1 (by have := hc.2; revert this; cases tgtOk _ _ <;> simp) H
theorem ex_tupN (D : Snd P w g K T n r) (S : Sit P w g K T n l A X σ s) (e : bQ l X f env) {ts es : List PySem.Expr} {k k' : Nat} {p p' pos : Pos} {Q : Flow → Shared → Prop} (H : OK P w g l X RFl Q E (exTup r f ts es σ)) :
  wpAny (model P w) A (exec (.Assign [.Tuple ts k p] (.Tuple es k' p') pos) env) Q E s := by
 unfold exTup at H
 split at H
 ·rename_i hs
  refine xpp (fun hc H => ?_) (OK.bif H)
  exact st_swap D S e hs hc H
 ·refine xpp (fun hc H => ?_) (OK.bif H)
  refine aN (fun h1 h2 => ?_) hc
  refine aN (fun _ h3 => ?_) h2
  exact st_fwd D S e h1 h3 H
theorem ex_compN (D : Snd P w g K T n r) (S : Sit P w g K T n l A X σ s) (e : bQ l X f env) {x : Str} {p pos pos' : Pos} {elt : PySem.Expr} {gens : List Comprehension} {sc : Scope} {Q : Flow → Shared → Prop} (H : OK P w g l X RFl Q E (exNd g r f σ (nstComp x p elt gens sc pos (.Name x p) (.ListComp elt gens sc pos)))) :
  wpAny (model P w) A (exec (.Assign [.Name x p] (.ListComp elt gens sc pos) pos') env) Q E s := by
 cases gens with
 | nil => exact ex_storeN D S e H
 | cons c cs => cases cs with
  | cons => exact ex_storeN D S e H
  | nil =>
   obtain ⟨tg, it, ifs, a⟩ := c
   change OK P w g l X RFl Q E (exNd g r f σ (bif is0 a then .comp x p elt tg it ifs sc pos else .store _ _)) at H
   refine bE (is0 a) (fun h0 => ?_) (fun h0 => ?_)
   ·rw [h0] at H; exact ex_storeN D S e H
   ·rw [h0] at H; rw [is0_ok h0]; exact st_comp D S e H
theorem ex_asgN (D : Snd P w g K T n r) (S : Sit P w g K T n l A X σ s) (e : bQ l X f env) {t v : PySem.Expr} {pos : Pos} {Q : Flow → Shared → Prop} (H : OK P w g l X RFl Q E (exNd g r f σ (nstAsg t v))) :
  wpAny (model P w) A (exec (.Assign [t] v pos) env) Q E s := by
 cases t with
 | Attribute o x p => exact st_attr D S e H
 | Subscript o i p => exact st_item D S e H
 | Tuple ts k p => cases v with
  | Tuple es k' p' => exact ex_tupN D S e H
  | _ => exact ex_storeN D S e H
 | Name x p => cases v with
  | ListComp elt gens sc q => exact ex_compN D S e H
  | _ => exact ex_storeN D S e H
 | _ => exact ex_storeN D S e H
theorem ex_raiseN (D : Snd P w g K T n r) (S : Sit P w g K T (n + 1) l A X σ s) (e : bQ l X f env) {x c : Option PySem.Expr} {pos : Pos} {Q : Flow → Shared → Prop} (H : OK P w g l X RFl Q E (exNd g r f σ (nstRaise x c))) :
  wpAny (model P w) A (exec (.Raise x c pos) env) Q E s := by
 cases c with
 | some => exact False.elim H
 | none => cases x with
  | none => exact False.elim H
  | some x => cases x with
   | Call fe as kws p => cases fe with
    | Name y q => cases as with
     | nil => exact False.elim H
     | cons a as => cases as with
      | cons => exact False.elim H
      | nil => cases kws with
       | cons => exact False.elim H
       | nil => exact st_raise D S e H
    | _ => exact False.elim H
   | _ => exact False.elim H
theorem ret0_ok {x : PySem.Expr} {z : Str} (h : nstRet0 x = some z) : ∃ k p, x = .Constant (.str z) k p := by
 cases x with
 | Constant c k p => cases c with
  | str y => injection h with q1; subst q1; exact ⟨k, p, rfl⟩
  | _ => exact nos h
 | _ => exact nos h
theorem ret1_ok {b : Stmt} {z : Str} (h : nstRet1 b = some z) : ∃ k p q, b = .Return (some (.Constant (.str z) k p)) q := by
 cases b with
 | Return x q => cases x with
  | none => injection h
  | some x =>
   refine xvvp (fun k p q1 => ?_) (ret0_ok h); subst q1
   exact ⟨k, p, q, rfl⟩
 | _ => exact nos h
theorem ex_handN (D : Snd P w g K T n r) (S : Sit P w g K T n l A X σ s) (e : bQ l X f env) {b : List Stmt} {h : ExceptHandler} {pos : Pos} {Q : Flow → Shared → Prop} (H : OK P w g l X RFl Q E (exNd g r f σ (nstHand b h))) :
  wpAny (model P w) A (exec (.Try b [h] [] [] pos) env) Q E s := by
 obtain ⟨ty, nm, hb, p⟩ := h
 cases nm with
 | some => exact False.elim H
 | none => cases ty with
  | none => exact False.elim H
  | some ty => cases ty with
   | Name x q => cases hb with
    | nil => exact False.elim H
    | cons c cs => cases cs with
     | cons => exact False.elim H
     | nil =>
      change OK P w g l X RFl Q E (exNd g r f σ (match nstRet1 c with | some z => .trye b x z | none => .bad)) at H
      refine oE (nstRet1 c) (fun hz => ?_) (fun z hz => ?_)
      ·rw [hz] at H; exact False.elim H
      ·
       rw [hz] at H
       refine xvvvp (fun k p1 p2 q1 => ?_) (ret1_ok hz); subst q1
       exact st_try D S e H
   | _ => exact False.elim H
theorem ex_tryN (D : Snd P w g K T n r) (S : Sit P w g K T n l A X σ s) (e : bQ l X f env) {b o fb : List Stmt} {hs : List ExceptHandler} {pos : Pos} {Q : Flow → Shared → Prop} (H : OK P w g l X RFl Q E (exNd g r f σ (nstTry b hs o fb))) :
  wpAny (model P w) A (exec (.Try b hs o fb pos) env) Q E s := by
 cases o with
 | cons => exact False.elim H
 | nil => cases fb with
  | cons => exact False.elim H
  | nil => cases hs with
   | nil => exact False.elim H
   | cons h hs => cases hs with
    | cons => exact False.elim H
    | nil => exact ex_handN D S e H
theorem ex_defN (S : Sit P w g K T n l A X σ s) (e : bQ l X f env) {nm bnd : Str} {ps : Arguments} {b : List Stmt} {ds : List PySem.Expr} {rt : Option PySem.Expr} {tp : List TypeParam} {sc : Scope} {ts : Option Scope} {pos : Pos} {Q : Flow → Shared → Prop} (H : OK P w g l X RFl Q E (exNd g r f σ (nstDef nm ps b ds rt tp sc ts bnd pos))) :
  wpAny (model P w) A (exec (.FunctionDef nm ps b ds rt tp sc ts bnd pos) env) Q E s := by
 cases ds with
 | cons => exact False.elim H
 | nil => cases rt with
  | some => exact False.elim H
  | none => cases tp with
   | cons => exact False.elim H
   | nil => cases ts with
    | some => exact False.elim H
    | none =>
     refine xpp (fun hc H => ?_) (OK.bif (show OK P w g l X RFl Q E (exDef f nm ps b sc bnd pos σ) from H))
     exact st_def S e hc H
theorem ex_ok (D : Snd P w g K T n r) (S' : Sit P w g K T (n + 1) l A X σ s) (e : bQ l X f env) {x : Stmt} {Q : Flow → Shared → Prop} (H : OK P w g l X RFl Q E (ex1 g r f x σ)) :
  wpAny (model P w) A (exec x env) Q E s := by
 have S := S'.less
 rw [ex_eq] at H
 cases x with
 | Return x pos => cases x with
  | some x => exact st_return D S e H
  | none => exact wpAny_Return_none (OK.here H S.rel ⟨_, rfl, rfl⟩)
 | Pass pos => exact wpAny_Pass (OK.here H S.rel rfl)
 | Expr x pos =>
  refine xpp (fun hc H => ?_) (OK.bif' (show OK P w g l X RFl Q E (exExpr r f x σ) from H))
  exact st_expr D S e hc H
 | If t b o pos => exact st_if D S e H
 | Assign ts v pos => cases ts with
  | nil => exact False.elim H
  | cons t ts => cases ts with
   | nil => exact ex_asgN D S e H
   | cons => exact False.elim H
 | For t it b o pos => cases o with
  | cons => exact False.elim H
  | nil =>
   refine xpp (fun hc H => ?_) (OK.bif' (show OK P w g l X RFl Q E (exFor g r f t it b σ) from H))
   exact st_for D S e hc H
 | While t b o pos => cases o with
  | cons => exact False.elim H
  | nil => exact st_while D S e H
 | Raise x c pos => exact ex_raiseN D S' e H
 | Try b hs o fb pos => exact ex_tryN D S e H
 | FunctionDef nm ps b ds rt tp sc ts bnd pos => exact ex_defN S e H
 | _ => exact False.elim H
end
noncomputable def wJ (P : Program) (w : World) (g : Cx) (K : Frag) (T : List Addr) (H : Hook) : Prop :=
 ∀ (n : Nat) {fv : V} {vs : List V} {u : Value} {us : List Value} {σ : St} {X : Wl} {s : Shared} {A : Around} {l : List Env} {Q : Value → Shared → Prop} {E : Value → Shared → Prop} {q : Res V}, H n fv vs σ = some q → Sit P w g K T (n + 1) l A X σ s → VR X.ρ fv u → cQ X.ρ vs us →
  OK P w g l X RV Q E q → wpAny (model P w) A (PySem.call u us) Q E s
theorem sndH (P : Program) (w : World) (g : Cx) (K : Frag) (T : List Addr) {H : Hook} (hH : wJ P w g K T H) : ∀ n, Snd P w g K T n (rcsH g H n)
 | 0 => ⟨fun _ _ H => H.elim, fun _ _ H => H.elim, fun _ _ H => H.elim, fun _ _ _ H => H.elim⟩
 | n + 1 => ⟨fun S e q => by
    change OK P w g _ _ RV _ _ (resK (evN g (rcsH g H n) _ _ _)) at q
    rw [resK_eq, evN_eq] at q
    exact ev_ok (sndH P w g K T hH n) S.less e q, fun S e q => by
    change OK P w g _ _ REq _ _ (tstN g (rcsH g H n) _ _ _) at q
    rw [tstN_eq] at q
    exact tst_ok (sndH P w g K T hH n) S.less e q,
   fun S e q => by
    change OK P w g _ _ RFl _ _ (exsN g (rcsH g H n) _ _ _) at q
    rw [exsN_eq] at q
    exact exs_of (fun S e H => ex_ok (sndH P w g K T hH n) S e H) _ S e q, fun S hf hv q => by
    change OK P w g _ _ RV _ _ (resK (callH g H n (rcsH g H n) _ _ _)) at q
    rw [resK_eq] at q
    unfold callH at q
    split at q
    ·rename_i hq
     exact hH n hq S hf hv q
    ·exact call_ok (sndH P w g K T hH n) S hf hv q⟩
theorem snd (P : Program) (w : World) (g : Cx) (K : Frag) (T : List Addr) (n : Nat) : Snd P w g K T n (rcs g n) := sndH P w g K T (H := noHook) (by intro n fv vs u us σ X s A l Q E q h; injection h) n
end
section
variable [Tau]
theorem lk_app {α : Type} {l m : List (Nat × α)} {a : Nat} {o : α} : lk (l ++ m) a = some o → lk l a = some o ∨ lk m a = some o := by
 induction l with
 | nil => exact .inr
 | cons p l ih =>
  show (if Nat.beq p.1 a then some p.2 else lk (l ++ m) a) = some o → (if Nat.beq p.1 a then some p.2 else lk l a) = some o ∨ _
  by_cases q : Nat.beq p.1 a = true
  ·rw [if_pos q, if_pos q]; exact .inl
  ·rw [if_neg q, if_neg q]; exact ih
theorem lk_map {α β : Type} (f : α → β) {l : List (Nat × α)} {a : Nat} {o : β} : lk (l.map fun p => (p.1, f p.2)) a = some o → ∃ x, (a, x) ∈ l ∧ o = f x := by
 induction l with
 | nil => intro h; injection h
 | cons p l ih =>
  intro h
  have h : (if Nat.beq p.1 a then some (f p.2) else lk (l.map fun p => (p.1, f p.2)) a) = some o := h
  by_cases q : Nat.beq p.1 a = true
  ·rw [if_pos q] at h
   injection h with q1; subst q1
   exact ⟨p.2, by rw [← nE q]; exact .head _, rfl⟩
  ·rw [if_neg q] at h
   exact (ih h).imp fun x h => ⟨.tail _ h.1, h.2⟩
theorem look_mem {α : Type} {m : List (Str × α)} {x : Str} {v : α} : look m x = some v → (x, v) ∈ m := by
 induction m with
 | nil => intro h; injection h
 | cons p m ih =>
  rw [look_cons]
  refine cZ (eqS p.1 x) (fun q => ?_) (fun q => ?_)
  ·intro h; injection h with q1; subst q1; rw [← eI.mp q]; exact .head _
  ·exact fun h => .tail _ (ih h)
theorem hasS_mem : ∀ {l : List Str} {x : Str}, hasS l x = true → x ∈ l
 | [], _, h => by injection h
 | a :: l, x, h => by
  unfold hasS at h
  refine nJ (eqS a x) (fun q => ?_) (fun q => ?_)
  ·rw [eI.mp q]; exact .head _
  ·rw [q, cond_false] at h; exact .tail _ (hasS_mem h)
theorem refs_has : ∀ (l : List Value) (D : Nat), l.contains (.ref D) = hasN (refsOf l) D
 | [], _ => rfl
 | v :: l, D => by
  rw [List.contains_cons]
  cases v with
  | ref a =>
   unfold refsOf hasN
   rw [refs_has l D]
   by_cases q : a = D
   ·subst q
    simp
   ·have h1 : Nat.beq a D = false := by
     refine qJ (Nat.beq a D) (fun z => ?_) (fun z => ?_)
     ·rfl
     ·exact absurd (nE z) q
    have h2 : (Value.ref D == Value.ref a) = false := by simpa using fun z => q z.symm
    rw [h1, h2]; rfl
  | _ => exact refs_has l D
section
variable {s₀ : Shared} {h : Heap}
structure gZ (s₀ : Shared) (h : Heap) : Prop where
 keep : ∀ b o, s₀.heap.get? b = some o → h.get? b = some o
 glob : ∀ p ∈ gGl, globB s₀.heap p.1 p.2 = true
 old : ∀ p ∈ gOk, oldB s₀.heap (iJ s₀.heap gAs) gAs p.1 p.2 = true
 isi : isiB (iJ s₀.heap gAs) = true
 flt : fltB s₀.heap (iJ s₀.heap gAs) = true
 sysm : (s₀.heap.get? sysModules).isSome = true
 main : (s₀.heap.get? mainGlobals).isSome = true
 blt : (s₀.heap.get? builtinsNs).isSome = true
 tabs : ∀ P ∈ gT, s₀.heap.get? P = some ⟨.none, none, .fields #[], #[]⟩
 apart : ∀ P ∈ gT, ∀ a ∈ gAs, a ≠ P
 fns : ∀ p ∈ gOk, (s₀.heap.get? p.1).bind fnO = fnDef p.2
theorem toL {α : Type} {a : Array α} (h : nilB a.toList = true) : a = #[] := Array.toList_inj.mp (yQ h)
theorem ob4 {o : Obj} {c : Value} {d : Option Addr} {a : Data} {l : Array (Option Value)} (h1 : o.cls = c) (h2 : o.dict = d) (h3 : o.data = a) (h4 : o.slots = l) : o = ⟨c, d, a, l⟩ := by subst h1 h2 h3 h4; rfl
theorem tabOk_ok {h : Heap} {P : Addr} (c : tabOk h P = true) : h.get? P = some ⟨.none, none, .fields #[], #[]⟩ ∧ (gAs.any fun a => Nat.beq a P) = false := by
 revert c; refine iI fun o e c => ?_
 refine iI (fun vs e4 c4 => ?_) (aL (aR (aR (aR c))))
 have c5 := aR (aR (aR (aR c)))
 refine ⟨?_, (Bool.not_eq_true' _).mp c5⟩
 rw [e, ob4 (eq_of_beq (aL c)) (noB_ok (aL (aR c))) ((dataF_ok e4).trans (congrArg _ (toL c4))) (toL (aL (aR (aR c))))]
theorem gZ.of (hk : ∀ b o, s₀.heap.get? b = some o → h.get? b = some o) (c : ctxB s₀ = true) (f : fnObs s₀ = fnVal) : gZ s₀ h := by
 have c1 := aR c
 have c2 := aR c1
 have c3 := aR c2
 have c4 := aR c3
 have c5 := aR c4
 have c6 := aR c5
 have tb := fun P hP => tabOk_ok (List.all_eq_true.mp (aR c6) P hP)
 exact ⟨hk, List.all_eq_true.mp (aL c), List.all_eq_true.mp (aL c1), aL c2, aL c3, aL c4, aL c5, aL c6, fun P hP => (tb P hP).1, fun P hP a ha q => List.any_eq_false.mp (tb P hP).2 a ha (q ▸ Nat.beq_refl _), List.map_inj_left.mp f⟩
theorem gZ.nt (F : gZ s₀ h) {a : Addr} {o : Obj} (e : h.get? a = some o) (hd : o.data ≠ .fields #[]) : (hideAll h gT).get? a = some o := by
 refine hideAll_get _ e fun hm => ?_
 have := F.keep _ _ (F.tabs a hm)
 rw [e] at this
 injection this with q1; clear e; subst q1
 exact hd rfl
theorem gZ.kin (F : gZ s₀ h) : (iJ s₀.heap gAs).In (hideAll h gT) := fun a o e => by
 have h1 := fragOf_in _ _ _ e
 refine hideAll_get _ (F.keep _ _ h1) fun hm => ?_
 have : ∀ (as : List Addr), (iJ s₀.heap as).lookup a = some o → a ∈ as := by
  intro as
  induction as with
  | nil => intro e; injection e
  | cons b as ih =>
   intro e
   rw [fragOf_cons] at e
   split at e
   ·rw [List.lookup_cons] at e
    split at e
    ·rename_i q; rw [eq_of_beq q]; exact .head _
    ·exact .tail _ (ih e)
   ·exact .tail _ (ih e)
 exact F.apart a hm a (this _ e) rfl
theorem gZ.seq (F : gZ s₀ h) {a : Addr} {l : Bool} {xs : List V} (c : seqB s₀.heap a l xs = true) : ∃ us n, (hideAll h gT).get? a = some { cls := .type (if l then "list" else "tuple"), dict := none, data := .seq us n, slots := #[] } ∧ cQ [] xs us.toList := by
 revert c; refine iI fun o e c => ?_
 refine iI (fun p e4 c4 => ?_) (aR (aR (aR c)))
 refine ⟨p.1, p.2, ?_, vrsB_ok c4⟩
 rw [ob4 (clsT_ok (aL c)) (noB_ok (aL (aR c))) (dataS_ok e4) (toL (aL (aR (aR c))))] at e
 exact F.nt (F.keep _ _ e) (fun h => by injection h)
theorem gZ.codeHd (F : gZ s₀ h) {c P : Addr} (x : codeHdB s₀.heap c P = true) : CodeHd (hideAll h gT) c P := by
 revert x; refine iI fun o e x => ?_
 refine iI (fun vs e4 x2 => ?_) (aR x)
 have x3 := aR x2
 have x4 := aR x3
 have x5 := aR x4
 have x6 := aR x5
 refine xvvp (fun _ _ e1 => ?_) (isStrU_ok (aL x3))
 refine xvvp (fun _ _ e2 => ?_) (isIntU_ok (aL x4))
 refine xvp (fun _ e3 => ?_) (isBoolU_ok (aL x5))
 refine xvvp (fun _ _ e5 => ?_) (isIntU_ok (aL x6))
 replace x2 := eq_of_beq (aL x2)
 rw [ob4 (clsT_ok (aL x)) rfl (dataF_ok e4) rfl] at e
 refine ⟨_, vs, _, _, _, _, _, _, _, F.nt (F.keep _ _ e) (fun q => by (injection q with q1; clear e e4 x3 x4 x5; subst q1); injection x2), rfl, rfl, x2, ?_, e1, e2, e3, e5, ?_⟩
 ·rw [Array.getD_eq_getD_getElem?, x2]; rfl
 ·intro z
  have := aR x6
  rw [z, Nat.beq_refl] at this
  exact Bool.noConfusion this
theorem gZ.dfl (F : gZ s₀ h) {ds : List V} {d : Value} (c : dfB s₀.heap ds d = true) : (ds = [] ∧ d = .none) ∨ ∃ a us n, d = .ref a ∧ (hideAll h gT).get? a = some (eZ false us n) ∧ cQ [] ds us.toList := by
 cases d with
 | none => exact .inl ⟨yQ c, rfl⟩
 | ref d =>
  refine xvvpp (fun us n h1 h2 => ?_) (F.seq c)
  exact .inr ⟨d, us, n, rfl, h1, h2⟩
 | _ => exact Bool.noConfusion c
theorem gZ.tab (F : gZ s₀ h) {t : Option Nat} {d : Value} (c : tabB s₀.heap t d = true) : ∀ k, t = some k → ∃ c P, d = .ref c ∧ gT[k]? = some P ∧ CodeHd (hideAll h gT) c P := by
 intro k hk
 subst hk
 revert c; refine iI fun c' e1 c => ?_
 revert c; refine iI fun P e2 c => ?_
 exact ⟨c', P, refU_ok e1, e2, F.codeHd c⟩
theorem gZ.fn (F : gZ s₀ h) {a : Addr} {i : Nat} {j : Option Nat} {q : Str} {ds : List V} {t : Option Nat} (hm : (a, OldK.fn i j q ds t) ∈ gOk) : OldD (iJ s₀.heap gAs) gT (hideAll h gT) a (OldK.fn i j q ds t).old := by
 have c := F.old _ hm
 have hmem : a ∈ gAs := by
  refine aQ (fun b hb e => ?_) (List.any_eq_true.mp (aR c))
  have : a = b := nE e
  exact this ▸ hb
 refine iI (fun o e c0 => ?_) (aL c)
 refine iI (fun fd e4 c1 => ?_) (aR c0)
 have fn := F.fns _ hm
 change _ = (defO i j).bind _ at fn
 rw [e, Option.bind_some] at fn
 unfold fnO at fn
 rw [e4, Option.bind_some] at fn
 refine oB (fun p hp fn => ?_) fn.symm
 obtain ⟨ps, b, sc⟩ := p
 refine xpp (fun f1 f23 => ?_) (Prod.mk.inj (Option.some.inj fn))
 refine xpp (fun f2 f3 => ?_) (Prod.mk.inj f23)
 show OldD _ _ _ a (oldFn (defO i j) q ds t)
 rw [hp]
 rw [ob4 (clsT_ok (aL c0)) rfl (dataN_ok e4) rfl] at e
 have hB := F.nt (F.keep _ _ e) (fun h => by injection h)
 have c2 := aR c1
 have c3 := aR c2
 have c4 := aR c3
 have c5 := aR c4
 have c6 := aR c5
 have c7 := aR c6
 refine ⟨_, fd, _, hB, fragOf_mem e _ hmem, f1.symm, f2.symm, f3.symm, eI.mp (aL c1), nE (aL c2), nE (aL c3), yQ (aL c4), eq_of_beq (aL c5), ?_, F.dfl (aL c7), F.tab (aR c7)⟩
 refine xvvvvpppp (fun c' oc vs tq e1 e2 e3 e4 => ?_) (Heap.CodeRec.of_ok (aL c6))
 exact ⟨c', oc, vs, tq, e1, F.nt (F.keep _ _ e2) (fun z => by rw [e3] at z; injection z with q1; subst q1; injection e4), e3, e4⟩
theorem gZ.cls (F : gZ s₀ h) {a : Addr} {m : List Nat} {i : Nat} {ms : List (Str × Nat)} {as : List Str} (c : clsB (iJ s₀.heap gAs) a m i ms as = true) : ClsD (iJ s₀.heap gAs) a m i ms as := by
 unfold clsB at c
 simp only [Bool.and_eq_true, List.all_eq_true] at c
 revert c; refine xpppppppppppppppp fun c1 c2 c3 c4 c5 c6 c7 c8 c9 c10 c11 c12 c13 c14 c15 c16 => ?_
 refine aQ (fun cd hcd hc => ?_) (any_some c1)
 simp only [Bool.and_eq_true, Bool.not_eq_true'] at hc
 revert hc; refine xppp fun d1 d2 d3 => ?_
 have d3 := eq_of_beq d3
 exact {
  cd := ⟨cd, hcd, d1⟩
  ga := eq_of_beq c2
  sa := eq_of_beq c3
  po := c4
  gh := eq_of_beq c5
  make := c6
  ini := eq_of_beq c7
  inf := eq_of_beq c8
  attr := fun x hx => by
   refine xpp (fun e1 e2 => ?_) (c9 x (hasS_mem hx))
   exact ⟨eq_of_beq e1, by simpa using e2⟩
  meth := fun x m hx => by
   refine xpp (fun e1 e2 => ?_) (c10 _ (look_mem hx))
   exact ⟨eq_of_beq e1, eq_of_beq e2⟩
  sub := fun D => by
   unfold mroIn
   rw [hcd, Option.bind_some, if_neg (by rw [d2]; decide), refs_has, d3]
  kit := ⟨c11, c12, eq_of_beq c13, eq_of_beq c14, eq_of_beq c15, eq_of_beq c16⟩ }
end
end
section
variable [Tau]
theorem lk_gg {xs : List V} {a : Nat} {o : Old} (e : lk (gOlds ++ [(dJ, .lst (xs))]) a = some o) : (∃ ok, (a, ok) ∈ gOk ∧ o = ok.old) ∨ (a = dJ ∧ o = .lst (xs)) := by
 refine orE (fun e => ?_) (fun e => ?_) (lk_app e)
 ·exact .inl (lk_map OldK.old e)
 ·have e : (if Nat.beq dJ a then some (Old.lst (xs)) else none) = some o := e
  by_cases q : Nat.beq dJ a = true
  ·rw [if_pos q] at e; injection e with q1; subst q1; exact .inr ⟨(nE q).symm, rfl⟩
  ·rw [if_neg q] at e; injection e
theorem cls_listed {xs : List V} {C : Nat} {m : List Nat} {i : Nat} {ms : List (Str × Nat)} {as : List Str} (e : lk (gOlds ++ [(dJ, .lst (xs))]) C = some (.cls m i ms as)) : (C, OldK.cls m i ms as) ∈ gOk := by
 refine orE (aQ fun ok h1 h2 => ?_) (xdp fun h2 => ?_) (lk_gg e)
 ·cases ok with
  | cls m' i' ms' as' => injection h2 with q1 q2 q3 q4; subst q1; subst q2; subst q3; subst q4; exact h1
  | tup => injection h2
  | fn ii j q ds t =>
   change Old.cls m i ms as = oldFn (defO ii j) q ds t at h2
   refine oE (defO ii j) (fun hd => ?_) (fun p hd => ?_)
   ·rw [hd] at h2; exact Old.noConfusion h2
   ·rw [hd] at h2; exact Old.noConfusion h2
 ·injection h2
theorem cls_in {xs : List V} {C : Nat} {m : List Nat} {i : Nat} {ms : List (Str × Nat)} {as : List Str} (e : lk (gOlds ++ [(dJ, .lst (xs))]) C = some (.cls m i ms as)) : V.old C ∈ kTys := by
 unfold kTys
 exact List.mem_append.mpr (.inr (List.mem_filterMap.mpr ⟨_, cls_listed e, rfl⟩))
theorem okT_in {a : Ty} (h : okT a = true) : V.ty a ∈ kTys := by
 unfold kTys
 refine List.mem_append.mpr (.inl ?_)
 cases a <;> first | exact Bool.noConfusion h | (simp; done)
theorem TyG_in {xs : List V} {q : Bool} {ne : List Nat → Str → Bool} {orc : Qn → Option V} {a : V} (h : TyG (gx xs q ne orc) a) : a ∈ kTys := by
 cases a with
 | ty t => exact okT_in h
 | old C =>
  revert h; refine xvp fun m h => ?_
  refine xvvvp (fun i ms as h => ?_) (mroI_ok h)
  exact cls_in h
 | _ => exact h.elim
theorem isTy_in {xs : List V} {q : Bool} {ne : List Nat → Str → Bool} {orc : Qn → Option V} {t c : V} {b : Bool} (e : isTy (gx xs q ne orc) t c = some b) : t ∈ kTys ∧ c ∈ kTys := ⟨TyG_in (isTy_types e), TyG_in (isTy_typec e)⟩
theorem lk_left {l m : List (Nat × Old)} {a : Nat} (h : ∀ v, lk l a = some v → True) : lk (l ++ m) a = match lk l a with | some v => some v | none => lk m a := by
 induction l with
 | nil => rfl
 | cons p l ih =>
  obtain ⟨k, v⟩ := p
  show (if Nat.beq k a then some v else lk (l ++ m) a) = match (if Nat.beq k a then some v else lk l a) with | some v => some v | none => lk m a
  by_cases q : Nat.beq k a = true
  ·rw [if_pos q, if_pos q]
  ·rw [if_neg q, if_neg q]; exact ih fun _ _ => trivial
theorem mro_same {xs : List V} {q : Bool} {ne : List Nat → Str → Bool} {orc : Qn → Option V} (a : Nat) : mroI (lk (gx xs q ne orc).olds a) = mroI (lk (gg []).olds a) := by
 show mroI (lk (gOlds ++ [(dJ, .lst xs)]) a) = mroI (lk (gOlds ++ [(dJ, .lst [])]) a)
 rw [lk_left fun _ _ => trivial, lk_left fun _ _ => trivial]
 cases lk gOlds a with
 | some v => rfl
 | none =>
  show mroI (if Nat.beq dJ a then some (Old.lst xs) else none) = mroI (if Nat.beq dJ a then some (Old.lst []) else none)
  cases Nat.beq dJ a <;> rfl
theorem isTy_same {xs : List V} {q : Bool} {ne : List Nat → Str → Bool} {orc : Qn → Option V} (t c : V) : isTy (gx xs q ne orc) t c = isTy (gg []) t c := congrArg (fun f => isTyF f t c) (funext mro_same)
section
variable {s₀ : Shared} {h : Heap} {mg mb : Str → Option Value}
noncomputable def initAt : Option Stmt := defAt 49 (some 0)
noncomputable def iBody : List Stmt := match initAt with | some (.FunctionDef _ _ b _ _ _ _ _ _ _) => b | _ => []
noncomputable def iPs : Arguments := match initAt with | some (.FunctionDef _ ps _ _ _ _ _ _ _ _) => ps | _ => ⟨[], [], none, [], [], none, []⟩
noncomputable def iSc : Scope := match initAt with | some (.FunctionDef _ _ _ _ _ _ sc _ _ _) => sc | _ => default
noncomputable def iPos : List Pos := match iBody with
 | [.Expr (.Call (.Attribute (.Name _ p1) _ p2) [.Name _ p3, .Name _ p4] [] p5) p6, .Assign [.Attribute (.Name _ p7) _ p8] (.Name _ p9) p10] => [p1, p2, p3, p4, p5, p6, p7, p8, p9, p10]
 | _ => []
noncomputable def ip (i : Nat) : Pos := iPos.getD i default
theorem init_form : InitD iPs iBody iSc where
 args := by kernel_rfl
 body := ⟨ip 0, ip 1, ip 2, ip 3, ip 4, ip 5, ip 6, ip 7, ip 8, ip 9, by kernel_rfl, by kernel_rfl⟩
 psc := by kernel_rfl
 pl := by kernel_rfl
 nc := by kernel_rfl
 ks := by kernel_rfl
 km := by kernel_rfl
 ke := by kernel_rfl
theorem lk_init : lk gOlds 289 = some (.fn iPs iBody iSc (sOf "MarkupError.__init__") [] none) := by kernel_rfl
theorem gZ.fltD (F : gZ s₀ h) {xs : List V} {q : Bool} {ne : List Nat → Str → Bool} {orc : Qn → Option V} : FltD (gx xs q ne orc) (iJ s₀.heap gAs) (hideAll h gT) := by
 have c := F.flt
 have c2 := aR c
 have c3 := aR c2
 have c4 := aR c3
 refine ⟨?_, eq_of_beq (aL c2), eq_of_beq (aL c3), ?_, ?_⟩
 ·refine iI (fun o e d => ?_) (aL c)
  have d2 := aR d
  refine iI (fun cd e4 d3 => ?_) (aR d2)
  obtain ⟨nm, bs, mro, ns, qn, hd, sn, sub, ab, col, dl⟩ := cd
  have m1 := eq_of_beq (aR (aR d3))
  have m2 : hd = true := aL d3
  have m3 : dl = false := (Bool.not_eq_true' _).mp (aL (aR d3))
  dsimp only at m1
  subst m2 m3
  rw [ob4 (clsT_ok (aL d)) rfl (dataC_ok e4) (congrArg List.toArray (eq_of_beq (aL d2))), m1] at e
  exact ⟨nm, qn, ns, bs, _, sn, sub, ab, col, _, _, _, _, _, _, F.nt (F.keep _ _ e) (fun h => by injection h)⟩
 ·refine ⟨289, iPs, iBody, iSc, sOf "MarkupError.__init__", eq_of_beq (aL c4), eq_of_beq (aR c4), ?_, init_form⟩
  show lk (gOlds ++ [(dJ, .lst (xs))]) 289 = _
  rw [lk_left fun _ _ => trivial, lk_init]
 ·kernel_rfl
theorem ctx_of (F : gZ s₀ h) (xs : List V) (q : Bool) (ne : List Nat → Str → Bool) (orc : Qn → Option V) (hne : ∀ t x, ne t x = true → Tau.tau t ≠ .str x) (horc : ∀ z v, orc z = some v → OrcD (gx xs q ne orc) z v) (hg : h.Ns mainGlobals mg) (hb : h.Ns builtinsNs mb) (hl : h.NoLimit)
  (hm : ∃ bm ob, mg "__builtins__" = some (.ref bm) ∧ bm ≠ builtinsNs ∧ h.get? bm = some ob ∧ ob.cls = .type "module" ∧ ob.dict = some builtinsNs ∧ ob.data = .plain)
  (us : Array Value) (n : Nat) (hs : h.get? dJ = some (eZ true us n)) (hu : cQ [] xs us.toList) : aJ (gx xs q ne orc) (iJ s₀.heap gAs) gT (hideAll h gT) := by
 have nsB : ∀ {a : Addr} {m : Str → Option Value}, h.Ns a m → (hideAll h gT).Ns a m := fun {a m} ⟨o, es, ep, e1, e2, e3⟩ => ⟨o, es, ep, F.nt e1 (by rw [e2]; nofun), e2, e3⟩
 have same : ∀ {a : Addr} {m : Str → Option Value}, h.Ns a m → (s₀.heap.get? a).isSome = true → s₀.heap.nsMap a = m := fun {a m} hn hi => by
  refine xvp (fun o ho => ?_) (Option.isSome_iff_exists.mp hi)
  rw [hn.eq_nsMap]
  unfold Heap.nsMap
  rw [ho, F.keep _ _ ho]
 have mgE := same hg F.main
 have mbE := same hb F.blt
 refine ⟨F.kin, ⟨mg, mb, nsB hg, nsB hb, fun x v hx => ?_⟩, ?_, ?_, ?_, fun a o e => ?_, fun t c b e => ?_, F.fltD, hne, horc⟩
 ·have c := F.glob _ (look_mem hx)
  unfold globB at c
  dsimp only at c
  refine aN (fun c1 c2 => ?_) c
  rw [mgE, mbE] at c2
  refine ⟨?_, ?_⟩
  ·refine qJ (x == ("__debug__" : Str)) (fun y => ?_) (fun y => ?_)
   ·rfl
   ·
    rw [(eI (b := sOf "__debug__")).mpr (eq_of_beq y)] at c1
    injection c1
  ·refine gOption10 (mg x) (fun u hmx => ?_) (fun hmx => ?_)
   ·rw [hmx] at c2; exact .inl ⟨u, rfl, vrB_ok c2⟩
   ·
    rw [hmx] at c2
    refine gOption10 (mb x) (fun u hbx => ?_) (fun hbx => ?_)
    ·rw [hbx] at c2; exact .inr ⟨rfl, u, rfl, vrB_ok c2⟩
    ·rw [hbx] at c2; injection c2
 ·revert hl; refine aQ fun mc h1 h2 => ?_
  exact ⟨mc, nsB h1, h2⟩
 ·revert hm; refine xvvpppppp fun bm ob h1 h2 h3 h4 h5 h6 => ?_
  refine ⟨mg, bm, ob, nsB hg, h1, h2, fun q => ?_, F.nt h3 (by rw [h6]; nofun), h4, h5, h6⟩
  subst q
  revert hg; refine xvvvppd fun o es ep e1 e2 => ?_
  rw [h3] at e1
  injection e1 with q1; subst q1
  rw [h6] at e2
  injection e2
 ·refine xvp (fun o ho => ?_) (Option.isSome_iff_exists.mp F.sysm)
  refine ⟨o, hideAll_get _ (F.keep _ _ ho) ?_⟩
  decide
 ·rcases lk_gg e with ⟨ok, h1, rfl⟩ | ⟨rfl, rfl⟩
  ·have c := F.old _ h1
   cases ok with
   | fn i j q ds t => exact F.fn h1
   | cls m i ms as => exact F.cls c
   | tup xs =>
    refine xvvpp (fun us n h1 h2 => ?_) (F.seq c)
    exact ⟨us, n, h1, h2⟩
  ·exact ⟨us, n, F.nt hs (fun h => by injection h), hu⟩
 ·refine xpp (fun h1 h2 => ?_) (isTy_in e)
  rw [isTy_same] at e
  have ck := F.isi
  unfold isiB at ck
  have := List.all_eq_true.mp (List.all_eq_true.mp ck t h1) c h2
  rw [e] at this
  exact eq_of_beq this
end
end
noncomputable def pushF' (os : List O) (σ : St) : St := os.foldl (fun σ o => σ.pushF o) σ
noncomputable def oS (os : List O) : St := pushF' os ⟨0, .nil⟩
theorem pushF'_get (os : List O) : ∀ (σ : St), σ.size + os.length ≤ 4096 → (pushF' os σ).size = σ.size + os.length ∧ (∀ i, i < σ.size → (pushF' os σ).get i = σ.get i) ∧ ∀ k, (pushF' os σ).get (σ.size + k) = os[k]? := by
 induction os with
 | nil =>
  intro σ _
  refine ⟨rfl, fun _ _ => rfl, fun k => ?_⟩
  cases q : σ.get (σ.size + k) with
  | none => exact q
  | some o => exact absurd (St.get_lt q) (Nat.not_lt.mpr (Nat.le_add_right _ _))
 | cons o os ih =>
  intro σ h
  have e : σ.size + (os.length + 1) = σ.size + 1 + os.length := Nat.add_right_comm σ.size os.length 1
  have h0 : σ.size + 1 + os.length ≤ 4096 := e ▸ h
  have hs : σ.size < 4096 := Nat.lt_of_lt_of_le (Nat.lt_succ_self _) (Nat.le_trans (Nat.le_add_right _ _) h0)
  refine xppp (fun a b c => ?_) (ih (σ.push o) (by rw [St.size_push]; exact h0))
  rw [St.size_push] at a b c
  show (pushF' os (σ.pushF o)).size = _ ∧ (∀ i, _ → (pushF' os (σ.pushF o)).get i = _) ∧ ∀ k, (pushF' os (σ.pushF o)).get _ = _
  rw [St.pushF_eq]
  refine ⟨a.trans e.symm, fun i hi => ?_, fun k => ?_⟩
  ·rw [b i (Nat.lt_succ_of_lt hi), St.get_push hs, if_neg (Nat.ne_of_lt hi)]
  ·cases k with
   | zero => rw [Nat.add_zero, b _ (Nat.lt_succ_self _), St.get_push hs, if_pos rfl]; rfl
   | succ k => rw [show σ.size + (k + 1) = σ.size + 1 + k from Nat.add_right_comm σ.size k 1, c k]; rfl
theorem stOf_fit {os : List O} (h : os.length ≤ 4096) : (⟨0, .nil⟩ : St).size + os.length ≤ 4096 := by
 show 0 + _ ≤ _
 rw [Nat.zero_add]; exact h
theorem nQ {os : List O} (h : os.length ≤ 4096) (i : Nat) : (oS os).get i = os[i]? := by
 have := (pushF'_get os ⟨0, .nil⟩ (stOf_fit h)).2.2 i
 rwa [show (⟨0, .nil⟩ : St).size + i = i from Nat.zero_add i] at this
theorem sQ {os : List O} (h : os.length ≤ 4096) : (oS os).size = os.length := (pushF'_get os ⟨0, .nil⟩ (stOf_fit h)).1.trans (Nat.zero_add _)
noncomputable def idxN : List Nat → Nat → Option Nat
 | [], _ => none
 | a :: l, n => bif Nat.beq a n then some 0 else (match idxN l n with | some i => some (i + 1) | none => none)
theorem idxN_get : ∀ {e : List Nat} {n i : Nat}, idxN e n = some i → e[i]? = some n
 | [], _, _, h => by injection h
 | a :: l, n, i, h => by
  unfold idxN at h
  refine nJ (Nat.beq a n) (fun q => ?_) (fun q => ?_)
  ·rw [q, cond_true] at h; injection h with q1; subst q1; rw [nE q]; rfl
  ·
   rw [q, cond_false] at h
   refine oE (idxN l n) (fun z => ?_) (fun j z => ?_)
   ·rw [z] at h; injection h
   ·rw [z] at h; injection h with q1; subst q1; exact (List.getElem?_cons_succ ..).trans (idxN_get z)
noncomputable def nodupN : List Nat → Bool
 | [] => true
 | a :: l => bif hasN l a then false else nodupN l
theorem hasN_mem : ∀ {l : List Nat} {x : Nat}, hasN l x = true ↔ x ∈ l
 | [], _ => by simp [hasN]
 | a :: l, x => by
  unfold hasN
  rw [List.mem_cons]
  by_cases q : Nat.beq a x = true
  ·rw [if_pos q]; simp [nE q]
  ·rw [if_neg q, hasN_mem]
   constructor
   ·exact .inr
   ·rintro (rfl | h)
    ·exact absurd (Nat.beq_refl x) q
    ·exact h
theorem nodupN_ok : ∀ {l : List Nat}, nodupN l = true → ∀ {i j a : Nat}, l[i]? = some a → l[j]? = some a → i = j
 | [], _, i, _, _, h, _ => by injection h
 | b :: l, h, i, j, a, hi, hj => by
  unfold nodupN at h
  refine nJ (hasN l b) (fun q => ?_) (fun q => ?_)
  ·rw [q] at h; injection h
  ·
   rw [q, cond_false] at h
   have nb : ∀ {k : Nat}, l[k]? = some b → False := fun {k} hk => by
    have : hasN l b = true := hasN_mem.mpr (List.mem_of_getElem? hk)
    rw [q] at this; injection this
   cases i <;> cases j
   ·rfl
   ·injection hi with q1; subst q1; exact (nb (by simpa using hj)).elim
   ·injection hj with q1; subst q1; exact (nb (by simpa using hi)).elim
   ·congr 1; exact nodupN_ok h (by simpa using hi) (by simpa using hj)
structure Gc where
 e : List Nat
 tm : V → V
 dead : List Str
 deadA : List Str
 deadC : List Nat
 ov : List (Nat × O)
noncomputable def Gc.v (G : Gc) : V → V
 | .new n => (match idxN G.e n with | some i => .new i | none => .any)
 | .none => .none
 | .any => .any
 | .old a => .old a
 | .ty t => .ty t
 | .bt b => .bt b
 | v => G.tm v
noncomputable def Gc.m (G : Gc) (m : List (Str × V)) : List (Str × V) := m.map fun p => (p.1, G.v p.2)
noncomputable def Gc.n (G : Gc) (m : List (Str × V)) : List (Str × V) := m.map fun p => (p.1, bif hasS G.dead p.1 then .any else G.v p.2)
noncomputable def Gc.a (G : Gc) (m : List (Str × V)) : List (Str × V) := m.map fun p => (p.1, bif hasS G.deadA p.1 then .any else G.v p.2)
noncomputable def Gc.cl (G : Gc) : List (Str × Nat) → Option (List (Str × Nat))
 | [] => some []
 | p :: l => (idxN G.e p.2).bind fun i => (G.cl l).bind fun r => some ((p.1, i) :: r)
noncomputable def Gc.tab (G : Gc) (t : Option Nat) : Option (Option Nat) := match t with
 | none => some none
 | some t => (idxN G.e t).bind fun i => some (some i)
noncomputable def Gc.oR (G : Gc) (z : O) : O := match z with
 | .list xs => .ro (.list (xs.map G.v))
 | .at m => .ro (.at (G.m m))
 | .dict m => .ro (.dict (G.m m))
 | .cell v => (match v with
  | some v => .ro (.cell (some (G.v v)))
  | none => .junk)
 | _ => .junk
noncomputable def oInst (C : Nat) (i : Option Nat) : O := match i with
 | some i => .inst C i
 | none => .junk
noncomputable def oFn (f : Fn) (cl : Option (List (Str × Nat))) (t : Option (Option Nat)) : O := match cl with
 | some cl => (match t with
  | some t => .fn { f with cl := cl, tab := t }
  | none => .junk)
 | none => .junk
noncomputable def Gc.o1 (G : Gc) (n : Nat) (o : O) : O := match o with
 | .ns m => .ns (G.n m)
 | .list xs => .list (bif hasN G.deadC n then xs.map fun _ => .any else xs.map G.v)
 | .tup xs => .tup (xs.map G.v)
 | .dict m => .dict (G.m m)
 | .at m => .at (G.a m)
 | .inst C d => oInst C (idxN G.e d)
 | .cell v => .cell (v.map fun v => bif hasN G.deadC n then .any else G.v v)
 | .fn f => oFn f (G.cl f.cl) (G.tab f.tab)
 | .tab made => .tab made
 | .iter l v i => .iter l (G.v v) i
 | .ro z => G.oR z
 | _ => .junk
noncomputable def Gc.o (G : Gc) (n : Nat) (o : O) : O := match lk G.ov n with
 | some o' => o'
 | none => G.o1 n o
noncomputable def Gc.st (G : Gc) (σ : St) : Option St := bif nodupN G.e && (G.e.all (fun n => Nat.blt n σ.size) && Nat.ble G.e.length 4000) then some (oS (G.e.map fun n => match σ.get n with | some o => G.o n o | none => .junk)) else none
noncomputable def Wl.gc (X : Wl) (G : Gc) (fr : List Nat) : Wl := { X with ρ := G.e.map fun n => X.ρ.getD n 0, fr := fr }
section
variable {P : Program} {w : World} {X : Wl} {σ σ' : St} {s : Shared} {τ τ' : Tau} {G : Gc} {fr : List Nat}
noncomputable def TmOk (τ τ' : Tau) (tm : V → V) : Prop := ∀ v ρ ρ' u, (isSc v = true ∨ ∃ t, v = .sym t) → @VR τ ρ v u → @VR τ' ρ' (tm v) u
theorem Wl.gc_get (hX : ∀ n ∈ G.e, n < X.ρ.length) {i n : Nat} (h : G.e[i]? = some n) : (X.gc G fr).ρ[i]? = X.ρ[n]? := by
 show (G.e.map fun n => X.ρ.getD n 0)[i]? = _
 rw [List.getElem?_map, h, Option.map_some]
 have := hX n (List.mem_of_getElem? h)
 rw [List.getD_eq_getElem?_getD, List.getElem?_eq_getElem this]; rfl
set_option tactic.hygienic true in
theorem gc_v (hX : ∀ n ∈ G.e, n < X.ρ.length) (htm : TmOk τ τ' G.tm) {v : V} {u : Value} (h : @VR τ X.ρ v u) : @VR τ' (X.gc G fr).ρ (G.v v) u := by
 cases v with
 | new n =>
  unfold Gc.v
  dsimp only
  split
  ·rename_i i hi
   revert h; refine aQ fun a ha q1 => ?_; subst q1
   exact ⟨a, by rw [Wl.gc_get hX (idxN_get hi)]; exact ha, rfl⟩
  ·exact @VR.handed τ _ _ _ h
 | none => exact h
 | any => exact h
 | old a => exact h
 | ty t => exact h
 | bt t => exact h
 | bool b => exact htm _ _ _ _ (.inl rfl) h
 | int i => exact htm _ _ _ _ (.inl rfl) h
 | str i => exact htm _ _ _ _ (.inl rfl) h
 | sym t => exact htm _ _ _ _ (.inr ⟨t, rfl⟩) h
theorem gc_opt (hX : ∀ n ∈ G.e, n < X.ρ.length) (htm : TmOk τ τ' G.tm) {m : List (Str × V)} {dd : List Str} {f : Str → Option Value} (h : @MapR τ X.ρ m f) : @MapR τ' (X.gc G fr).ρ (m.map fun p => (p.1, bif hasS dd p.1 then V.any else G.v p.2)) f := by
 intro x
 have hl : look (m.map fun p => (p.1, bif hasS dd p.1 then V.any else G.v p.2)) x = (look m x).map fun v => bif hasS dd x then V.any else G.v v := by
  clear h
  induction m with
  | nil => rfl
  | cons p m ih =>
   obtain ⟨k, v⟩ := p
   rw [List.map_cons, look_cons, look_cons]
   refine cZ (eqS k x) (fun q => ?_) (fun q => ?_)
   ·rw [cond_true, cond_true, eI.mp q]; rfl
   ·rw [cond_false, cond_false]; exact ih
 rw [hl]
 have hx := h x
 revert hx
 cases look m x with
 | none => cases f x with
  | none => exact id
  | some u => exact id
 | some v => cases f x with
  | none => exact id
  | some u =>
   intro hx
   show @VR τ' _ (bif hasS dd x then V.any else G.v v) u
   cases hasS dd x with
   | true => exact @VR.handed τ _ _ _ hx
   | false => exact gc_v hX htm hx
theorem hasS_nil (x : Str) : hasS [] x = false := rfl
theorem gc_map (hX : ∀ n ∈ G.e, n < X.ρ.length) (htm : TmOk τ τ' G.tm) {m : List (Str × V)} {f : Str → Option Value} (h : @MapR τ X.ρ m f) : @MapR τ' (X.gc G fr).ρ (G.m m) f := by
 have := gc_opt (fr := fr) (dd := []) hX htm h
 unfold Gc.m
 simpa only [hasS_nil, cond_false] using this
theorem gc_all (hX : ∀ n ∈ G.e, n < X.ρ.length) (htm : TmOk τ τ' G.tm) {xs : List V} {us : List Value} (a : @cQ τ X.ρ xs us) : @cQ τ' (X.gc G fr).ρ (xs.map G.v) us :=
 @cQ.ind τ X.ρ (fun xs us => @cQ τ' (X.gc G fr).ρ (xs.map G.v) us) trivial (fun _ _ _ _ h _ r => ⟨gc_v hX htm h, r⟩) _ _ a
theorem any_all {ρ ρ' : List Addr} {xs : List V} {us : List Value} (a : @cQ τ ρ xs us) : @cQ τ' ρ' (xs.map fun _ => V.any) us :=
 @cQ.ind τ ρ (fun xs us => @cQ τ' ρ' (xs.map fun _ => V.any) us) trivial (fun _ _ _ _ h _ r => ⟨@VR.handed τ _ _ _ h, r⟩) _ _ a
theorem gc_dr (hX : ∀ n ∈ G.e, n < X.ρ.length) (htm : TmOk τ τ' G.tm) {m : List (Str × V)} {k : List (Str × Value)} (a : @DR τ X.ρ m k) : @DR τ' (X.gc G fr).ρ (G.m m) k :=
 @DR.ind τ X.ρ (fun m k => @DR τ' (X.gc G fr).ρ (G.m m) k) trivial (fun _ _ _ _ _ h _ r => ⟨rfl, gc_v hX htm h, r⟩) _ _ a
theorem gc_cells (hX : ∀ n ∈ G.e, n < X.ρ.length) {c : List (Str × Nat)} : ∀ {c' : List (Str × Nat)} {d : List (Str × Addr)}, fJ X.ρ c d → G.cl c = some c' → fJ (X.gc G fr).ρ c' d := by
 induction c with
 | nil =>
  intro c' d h e
  injection e with q1; subst q1
  cases d with
  | nil => trivial
  | cons => exact h.elim
 | cons p c ih =>
  obtain ⟨x, n⟩ := p
  intro c' d h e
  cases d with
  | nil => exact h.elim
  | cons y d =>
   change ((idxN G.e n).bind fun i => (G.cl c).bind fun r => some ((x, i) :: r)) = some c' at e
   revert e; refine oB fun i hi e => ?_
   revert e; refine oB fun r hr e => ?_
   injection e with q1; subst q1
   exact ⟨h.1, by rw [Wl.gc_get hX (idxN_get hi)]; exact h.2.1, ih h.2.2 hr⟩
theorem gc_tab (hX : ∀ n ∈ G.e, n < X.ρ.length) {t : Option Nat} {t' : Option Nat} (h : G.tab t = some t') {p : Addr → Prop} (H : ∀ j, t = some j → ∃ P, X.ρ[j]? = some P ∧ p P) : ∀ k, t' = some k → ∃ P, (X.gc G fr).ρ[k]? = some P ∧ p P := by
 intro k hk
 subst hk
 cases t with
 | none => injection h with q1; injection q1
 | some j =>
  revert h; refine oB fun i hi h => ?_
  injection h with q1; injection q1 with q2; subst q2
  refine aQ (fun P h1 h2 => ?_) (H j rfl)
  exact ⟨P, by rw [Wl.gc_get hX (idxN_get hi)]; exact h1, h2⟩
noncomputable def OvOk (P : Program) (w : World) (τ τ' : Tau) (X : Wl) (σ : St) (ov : List (Nat × O)) : Prop := ∀ n o', lk ov n = some o' → ∃ o, σ.get n = some o ∧ (o.mut = true ∨ (∃ z, o = .ro z) ∨ ((∃ t, o = .mk t) ∧ ∃ t, o' = .mk t)) ∧ (o'.mut = true → o.mut = true) ∧ ∀ X' : Wl, X'.B = X.B → ∀ ob, @pQ τ P w X ob o → @pQ τ' P w X' ob o'
theorem gc_ro1 (hX : ∀ n ∈ G.e, n < X.ρ.length) (htm : TmOk τ τ' G.tm) {o : O} {ob : Obj} (h : @pQ τ P w X ob (.ro o)) : @pQ τ' P w (X.gc G fr) ob (G.oR o) := by
 cases o with
 | list xs =>
  revert h; refine xvvpp fun us k h1 h2 => ?_
  exact ⟨us, k, h1, gc_all hX htm h2⟩
 | «at» m =>
  revert h; refine xvvpppp fun es ep h1 h2 h3 h4 => ?_
  exact ⟨es, ep, h1, h2, by unfold Gc.m; rw [List.length_map]; exact h3, gc_map hX htm h4⟩
 | dict m =>
  revert h; refine aQ fun kvs h1 h2 => ?_
  exact ⟨kvs, h1, gc_dr hX htm h2⟩
 | cell v => cases v with
  | none => exact trivial
  | some v =>
   revert h; refine aQ fun u h1 h2 => ?_
   refine ⟨u, h1, ?_⟩
   cases u with
   | none => exact h2.elim
   | some u => exact gc_v hX htm h2
 | _ => exact trivial
theorem gc_obj1 (hX : ∀ n ∈ G.e, n < X.ρ.length) (htm : TmOk τ τ' G.tm) {n : Nat} {o : O} {ob : Obj} (h : @pQ τ P w X ob o) : @pQ τ' P w (X.gc G fr) ob (G.o1 n o) := by
 cases o with
 | ns m =>
  revert h; refine oQ fun es ep h1 h2 h3 => ?_
  exact ⟨es, ep, h1, h2, gc_opt hX htm h3⟩
 | list xs =>
  revert h; refine xvvpp fun us k h1 h2 => ?_
  refine ⟨us, k, h1, ?_⟩
  cases hasN G.deadC n with
  | true => exact any_all h2
  | false => exact gc_all hX htm h2
 | tup xs =>
  revert h; refine xvvpp fun us k h1 h2 => ?_
  exact ⟨us, k, h1, gc_all hX htm h2⟩
 | dict m =>
  revert h; refine aQ fun kvs h1 h2 => ?_
  exact ⟨kvs, h1, gc_dr hX htm h2⟩
 | «at» m =>
  revert h; refine xvvpppp fun es ep h1 h2 h3 h4 => ?_
  exact ⟨es, ep, h1, h2, by unfold Gc.a; rw [List.length_map]; exact h3, gc_opt hX htm h4⟩
 | inst C d =>
  revert h; refine aQ fun dx h1 h2 => ?_
  show @pQ τ' P w (X.gc G fr) ob (oInst C (idxN G.e d))
  refine gE (idxN G.e d) (fun hi => ?_) (fun i hi => ?_)
  ·exact trivial
  ·exact ⟨dx, by rw [Wl.gc_get hX (idxN_get hi)]; exact h1, h2⟩
 | cell v =>
  revert h; refine aQ fun u h1 h2 => ?_
  refine ⟨u, h1, ?_⟩
  cases v with
  | none => cases u with
   | none => trivial
   | some u => exact h2.elim
  | some v => cases u with
   | none => exact h2.elim
   | some u =>
    show @VR τ' _ (bif hasN G.deadC n then V.any else G.v _) u
    cases hasN G.deadC n with
    | true => exact @VR.handed τ _ _ _ h2
    | false => exact gc_v hX htm h2
 | fn f =>
  revert h; refine xppvpp fun h1 h2 fd h3 h4 => ?_
  show @pQ τ' P w (X.gc G fr) ob (oFn f (G.cl f.cl) (G.tab f.tab))
  refine gE (G.cl f.cl) (fun hcl => ?_) (fun cl hcl => ?_)
  ·exact trivial
  ·cases ht : G.tab f.tab with
   | none => exact trivial
   | some t =>
    refine ⟨h1, h2, fd, h3, h4.params, h4.body, h4.scope, h4.qual, h4.globals, h4.builtins, h4.dflt, h4.kwd, gc_cells hX h4.cells hcl, h4.code, fun k hk => ?_⟩
    refine xvpvpp (fun Pp e2 c e1 e3 => ?_) (gc_tab (fr := fr) hX ht (p := fun Pp => ∃ c, fd.code = .ref c ∧ CodeHd X.B c Pp) (fun j hf => let ⟨c, Pp, e1, e2, e3⟩ := h4.tab j hf; ⟨Pp, e2, c, e1, e3⟩) k hk)
    exact ⟨c, Pp, e1, e2, e3⟩
 | tab => exact h
 | iter l v i =>
  revert h; refine xvppp fun a h1 h2 h3 => ?_
  exact ⟨a, gc_v hX htm h1, h2, h3⟩
 | ro z => exact gc_ro1 hX htm h
 | _ => exact trivial
theorem gc_obj (hX : ∀ n ∈ G.e, n < X.ρ.length) (htm : TmOk τ τ' G.tm) (hov : OvOk P w τ τ' X σ G.ov) {n : Nat} {o : O} {ob : Obj} (e : σ.get n = some o) (h : @pQ τ P w X ob o) : @pQ τ' P w (X.gc G fr) ob (G.o n o) := by
 unfold Gc.o
 refine gE (lk G.ov n) (fun ho => ?_) (fun o' ho => ?_)
 ·exact gc_obj1 hX htm h
 ·
  refine xvpddp (fun o₁ e₁ h1 => ?_) (hov n o' ho)
  rw [e] at e₁; injection e₁ with q1; subst q1
  exact h1 (X.gc G fr) rfl _ h
theorem oInst_mut {C : Nat} {i : Option Nat} (h : (oInst C i).mut = true) : False := by cases i <;> exact Bool.noConfusion h
theorem oFn_mut {f : Fn} {c : Option (List (Str × Nat))} {t : Option (Option Nat)} (h : (oFn f c t).mut = true) : False := by
 cases c with
 | none => exact Bool.noConfusion h
 | some c => cases t <;> exact Bool.noConfusion h
theorem oR_mut {z : O} (h : (G.oR z).mut = true) : False := by
 cases z with
 | cell v => cases v <;> exact Bool.noConfusion h
 | _ => exact Bool.noConfusion h
theorem gc_mut1 {n : Nat} {o : O} (h : (G.o1 n o).mut = true) : o.mut = true := by
 cases o with
 | inst => exact (oInst_mut h).elim
 | fn => exact (oFn_mut h).elim
 | ro => exact (oR_mut h).elim
 | _ => first | rfl | exact Bool.noConfusion h
theorem gc_mut {n : Nat} {o : O} (hov : OvOk P w τ τ' X σ G.ov) (e : σ.get n = some o) (h : (G.o n o).mut = true) : o.mut = true := by
 unfold Gc.o at h
 refine oE (lk G.ov n) (fun ho => ?_) (fun o' ho => ?_)
 ·rw [ho] at h; exact gc_mut1 h
 ·
  rw [ho] at h
  refine xvpdpd (fun o₁ e₁ h1 => ?_) (hov n o' ho)
  rw [e] at e₁; injection e₁ with q1; subst q1
  exact h1 h
theorem gc_live {n : Nat} {o : O} (hov : OvOk P w τ τ' X σ G.ov) (e : σ.get n = some o) (h : G.o n o ≠ .junk) : o ≠ .junk := by
 rintro rfl
 unfold Gc.o at h
 refine oE (lk G.ov n) (fun ho => ?_) (fun o' ho => ?_)
 ·rw [ho] at h; exact h rfl
 ·
  refine xvppd (fun o₁ e₁ hh => ?_) (hov n o' ho)
  rw [e] at e₁; injection e₁ with q1; subst q1
  rcases hh with hh | ⟨z, hz⟩ | ⟨⟨z, hz⟩, _⟩
  ·injection hh
  ·injection hz
  ·injection hz
noncomputable def isRo (o : O) : Bool := match o with
 | .ro _ => true
 | _ => false
theorem oInst_ro {C : Nat} {i : Option Nat} (h : isRo (oInst C i) = true) : False := by cases i <;> exact Bool.noConfusion h
theorem oFn_ro {f : Fn} {c : Option (List (Str × Nat))} {t : Option (Option Nat)} (h : isRo (oFn f c t) = true) : False := by
 cases c with
 | none => exact Bool.noConfusion h
 | some c => cases t <;> exact Bool.noConfusion h
theorem gc_ro2 {n : Nat} {o : O} (h : isRo (G.o1 n o) = true) : ∃ z, o = .ro z := by
 cases o with
 | inst => exact (oInst_ro h).elim
 | fn => exact (oFn_ro h).elim
 | ro z => exact ⟨z, rfl⟩
 | _ => exact Bool.noConfusion h
theorem gc_ro {n : Nat} {o z : O} (hov : OvOk P w τ τ' X σ G.ov) (e : σ.get n = some o) (h : G.o n o = .ro z) : o.mut = true ∨ ∃ z, o = .ro z := by
 unfold Gc.o at h
 refine oE (lk G.ov n) (fun ho => ?_) (fun o' ho => ?_)
 ·rw [ho] at h; exact .inr (gc_ro2 (congrArg isRo h))
 ·
  rw [ho] at h
  refine xvppd (fun o₁ e₁ hh => ?_) (hov n o' ho)
  rw [e] at e₁; injection e₁ with q1; subst q1
  rcases hh with hh | hh | ⟨_, t, ht⟩
  ·exact .inl hh
  ·exact .inr hh
  ·rw [ht] at h; injection h
theorem Gc.st_some (h : G.st σ = some σ') : nodupN G.e = true ∧ (∀ n ∈ G.e, n < σ.size) ∧ σ'.size = G.e.length ∧ G.e.length ≤ 4000 ∧ ∀ i o', σ'.get i = some o' → ∃ n, G.e[i]? = some n ∧ ∃ o, σ.get n = some o ∧ o' = G.o n o ∨ (σ.get n = none ∧ o' = .junk) := by
 unfold Gc.st at h
 revert h; refine iQ fun q h => ?_
 injection h with q1; subst q1
 refine aN (fun h1 h2 => ?_) q
 revert h2; refine aN fun h2 h3 => ?_
 have h3 := nL h3
 have hl : (G.e.map fun n => match σ.get n with | some o => G.o n o | none => .junk).length ≤ 4096 := by rw [List.length_map]; omega
 refine ⟨h1, fun n hn => bI.mp (List.all_eq_true.mp h2 n hn), by rw [sQ hl, List.length_map], h3, fun i o' e => ?_⟩
 rw [nQ hl, List.getElem?_map] at e
 refine aQ (fun n hn he => ?_) (Option.map_eq_some_iff.mp e)
 refine ⟨n, hn, ?_⟩
 refine gE (σ.get n) (fun z => ?_) (fun o z => ?_)
 ·rw [z] at he; exact ⟨.junk, .inr ⟨rfl, he.symm⟩⟩
 ·rw [z] at he; exact ⟨o, .inl ⟨rfl, he.symm⟩⟩
theorem Rel.gc (R : @Rel τ P w X σ s) (h : G.st σ = some σ') (htm : TmOk τ τ' G.tm) (hov : OvOk P w τ τ' X σ G.ov) (hsys : ∃ o, X.B.get? sysModules = some o) (hfr : ∀ k ∈ fr, ∃ m, σ'.get k = some (.ns m)) : @Rel τ' P w (X.gc G fr) σ' s := by
 refine xppppp (fun hnd hlt hsz h4 hget => ?_) (Gc.st_some h)
 have hX : ∀ n ∈ G.e, n < X.ρ.length := fun n hn => by rw [@Rel.len τ _ _ _ _ _ R]; exact hlt n hn
 have src : ∀ {i : Nat} {o' : O}, σ'.get i = some o' → o' ≠ .junk → ∃ n o, G.e[i]? = some n ∧ σ.get n = some o ∧ o' = G.o n o ∧ o ≠ .junk := fun {i o'} e hj => by
  obtain ⟨n, hn, o, ⟨h1, h2⟩ | ⟨_, h2⟩⟩ := hget i o' e
  ·exact ⟨n, o, hn, h1, h2, gc_live hov h1 (h2 ▸ hj)⟩
  ·exact (hj h2).elim
 refine @Rel.mk τ' P w (X.gc G fr) σ' s (show X.B.StaysIn s.heap from @Rel.keep τ _ _ _ _ _ R) ?_ ?_ ?_ ?_ ?_ ?_ ?_ (show s.gens = X.gens from @Rel.gens τ _ _ _ _ _ R) (show s.os = X.os from @Rel.os τ _ _ _ _ _ R) ?_
 ·intro i o' a e hm ha
  refine xvvpppp (fun n o hn ho q1 hj => ?_) (src e (O.mut_ne hm)); subst q1
  rw [Wl.gc_get hX hn] at ha
  exact @Rel.fresh τ _ _ _ _ _ R n o a ho (gc_mut hov ho hm) ha
 ·intro i j o₁ o₂ a e₁ e₂ m₁ j₂ a₁ a₂
  refine xvvpppd (fun n₁ p₁ hn₁ hp₁ q1 => ?_) (src e₁ (O.mut_ne m₁)); clear e₁; subst q1
  refine xvvpppp (fun n₂ p₂ hn₂ hp₂ q1 hj₂ => ?_) (src e₂ j₂); subst q1
  rw [Wl.gc_get hX hn₁] at a₁
  rw [Wl.gc_get hX hn₂] at a₂
  have := @Rel.nodup τ _ _ _ _ _ R n₁ n₂ p₁ p₂ a hp₁ hp₂ (gc_mut hov hp₁ m₁) hj₂ a₁ a₂
  clear a₂ hp₂ e₂ j₂; subst this
  exact nodupN_ok hnd hn₁ hn₂
 ·show (G.e.map _).length = _
  rw [List.length_map, hsz]
 ·omega
 ·intro i o' e hj
  refine xvvpppp (fun n o hn ho q1 hjo => ?_) (src e hj); clear hj; subst q1
  refine oQ (fun a ob h1 h2 h3 => ?_) (@Rel.objs τ _ _ _ _ _ R n o ho hjo)
  exact ⟨a, ob, by rw [Wl.gc_get hX hn]; exact h1, h2, gc_obj hX htm hov ho h3⟩
 ·intro i hi
  refine gOption10 (σ'.get i) (fun o q => ?_) (fun q => ?_)
  ·rfl
  ·
   exfalso
   unfold Gc.st at h
   refine bE ((nodupN G.e && (G.e.all (fun n => Nat.blt n σ.size) && Nat.ble G.e.length 4000))) (fun q' => ?_) (fun q' => ?_)
   ·rw [q'] at h; injection h
   ·
    rw [q', cond_true] at h
    injection h with q1; clear hget; subst q1
    have hl : (G.e.map fun n => match σ.get n with | some o => G.o n o | none => .junk).length ≤ 4096 := by rw [List.length_map]; omega
    rw [nQ hl] at q
    rw [hsz] at hi
    have := List.getElem?_eq_none_iff.mp q
    rw [List.length_map] at this
    omega
 ·exact hfr
 ·intro i z a e ha
  refine xvvpppp (fun n o hn ho hz hjo => ?_) (src e (fun h => by injection h))
  rw [Wl.gc_get hX hn] at ha
  rcases gc_ro hov ho hz.symm with hm | ⟨z', rfl⟩
  ·rintro rfl
   revert hsys; refine xvp fun o' ho' => ?_
   rw [@Rel.fresh τ _ _ _ _ _ R n o _ ho hm ha] at ho'
   injection ho'
  ·exact @Rel.sys τ _ _ _ _ _ R n z' a ho ha
end
noncomputable def clV : V → Bool
 | .sym _ => false
 | _ => true
noncomputable def clO : Old → Bool
 | .fn _ _ _ _ ds _ => ds.all clV
 | .tup xs => xs.all clV
 | .lst xs => xs.all clV
 | .cls .. => true
section
variable {τ τ' : Tau}
theorem VR_cl {ρ : List Addr} {v : V} {u : Value} (h : clV v = true) : @VR τ ρ v u → @VR τ' ρ v u := by
 cases v <;> first | exact id | injection h
theorem AllR_cl {ρ : List Addr} {vs : List V} {us : List Value} (h : vs.all clV = true) (q : @cQ τ ρ vs us) : @cQ τ' ρ vs us :=
 @cQ.ind τ ρ (fun vs us => vs.all clV = true → @cQ τ' ρ vs us) (fun _ => trivial) (fun v vs u us e _ ih h => ⟨VR_cl (aL h) e, ih (aR h)⟩) _ _ q h
theorem OldD_cl {K : Frag} {T : List Addr} {B : Heap} {a : Addr} : ∀ {o : Old}, clO o = true → @OldD τ K T B a o → @OldD τ' K T B a o
 | .tup _, h, ⟨us, n, h1, h2⟩ => ⟨us, n, h1, AllR_cl h h2⟩
 | .lst _, h, ⟨us, n, h1, h2⟩ => ⟨us, n, h1, AllR_cl h h2⟩
 | .fn .., h, e => by
  obtain ⟨od, fd, sl, h1, h2, h3, h4, h5, h6, h7, h8, h9, h10, h11, h12, h13⟩ := e
  exact @FunO.mk τ' _ _ _ _ _ _ _ _ _ _ od fd sl h1 h2 h3 h4 h5 h6 h7 h8 h9 h10 h11 (h12.elim .inl fun ⟨d, us, n, e1, e2, e3⟩ => .inr ⟨d, us, n, e1, e2, AllR_cl h e3⟩) h13
 | .cls .., _, h => h
theorem isTyF_mono {f f' : Nat → Option (List Nat)} (H : ∀ a m, f' a = some m → f a = some m) {t c : V} {b : Bool} (e : isTyF f' t c = some b) : isTyF f t c = some b := by
 cases c with
 | ty d => cases t with
  | ty => exact e
  | old C =>
   refine oB (fun m h1 h2 => ?_) e
   show (f C).bind _ = _
   rw [H _ _ h1]; exact h2
  | _ => exact nos e
 | old D =>
  refine oB (fun m h1 h2 => ?_) e
  show (f D).bind _ = _
  rw [H _ _ h1]
  cases t with
  | ty => exact h2
  | old C =>
   refine oB (fun m h3 h4 => ?_) h2
   show (f C).bind _ = _
   rw [H _ _ h3]; exact h4
  | _ => exact nos h2
 | _ => exact nos e
theorem isTy_sub {g g' : Cx} (h : ∀ a o, lk g'.olds a = some o → lk g.olds a = some o) {t c : V} {b : Bool} (e : isTy g' t c = some b) : isTy g t c = some b := by
 refine isTyF_mono (fun a m e => ?_) e
 refine xvvvp (fun i ms as e => ?_) (mroI_ok e)
 rw [h _ _ e]; rfl
theorem aJ.re {g g' : Cx} {K : Frag} {T : List Addr} {B : Heap} (h : @aJ τ g K T B) (hg : g'.globals = g.globals) (hf : g'.fault = g.fault) (ho : ∀ a o, lk g'.olds a = some o → lk g.olds a = some o ∧ clO o = true)
  (hback : ∀ a ps b sc q ds t, lk g.olds a = some (.fn ps b sc q ds t) → lk g'.olds a = some (.fn ps b sc q ds t)) (hgl : ∀ p ∈ g.globals, clV p.2 = true)
  (hne : ∀ t x, g'.ne t x = true → τ'.tau t ≠ .str x) (horc : ∀ q v, g'.orc q = some v → @OrcD τ' g' q v) : @aJ τ' g' K T B := by
 obtain ⟨kin, ns, nolimit, bmain, sysm, olds, isi, flt, _, _⟩ := h
 refine @aJ.mk τ' g' K T B kin ?_ nolimit bmain sysm (fun a o e => OldD_cl (ho a o e).2 (olds a o (ho a o e).1)) (fun t c b e => isi t c b (isTy_sub (fun a o e => (ho a o e).1) e)) ?_ hne horc
 ·revert ns; refine oQ fun mg mb h1 h2 h3 => ?_
  refine ⟨mg, mb, h1, h2, fun x v e => ?_⟩
  rw [hg] at e
  have hc := hgl _ (look_mem e)
  refine xpp (fun z1 z2 => ?_) (h3 x v e)
  exact ⟨z1, z2.elim (fun ⟨u, e1, e2⟩ => .inl ⟨u, e1, VR_cl hc e2⟩) fun ⟨e0, u, e1, e2⟩ => .inr ⟨e0, u, e1, VR_cl hc e2⟩⟩
 ·have F := flt
  exact ⟨by rw [hf]; exact F.obj, by rw [hf]; exact F.sa, by rw [hf]; exact F.ms, by
   refine xvvvvvpppp (fun i ps b sc q e1 e2 e3 e4 => ?_) (F.ini)
   rw [hf]
   exact ⟨i, ps, b, sc, q, e1, e2, hback _ _ _ _ _ _ _ e3, e4⟩, by rw [hg]; exact F.exn⟩
end
noncomputable def fQ : Tau := ⟨fun _ => .bool true, fun _ => rfl, fun _ _ _ => False, fun _ h => h⟩
noncomputable def gy (q : Bool) (ne : List Nat → Str → Bool) (orc : Qn → Option V) : Cx := ⟨gGl, gOlds, gFault, q, ne, orc⟩
theorem gGl_cl : (gGl.all fun p => clV p.2) = true := by kernel_rfl
theorem gOk_cl : (gOk.all fun p => match p.2 with | .fn _ _ _ ds _ => ds.all clV | .tup xs => xs.all clV | _ => true) = true := by kernel_rfl
theorem gOlds_cl {a : Nat} {o : Old} (e : lk gOlds a = some o) : clO o = true := by
 unfold gOlds at e
 refine aQ (fun x h1 q1 => ?_) (@lk_map fQ _ _ _ _ _ _ e); clear e; subst q1
 have := List.all_eq_true.mp gOk_cl _ h1
 cases x with
 | fn i j q ds t =>
  show clO (oldFn (defO i j) q ds t) = true
  cases defO i j with
  | some => exact this
  | none => rfl
 | cls => rfl
 | tup xs => exact this
theorem lk_left' : ∀ {l m : List (Nat × Old)} {a : Nat} {o : Old}, lk l a = some o → lk (l ++ m) a = some o
 | [], _, _, _, h => by injection h
 | (k, v) :: l, m, a, o, h => by
  have h : (if Nat.beq k a then some v else lk l a) = some o := h
  show (if Nat.beq k a then some v else lk (l ++ m) a) = some o
  by_cases q : Nat.beq k a = true
  ·rw [if_pos q] at h ⊢; exact h
  ·rw [if_neg q] at h ⊢; exact lk_left' h
section
variable {τ τ' : Tau} {K : Frag} {T : List Addr} {B : Heap} {q q' : Bool} {ne ne' : List Nat → Str → Bool} {orc orc' : Qn → Option V}
theorem aJ.xy {xs : List V} (h : @aJ τ (gx xs q ne orc) K T B) (hne : ∀ t x, ne' t x = true → τ'.tau t ≠ .str x) (horc : ∀ z v, orc' z = some v → @OrcD τ' (gy q' ne' orc') z v) : @aJ τ' (gy q' ne' orc') K T B :=
 aJ.re h rfl rfl (fun a o e => ⟨lk_left' e, gOlds_cl e⟩) (fun a ps b sc q ds t e => by
  refine orE (fun e => ?_) (fun e => ?_) (@lk_app fQ _ _ _ _ _ e)
  ·exact e
  ·have e : (if Nat.beq dJ a then some (Old.lst xs) else none) = some (.fn ps b sc q ds t) := e
   split at e <;> cases e) (fun p hp => List.all_eq_true.mp gGl_cl p hp) hne horc
theorem aJ.yy (h : @aJ τ (gy q ne orc) K T B) (hne : ∀ t x, ne' t x = true → τ'.tau t ≠ .str x) (horc : ∀ z v, orc' z = some v → @OrcD τ' (gy q' ne' orc') z v) : @aJ τ' (gy q' ne' orc') K T B :=
 aJ.re h rfl rfl (fun a o e => ⟨e, gOlds_cl e⟩) (fun a ps b sc q ds t e => e) (fun p hp => List.all_eq_true.mp gGl_cl p hp) hne horc
end
section
variable {P : Program} {w : World} {K : Frag} {T : List Addr} {n : Nat} {l : List Env} {A : Around} {X : Wl} {σ σ' : St} {s : Shared} {τ τ' : Tau} {g g' : Cx} {f f' : Fr} {env : Env}
noncomputable def mQ (s : Shared) (muts ρ : List Addr) : Wl := ⟨hideAll s.heap muts, ρ, [], s.gens, s.os⟩
theorem small_rel {os : List O} {ρ muts : List Addr} (hl : ρ.length = os.length) (hz : os.length ≤ 4000)
  (obj : ∀ (i : Nat) (o : O), os[i]? = some o → o ≠ .junk → ∃ a ob, ρ[i]? = some a ∧ s.heap.get? a = some ob ∧ @pQ τ' P w (mQ s muts ρ) ob o)
  (mt : ∀ (i : Nat) (o : O) (a : Addr), os[i]? = some o → o.mut = true → ρ[i]? = some a → a ∈ muts)
  (nd : ∀ (i j : Nat) (o o' : O) (a : Addr), os[i]? = some o → os[j]? = some o' → o.mut = true → o' ≠ .junk → ρ[i]? = some a → ρ[j]? = some a → i = j)
  (sys : ∀ (i : Nat) (o : O) (a : Addr), os[i]? = some (.ro o) → ρ[i]? = some a → a ≠ sysModules) : @Rel τ' P w (mQ s muts ρ) (oS os) s := by
 have hz' : os.length ≤ 4096 := by omega
 have hg := fun i => nQ hz' i
 refine @Rel.mk τ' P w _ _ s (fun b o e => of_hideAll _ e) (fun i o a e hm ha => ?_) (fun i j o o' a e e' hm hj ha ha' => ?_) ?_ ?_ (fun i o e hj => ?_) (fun i hi => ?_) (fun k hk => by cases hk) rfl rfl (fun i o a e ha => ?_)
 ·rw [hg] at e
  exact hideAll_none _ (mt i o a e hm ha)
 ·rw [hg] at e e'
  exact nd i j o o' a e e' hm hj ha ha'
 ·rw [sQ hz']; exact hl
 ·rw [sQ hz']; exact hz'
 ·rw [hg] at e
  exact obj i o e hj
 ·rw [hg]
  rw [sQ hz'] at hi
  rw [List.getElem?_eq_getElem hi]; rfl
 ·rw [hg] at e
  exact sys i o a e ha
theorem Sit.small (S : @Sit τ P w g K T n l A X σ s) {os : List O} {ρ muts : List Addr} (hq : g'.quiet = true) (hT : T <+: ρ) (hc : @aJ τ' g' K T X.B) (hm : ∀ a ∈ muts, X.B.get? a = none) (R : @Rel τ' P w (mQ s muts ρ) (oS os) s) : @Sit τ' P w g' K T n l A (mQ s muts ρ) (oS os) s := by
 obtain ⟨aok, _, _, _, rel⟩ := S
 exact @Sit.mk τ' P w g' K T n l A _ _ s aok (fun q => by rw [hq] at q; injection q) (@aJ.keeps τ' _ _ _ _ _ hc fun b o e => hideAll_get _ (@Rel.keep τ _ _ _ _ _ rel b o e) fun hb => by rw [hm b hb] at e; injection e) hT R
noncomputable def Gc.fr (G : Gc) (f : Fr) : Option Fr := (idxN G.e f.loc).bind fun i => (G.cl f.cells).bind fun c => (G.tab f.tab).bind fun t => some ⟨i, f.scope, c, f.qual, t⟩
noncomputable def preN : Nat → List Nat → Bool
 | _, [] => true
 | i, a :: l => bif Nat.beq i a then preN (i + 1) l else false
theorem preN_ok : ∀ {l : List Nat} {i j a : Nat}, preN i l = true → l[j]? = some a → a = i + j
 | [], _, _, _, _, h => by injection h
 | b :: l, i, j, a, h, e => by
  unfold preN at h
  refine bE (Nat.beq i b) (fun q => ?_) (fun q => ?_)
  ·rw [q] at h; injection h
  ·
   rw [q, cond_true] at h
   have hb := nE q
   cases j with
   | zero => injection e with q1; subst q1; omega
   | succ j =>
    have := preN_ok h (by simpa using e)
    omega
theorem gc_tabs {G : Gc} {fr : List Nat} (hX : ∀ n ∈ G.e, n < X.ρ.length) (hT : T <+: X.ρ) (hp : preN 0 (G.e.take T.length) = true) (hl : T.length ≤ G.e.length) : T <+: (X.gc G fr).ρ := by
 refine List.prefix_iff_eq_take.mpr (List.ext_getElem? fun i => ?_)
 by_cases hi : i < T.length
 ·have hi' : i < G.e.length := by omega
  have he : G.e[i]? = some G.e[i] := List.getElem?_eq_getElem hi'
  have h1 : (G.e.take T.length)[i]? = some G.e[i] := by rw [List.getElem?_take, if_pos hi]; exact he
  have h2 := preN_ok hp h1
  rw [List.getElem?_take, if_pos hi, Wl.gc_get hX he]
  rw [h2, Nat.zero_add]
  revert hT; refine xvp fun r hr => ?_
  rw [← hr, List.getElem?_append_left hi]
 ·rw [List.getElem?_eq_none_iff.mpr (by omega), List.getElem?_eq_none_iff.mpr (by rw [List.length_take]; omega)]
theorem bQ.gc {G : Gc} {fr : List Nat} (hX : ∀ n ∈ G.e, n < X.ρ.length) (e : @bQ l X f env) (h : G.fr f = some f') : @bQ l (X.gc G fr) f' env := by
 revert h; refine oB fun i hi h => ?_
 revert h; refine oB fun c hc h => ?_
 revert h; refine oB fun t ht h => ?_
 injection h with q1; subst q1
 refine ⟨e.frm, e.scope, e.kind, by rw [Wl.gc_get hX (idxN_get hi)]; exact e.loc, e.glob, e.blt, gc_cells hX e.cells hc, e.qual, fun k hk => ?_⟩
 refine xvpvpp (fun Pp e2 c e1 e3 => ?_) (gc_tab (fr := fr) hX ht (p := fun Pp => ∃ c, env.code = .ref c ∧ CodeHd X.B c Pp) (fun j hf => let ⟨c, Pp, e1, e2, e3⟩ := e.tab j hf; ⟨Pp, e2, c, e1, e3⟩) k hk)
 exact ⟨c, Pp, e1, e2, e3⟩
theorem FrR.gc {G : Gc} {fr : List Nat} (hX : ∀ n ∈ G.e, n < X.ρ.length) (h : FrR X l) (hf : X.fr.all (fun k => fr.any fun i => G.e[i]? == some k) = true) : FrR (X.gc G fr) l := fun env he => by
 refine xpvvppp (fun h1 L k h2 h3 h4 => ?_) (h env he)
 refine aQ (fun i hi e => ?_) (List.any_eq_true.mp (List.all_eq_true.mp hf k h3))
 exact ⟨h1, L, i, h2, hi, by rw [Wl.gc_get hX (eq_of_beq e)]; exact h4⟩
theorem Sit.gc {G : Gc} {fr : List Nat} (S : @Sit τ P w g K T n l A X σ s) (h : G.st σ = some σ') (htm : TmOk τ τ' G.tm) (hov : OvOk P w τ τ' X σ G.ov) (hfr : ∀ k ∈ fr, ∃ m, σ'.get k = some (.ns m))
  (hp : preN 0 (G.e.take T.length) = true) (hl : T.length ≤ G.e.length) (hf : g'.quiet = false → FrR X l ∧ X.fr.all (fun k => fr.any fun i => G.e[i]? == some k) = true) (hc : @aJ τ' g' K T X.B) : @Sit τ' P w g' K T n l A (X.gc G fr) σ' s := by
 obtain ⟨aok, _, cx, tabs, rel⟩ := S
 have hX : ∀ n ∈ G.e, n < X.ρ.length := fun n hn => by rw [@Rel.len τ _ _ _ _ _ rel]; exact (Gc.st_some h).2.1 n hn
 exact @Sit.mk τ' P w g' K T n l A _ _ s aok (fun q => FrR.gc hX (hf q).1 (hf q).2) hc (gc_tabs hX tabs hp hl) (Rel.gc rel h htm hov (@aJ.sysm τ _ _ _ _ cx) hfr)
end
noncomputable def vEq (a b : V) : Bool := match a with
 | .none => (match b with | .none => true | _ => false)
 | .any => (match b with | .any => true | _ => false)
 | .bool x => (match b with | .bool y => x == y | _ => false)
 | .int x => (match b with | .int y => decide (x = y) | _ => false)
 | .str x => (match b with | .str y => eqS x y | _ => false)
 | .new x => (match b with | .new y => Nat.beq x y | _ => false)
 | .sym x => (match b with | .sym y => eqL0 x y | _ => false)
 | _ => false
theorem kZ {a b : V} (h : vEq a b = true) : a = b := by
 cases a with
 | none => cases b <;> first | rfl | exact Bool.noConfusion h
 | any => cases b <;> first | rfl | exact Bool.noConfusion h
 | bool x => cases b <;> first | exact congrArg _ (eq_of_beq h) | exact Bool.noConfusion h
 | int x => cases b <;> first | exact congrArg _ (of_decide_eq_true h) | exact Bool.noConfusion h
 | str x => cases b <;> first | exact congrArg _ (eI.mp h) | exact Bool.noConfusion h
 | new x => cases b <;> first | exact congrArg _ (nE h) | exact Bool.noConfusion h
 | sym x => cases b <;> first | exact congrArg _ (rJ.mp h) | exact Bool.noConfusion h
 | _ => exact Bool.noConfusion h
noncomputable def vsEq (l r : List V) : Bool := match l with
 | [] => (match r with | [] => true | _ :: _ => false)
 | a :: l => (match r with | [] => false | b :: r => vEq a b && vsEq l r)
theorem vsEq_ok : ∀ {l r : List V}, vsEq l r = true → l = r
 | [], [], _ => rfl
 | [], _ :: _, h => Bool.noConfusion h
 | _ :: _, [], h => Bool.noConfusion h
 | _ :: _, _ :: _, h => congr (congrArg List.cons (kZ (aL h))) (vsEq_ok (aR h))
noncomputable def mEq (l r : List (Str × V)) : Bool := match l with
 | [] => (match r with | [] => true | _ :: _ => false)
 | p :: l => (match r with | [] => false | q :: r => bif eqS p.1 q.1 && vEq p.2 q.2 then mEq l r else false)
theorem bif_t {a b : Bool} (h : (bif a then b else false) = true) : a = true ∧ b = true := by
 cases a with
 | false => exact Bool.noConfusion h
 | true => exact ⟨rfl, h⟩
theorem mEq_ok {l : List (Str × V)} : ∀ {r : List (Str × V)}, mEq l r = true → l = r := by
 induction l with
 | nil =>
  intro r h
  cases r with
  | nil => rfl
  | cons => exact Bool.noConfusion h
 | cons x l ih =>
  intro r h
  cases r with
  | nil => exact Bool.noConfusion h
  | cons y r => exact congr (congrArg List.cons (Prod.ext (eI.mp (aL (bif_t h).1)) (kZ (aR (bif_t h).1)))) (ih (bif_t h).2)
noncomputable def symT (k : Nat) (t : List Nat) : Option Nat := match t with
 | [] => none
 | a :: t => (match t with
  | [] => none
  | i :: t => (match t with
   | [] => bif Nat.beq a k then some i else none
   | _ :: _ => none))
noncomputable def symI (k : Nat) (v : V) : Option Nat := match v with
 | .sym t => symT k t
 | _ => none
theorem symT_ok {k : Nat} {t : List Nat} {i : Nat} (h : symT k t = some i) : t = [k, i] := by
 cases t with
 | nil => injection h
 | cons a t => cases t with
  | nil => injection h
  | cons j t => cases t with
   | cons => injection h
   | nil =>
    refine iF (fun h1 h2 => ?_) h
    rw [nE h1, h2]
theorem symI_ok {k : Nat} {v : V} {i : Nat} (h : symI k v = some i) : v = .sym [k, i] := by
 cases v <;> first | exact nos h | exact congrArg V.sym (symT_ok h)
noncomputable def qEq (a b : Qn) : Bool := match a with
 | .bin o x y => (match b with | .bin o' x' y' => decide (o = o') && (vEq x x' && vEq y y') | _ => false)
 | .cmp o x y => (match b with | .cmp o' x' y' => decide (o = o') && (vEq x x' && vEq y y') | _ => false)
 | .max x y => (match b with | .max x' y' => vEq x x' && vEq y y' | _ => false)
 | _ => false
theorem qEq_ok {a b : Qn} (h : qEq a b = true) : a = b := by
 cases a with
 | bin o x y => cases b with
  | bin o' x' y' => rw [of_decide_eq_true (aL h), kZ (aL (aR h)), kZ (aR (aR h))]
  | _ => exact Bool.noConfusion h
 | cmp o x y => cases b with
  | cmp o' x' y' => rw [of_decide_eq_true (aL h), kZ (aL (aR h)), kZ (aR (aR h))]
  | _ => exact Bool.noConfusion h
 | max x y => cases b with
  | max x' y' => rw [kZ (aL h), kZ (aR h)]
  | _ => exact Bool.noConfusion h
 | _ => exact Bool.noConfusion h
noncomputable def lkQ (l : List (Qn × V)) (q : Qn) : Option V := match l with
 | [] => none
 | p :: l => bif qEq p.1 q then some p.2 else lkQ l q
noncomputable def AllQ (p : Qn → V → Prop) : List (Qn × V) → Prop
 | [] => True
 | x :: l => p x.1 x.2 ∧ AllQ p l
theorem lkQ_all {p : Qn → V → Prop} {l : List (Qn × V)} : AllQ p l → ∀ {q : Qn} {v : V}, lkQ l q = some v → p q v := by
 induction l with
 | nil => intro _ q v h; injection h
 | cons x l ih =>
  intro a q v h
  have h : (bif qEq x.1 q then some x.2 else lkQ l q) = some v := h
  refine nJ (qEq x.1 q) (fun z => ?_) (fun z => ?_)
  ·rw [z] at h; injection h with q1; subst q1; rw [← qEq_ok z]; exact a.1
  ·rw [z] at h; exact ih a.2 h
noncomputable def isOld (f : Nat) (v : V) : Bool := match v with
 | .old a => Nat.beq a f
 | _ => false
theorem isOld_ok {f : Nat} {v : V} (h : isOld f v = true) : v = .old f := by
 cases v <;> first | exact congrArg V.old (nE h) | exact Bool.noConfusion h
noncomputable def headI (k : Nat) (vs : List V) : Option (Nat × List V) := match vs with
 | [] => none
 | v :: vs => (symI k v).bind fun i => some (i, vs)
theorem headI_ok {k : Nat} {vs : List V} {p : Nat × List V} (h : headI k vs = some p) : vs = .sym [k, p.1] :: p.2 := by
 cases vs with
 | nil => injection h
 | cons v vs =>
  refine oB (fun i h1 h2 => ?_) h
  injection h2 with q1; subst q1
  exact congrArg (· :: vs) (symI_ok h1)
noncomputable def headN (vs : List V) : Option (Nat × List V) := match vs with
 | [] => none
 | v :: vs => (newI v).bind fun i => some (i, vs)
theorem headN_ok {vs : List V} {p : Nat × List V} (h : headN vs = some p) : vs = .new p.1 :: p.2 := by
 cases vs with
 | nil => injection h
 | cons v vs =>
  refine oB (fun i h1 h2 => ?_) h
  injection h2 with q1; subst q1
  exact congrArg (· :: vs) (iZ h1)
noncomputable def twoN (vs : List V) : Option (Nat × Nat) := (headN vs).bind fun p => (headN p.2).bind fun q => bif nilB q.2 then some (p.1, q.1) else none
theorem twoN_ok {vs : List V} {p : Nat × Nat} (h : twoN vs = some p) : vs = [.new p.1, .new p.2] := by
 revert h; refine oB fun a h1 h => ?_
 revert h; refine oB fun b h2 h => ?_
 refine iF (fun h3 q1 => ?_) h; subst q1
 rw [headN_ok h1, headN_ok h2, yQ h3]
noncomputable def threeN (vs : List V) : Option (Nat × Nat × Nat) := (headN vs).bind fun p => (twoN p.2).bind fun q => some (p.1, q)
theorem threeN_ok {vs : List V} {p : Nat × Nat × Nat} (h : threeN vs = some p) : vs = [.new p.1, .new p.2.1, .new p.2.2] := by
 revert h; refine oB fun a h1 h => ?_
 revert h; refine oB fun b h2 h => ?_
 injection h with q1; subst q1
 rw [headN_ok h1, twoN_ok h2]
noncomputable def isAt (m : List (Str × V)) (o : Option O) : Bool := sJ (atI o) fun m' => mEq m' m
theorem isAt_ok {m : List (Str × V)} {o : Option O} (h : isAt m o = true) : o = some (.at m) := by
 refine iI (fun a h1 h2 => ?_) h
 rw [atI_ok h1, mEq_ok h2]
noncomputable def isDict (m : List (Str × V)) (o : Option O) : Bool := sJ (dictI o) fun m' => mEq m' m
theorem isDict_ok {m : List (Str × V)} {o : Option O} (h : isDict m o = true) : o = some (.dict m) := by
 refine iI (fun a h1 h2 => ?_) h
 rw [dictI_ok h1, mEq_ok h2]
noncomputable def isRoDict (m : List (Str × V)) (o : Option O) : Bool := sJ (roI o) fun x => isDict m (some x)
theorem isRoDict_ok {m : List (Str × V)} {o : Option O} (h : isRoDict m o = true) : o = some (.ro (.dict m)) := by
 refine iI (fun a h1 h2 => ?_) h
 rw [roI_ok h1, Option.some.inj (isDict_ok h2)]
noncomputable def isTup (xs : List V) (o : Option O) : Bool := sJ (tupI o) fun ys => vsEq ys xs
theorem isTup_ok {xs : List V} {o : Option O} (h : isTup xs o = true) : o = some (.tup xs) := by
 refine iI (fun a h1 h2 => ?_) h
 rw [tupI_ok h1, vsEq_ok h2]
noncomputable def isInst (C d : Nat) (o : Option O) : Bool := sJ (instI C o) fun e => Nat.beq e d
theorem isInst_ok {C d : Nat} {o : Option O} (h : isInst C d o = true) : o = some (.inst C d) := by
 refine iI (fun a h1 h2 => ?_) h
 rw [instI_ok h1, nE h2]
noncomputable def valAt (m : List (Str × V)) (i : Nat) : Option V := m[i]?.bind fun p => some p.2
noncomputable def newAt (m : List (Str × V)) (i : Nat) : Option Nat := (valAt m i).bind newI
noncomputable def intAt (m : List (Str × V)) (i : Nat) : Option Int := (valAt m i).bind intI
noncomputable def pairI (k : Nat) (o : Option O) : Option Nat := (tupI o).bind fun xs => (headI k xs).bind fun p => bif vsEq p.2 [.int 1] then some p.1 else none
theorem pairI_ok {k i : Nat} {o : Option O} (h : pairI k o = some i) : o = some (.tup [.sym [k, i], .int 1]) := by
 revert h; refine oB fun xs h1 h => ?_
 revert h; refine oB fun p h2 h => ?_
 refine iF (fun h3 q1 => ?_) h; subst q1
 rw [tupI_ok h1, headI_ok h2, vsEq_ok h3]
noncomputable def mkK (k : Nat) (o : Option O) : Option Nat := (mkI o).bind (symT k)
theorem mkK_ok {k i : Nat} {o : Option O} (h : mkK k o = some i) : o = some (.mk [k, i]) := by
 revert h; refine oB fun t h1 h => ?_
 rw [mkI_ok h1, symT_ok h]
@[reducible] noncomputable def tauOf (f : List Nat → V) (mk : List Nat → Heap → Obj → Prop := fun _ _ _ => False) (mono : ∀ {t : List Nat} {B B' : Heap} {ob : Obj}, (∀ b o, B.get? b = some o → B'.get? b = some o) → mk t B ob → mk t B' ob) : Tau :=
 ⟨fun t => bif isSc (f t) then f t else .bool true, fun t => by
  show isSc (bif isSc (f t) then f t else .bool true) = true
  refine cZ (isSc (f t)) (fun h => ?_) (fun h => ?_)
  ·rw [cond_true]; exact h
  ·rfl, mk, mono⟩
section
variable {P : Program} {w : World} {g g' : Cx} {K : Frag} {T : List Addr} {n m : Nat} {l : List Env} {A : Around} {X Y : Wl} {σ σ' : St} {s s' : Shared} {E : Value → Shared → Prop}
theorem AOk.down (h : AOk A l m) (hn : n ≤ m) : AOk A l n := ⟨h.hand, h.frames, by have := h.depth; omega, by have := h.units; omega⟩
theorem Sit.down [Tau] (S : Sit P w g K T m l A X σ s) (hn : n ≤ m) : Sit P w g K T n l A X σ s := ⟨S.a.down hn, S.fr, S.cx, S.tabs, S.rel⟩
theorem tJ [Tau] {os : List O} {ρ muts : List Addr} {fv : V} {vs : List V} {u : Value} {us : List Value} {r : V} (hr : (rcs g n).call fv vs (oS os) = .ok r σ') (S : Sit P w g K T n l A (mQ s muts ρ) (oS os) s) (hf : VR ρ fv u) (hv : cQ ρ vs us)
  {Q : Value → Shared → Prop} (q : ∀ Y s' v, (mQ s muts ρ).Le Y → Rel P w Y σ' s' → VR Y.ρ r v → Q v s') : wpAny (model P w) A (PySem.call u us) Q E s :=
 (snd P w g K T n).call S hf hv (by rw [hr]; exact q)
theorem mJ [Tau] {ρ muts : List Addr} (h : (mQ s muts ρ).Le Y) (R : Rel P w Y σ' s') : ∀ b, b ∉ muts → ∀ o, s.heap.get? b = some o → s'.heap.get? b = some o := fun b hb o e => R.keep b o (h.b b o (hideAll_get _ e hb))
end
theorem cJ {τ : Tau} {ρ : List Addr} {t : List Nat} {i : Int} {u : Value} (h : τ.tau t = V.int i) : @VR τ ρ (.sym t) u ↔ ∃ k, u = Value.int i k := by
 show ScR (τ.tau t) u ↔ _
 rw [h]; rfl
theorem VR_symS {τ : Tau} {ρ : List Addr} {t : List Nat} {x : Str} {u : Value} (h : τ.tau t = V.str x) : @VR τ ρ (.sym t) u ↔ ∃ k, u = Value.str x k := by
 show ScR (τ.tau t) u ↔ _
 rw [h]; rfl
theorem tok5 : gT.length = 5 := rfl
noncomputable abbrev uQ : List O := [.junk, .junk, .junk, .junk, .junk]
noncomputable def takeS (a b : Int) (t : Nat) : (Int × Int) × Int :=
 if 0 < a then ((Int.fdiv a t, b), Int.fmod a t)
 else ((a, Int.fmod (b * 39373 + 7) 2147483647), Int.fmod (Int.fdiv (Int.fmod (Int.fmod (b * 39373 + 7) 2147483647 * Int.fmod (b * 39373 + 7) 2147483647) 2147483629) 32) t)
noncomputable def takeL (a b : Int) (t : Nat) : List V := [.int a, .int b, .int t, .int (Int.fmod a t), .int (Int.fdiv a t), .int (b * 39373), .int (b * 39373 + 7), .int (Int.fmod (b * 39373 + 7) 2147483647), .int (Int.fmod (b * 39373 + 7) 2147483647 * Int.fmod (b * 39373 + 7) 2147483647),
 .int (Int.fmod (Int.fmod (b * 39373 + 7) 2147483647 * Int.fmod (b * 39373 + 7) 2147483647) 2147483629), .int (Int.fdiv (Int.fmod (Int.fmod (b * 39373 + 7) 2147483647 * Int.fmod (b * 39373 + 7) 2147483647) 2147483629) 32), .int (Int.fmod (Int.fdiv (Int.fmod (Int.fmod (b * 39373 + 7) 2147483647 * Int.fmod (b * 39373 + 7) 2147483647) 2147483629) 32) t)]
noncomputable def takeT (a b : Int) (t : Nat) (l : List Nat) : V := match l with
 | [] => .bool true
 | i :: _ => (takeL a b t).getD i (.bool true)
@[reducible] noncomputable def takeτ (a b : Int) (t : Nat) : Tau := tauOf (takeT a b t) (mono := fun _ h => h)
noncomputable def takeQ (c : Bool) : List (Qn × V) := [(.cmp .Gt (.sym [0]) (.int 0), .bool c), (.bin .Mod (.sym [0]) (.sym [2]), .sym [3]), (.bin .FloorDiv (.sym [0]) (.sym [2]), .sym [4]), (.bin .Mult (.sym [1]) (.int 39373), .sym [5]), (.bin .Add (.sym [5]) (.int 7), .sym [6]),
 (.bin .Mod (.sym [6]) (.int 2147483647), .sym [7]), (.bin .Mult (.sym [7]) (.sym [7]), .sym [8]), (.bin .Mod (.sym [8]) (.int 2147483629), .sym [9]), (.bin .FloorDiv (.sym [9]) (.int 32), .sym [10]), (.bin .Mod (.sym [10]) (.sym [2]), .sym [11])]
noncomputable def takeO (c : Bool) : Qn → Option V := lkQ (takeQ c)
noncomputable abbrev noNe : List Nat → Str → Bool := fun _ _ => false
noncomputable def takeG (c : Bool) : Cx := gy true noNe (takeO c)
noncomputable def takeRes : Res V → Option (V × Option O)
 | .ok v σ => some (v, σ.get 5)
 | _ => none
theorem take_run_t : takeRes ((rcs (takeG true) 20).call (.old 1235) [.new 5, .sym [2]] (oS (uQ ++ [.list [.sym [0], .sym [1]]]))) = some (.sym [3], some (.list [.sym [4], .sym [1]])) := by kernel_rfl
theorem take_run_f : takeRes ((rcs (takeG false) 20).call (.old 1235) [.new 5, .sym [2]] (oS (uQ ++ [.list [.sym [0], .sym [1]]]))) = some (.sym [11], some (.list [.sym [0], .sym [7]])) := by kernel_rfl
theorem fmod_bounds {a : Int} {t : Int} (h : 0 < t) : 0 ≤ Int.fmod a t ∧ Int.fmod a t < t := ⟨Int.fmod_nonneg_of_pos _ h, Int.fmod_lt_of_pos _ h⟩
theorem take_orc {a b : Int} {t : Nat} (ht : 0 < t) (ht' : t < 1000) {c : Bool} (hc : c = decide (0 < a)) : ∀ z v, takeO c z = some v → @OrcD (takeτ a b t) (takeG c) z v := by
 have hl : Nat.blt (t : Int).natAbs.log2 9000 = true := by
  refine bI.mpr ?_
  have : (t : Int).natAbs = t := by omega
  rw [this]
  exact Nat.lt_of_le_of_lt (Nat.log2_le_self t) (by omega)
 have h0 : ((t : Int) == 0) = false := by
  refine qJ ((t : Int) == 0) (fun q => ?_) (fun q => ?_)
  ·rfl
  ·have := eq_of_beq q; omega
 have one : ∀ {op : Operator} {x y r₀ r : V}, (∀ σ, binV σ op (@dn (takeτ a b t) x) (@dn (takeτ a b t) y) = .ok r₀ σ) → (∀ ρ u, @VR (takeτ a b t) ρ r₀ u → @VR (takeτ a b t) ρ r u) → @OrcD (takeτ a b t) (takeG c) (.bin op x y) r := fun h1 h2 σ => ⟨_, h1 σ, h2⟩
 intro z v hz
 refine lkQ_all (l := takeQ c) ⟨⟨c, rfl, fun σ => by subst hc; rfl⟩, one (r₀ := .int (Int.fmod a t)) (fun σ => ?_) (fun ρ u h => h), one (r₀ := .int (Int.fdiv a t)) (fun σ => ?_) (fun ρ u h => h), one (r₀ := .int (b * 39373)) (fun σ => ?_) (fun ρ u h => h), fun σ => ⟨_, rfl, fun ρ u h => h⟩, fun σ => ⟨_, rfl, fun ρ u h => h⟩,
  one (r₀ := .int (Int.fmod (b * 39373 + 7) 2147483647 * Int.fmod (b * 39373 + 7) 2147483647)) (fun σ => ?_) (fun ρ u h => h), fun σ => ⟨_, rfl, fun ρ u h => h⟩, fun σ => ⟨_, rfl, fun ρ u h => h⟩, one (r₀ := .int (Int.fmod (Int.fdiv (Int.fmod (Int.fmod (b * 39373 + 7) 2147483647 * Int.fmod (b * 39373 + 7) 2147483647) 2147483629) 32) t)) (fun σ => ?_) (fun ρ u h => h), trivial⟩ hz
 ·show (bif (t : Int) == 0 then Res.stop "mod" else Res.ok (V.int (Int.fmod a t)) σ) = _
  rw [h0]; rfl
 ·show (bif (t : Int) == 0 then Res.stop "div" else bif Nat.blt (t : Int).natAbs.log2 9000 then Res.ok (V.int (Int.fdiv a t)) σ else Res.stop "div") = _
  rw [h0, hl]; rfl
 ·show (bif Nat.blt b.natAbs 4294967296 || Nat.blt (39373 : Int).natAbs 4294967296 then Res.ok (V.int (b * 39373)) σ else Res.stop "mult") = _
  rw [show Nat.blt (39373 : Int).natAbs 4294967296 = true from rfl, Bool.or_true]; rfl
 ·have hb := fmod_bounds (a := b * 39373 + 7) (t := 2147483647) (by omega)
  show (bif Nat.blt (Int.fmod (b * 39373 + 7) 2147483647).natAbs 4294967296 || Nat.blt (Int.fmod (b * 39373 + 7) 2147483647).natAbs 4294967296 then Res.ok (V.int (Int.fmod (b * 39373 + 7) 2147483647 * Int.fmod (b * 39373 + 7) 2147483647)) σ else Res.stop "mult") = _
  rw [show Nat.blt (Int.fmod (b * 39373 + 7) 2147483647).natAbs 4294967296 = true from bI.mpr (by omega)]; rfl
 ·show (bif (t : Int) == 0 then Res.stop "mod" else Res.ok (V.int (Int.fmod _ t)) σ) = _
  rw [h0]; rfl
section
variable {P : Program} {w : World} {K : Frag} {n m : Nat} {l : List Env} {A : Around} {X : Wl} {σ : St} {s : Shared} {τ τ' : Tau} {g g' : Cx}
noncomputable def ObjsD (P : Program) (w : World) (τ' : Tau) (X : Wl) (s : Shared) (muts : List Addr) : List O → List Addr → Prop
 | [], [] => True
 | o :: os, a :: as => (o ≠ .junk → ∃ ob, s.heap.get? a = some ob ∧ @pQ τ' P w X ob o) ∧ (o.mut = true → a ∈ muts) ∧ (∀ z, o = .ro z → a ≠ sysModules) ∧ ObjsD P w τ' X s muts os as
 | _, _ => False
theorem ObjsD.len {muts : List Addr} {os : List O} : ∀ {as : List Addr}, ObjsD P w τ' X s muts os as → as.length = os.length := by
 induction os with
 | nil =>
  intro as h
  cases as with
  | nil => rfl
  | cons => exact h.elim
 | cons o os ih =>
  intro as h
  cases as with
  | nil => exact h.elim
  | cons a as => exact congrArg (· + 1) (ih h.2.2.2)
theorem ObjsD.get {muts : List Addr} {os : List O} : ∀ {as : List Addr}, ObjsD P w τ' X s muts os as → ∀ {i : Nat} {o : O}, os[i]? = some o → ∃ a, as[i]? = some a ∧ (o ≠ .junk → ∃ ob, s.heap.get? a = some ob ∧ @pQ τ' P w X ob o) ∧ (o.mut = true → a ∈ muts) ∧ (∀ z, o = .ro z → a ≠ sysModules) := by
 induction os with
 | nil => intro as _ i o e; injection e
 | cons o os ih =>
  intro as h i o' e
  cases as with
  | nil => exact h.elim
  | cons a as => cases i with
   | zero => injection e with q1; subst q1; exact ⟨a, rfl, h.1, h.2.1, h.2.2.1⟩
   | succ i => exact ih h.2.2.2 (i := i) e
theorem junk5_get {os : List O} {i : Nat} {o : O} (h : (uQ ++ os)[i]? = some o) : o = .junk ∨ ∃ j, i = 5 + j ∧ os[j]? = some o := by
 match i with
 | 0 => injection h with q1; subst q1; exact .inl rfl
 | 1 => injection h with q1; subst q1; exact .inl rfl
 | 2 => injection h with q1; subst q1; exact .inl rfl
 | 3 => injection h with q1; subst q1; exact .inl rfl
 | 4 => injection h with q1; subst q1; exact .inl rfl
 | j + 5 => exact .inr ⟨j, Nat.add_comm _ _, h⟩
theorem yJ {ρ : List Addr} {j : Nat} : (gT ++ ρ)[5 + j]? = ρ[j]? := by
 rw [Nat.add_comm]; rfl
theorem small5 (S : @Sit τ P w g K gT n l A X σ s) {os : List O} {ρ muts : List Addr} (hz : os.length ≤ 3000) (hO : ObjsD P w τ' (mQ s muts (gT ++ ρ)) s muts os ρ) (hq : g'.quiet = true) (hc : @aJ τ' g' K gT X.B) (hm : ∀ a ∈ muts, X.B.get? a = none)
  (nd : ∀ (i j : Nat) (o o' : O) (a : Addr), os[i]? = some o → os[j]? = some o' → o.mut = true → o' ≠ .junk → ρ[i]? = some a → ρ[j]? = some a → i = j) : @Sit τ' P w g' K gT n l A (mQ s muts (gT ++ ρ)) (oS (uQ ++ os)) s := by
 refine Sit.small S hq (List.prefix_append _ _) hc hm (small_rel ?_ ?_ ?_ ?_ ?_ ?_)
 ·rw [List.length_append, List.length_append, hO.len]; rfl
 ·rw [List.length_append]; show 5 + _ ≤ _; omega
 ·intro i o e hj
  rcases junk5_get e with rfl | ⟨j, rfl, e2⟩
  ·exact (hj rfl).elim
  ·refine xvppd (fun a ha h1 => ?_) (hO.get e2)
   refine aQ (fun ob h2 h3 => ?_) (h1 hj)
   exact ⟨a, ob, yJ.trans ha, h2, h3⟩
 ·intro i o a e hj ha
  rcases junk5_get e with rfl | ⟨j, rfl, e2⟩
  ·injection hj
  ·refine xvpdpd (fun b hb h1 => ?_) (hO.get e2)
   rw [yJ, hb] at ha; injection ha with q1; subst q1
   exact h1 hj
 ·intro i j o o' a e e' hj hj' ha ha'
  rcases junk5_get e with rfl | ⟨i, rfl, e2⟩
  ·injection hj
  ·rcases junk5_get e' with rfl | ⟨j, rfl, e3⟩
   ·exact (hj' rfl).elim
   ·rw [yJ] at ha ha'
    rw [nd i j o o' a e2 e3 hj hj' ha ha']
 ·intro i o a e ha
  rcases junk5_get e with h | ⟨j, rfl, e2⟩
  ·injection h
  ·refine xvpddp (fun b hb h1 => ?_) (hO.get e2)
   rw [yJ, hb] at ha; injection ha with q1; subst q1
   exact h1 o rfl
end
noncomputable def src (a b : Int) : List Nat → Int × Int
 | [] => (a, b)
 | t :: ts => (takeS (src a b ts).1 (src a b ts).2 t).1
noncomputable def dig (a b : Int) : List Nat → Int
 | [] => 0
 | t :: ts => (takeS (src a b ts).1 (src a b ts).2 t).2
theorem dig_bounds (a b : Int) {t : Nat} (h : 0 < t) (ts : List Nat) : 0 ≤ dig a b (t :: ts) ∧ dig a b (t :: ts) < t := by
 show 0 ≤ (takeS _ _ t).2 ∧ (takeS _ _ t).2 < t
 unfold takeS
 split <;> exact fmod_bounds (by omega)
structure DrawT (τ : Tau) (a b : Int) : Prop where
 s0 : ∀ ts, τ.tau (2 :: ts) = .int (src a b ts).1
 s1 : ∀ ts, τ.tau (3 :: ts) = .int (src a b ts).2
 d : ∀ ts, τ.tau (4 :: ts) = .int (dig a b ts)
noncomputable def tokT (k : Nat) (t : List Nat) : Option (List Nat) := match t with
 | [] => none
 | a :: r => bif Nat.beq a k then some r else none
theorem tokT_ok {k : Nat} {t r : List Nat} (h : tokT k t = some r) : t = k :: r := by
 cases t with
 | nil => exact nos h
 | cons a t =>
  refine iF (fun h1 q1 => ?_) h; clear h; subst q1
  rw [nE h1]
noncomputable def tokI (k : Nat) (v : V) : Option (List Nat) := match v with
 | .sym t => tokT k t
 | _ => none
theorem tokI_ok {k : Nat} {v : V} {r : List Nat} (h : tokI k v = some r) : v = .sym (k :: r) := by
 cases v with
 | sym t => exact congrArg V.sym (tokT_ok h)
 | _ => exact nos h
noncomputable def seedI (xs : List V) : Option (List Nat) := (twoI xs).bind fun p => (tokI 2 p.1).bind fun ts => (tokI 3 p.2).bind fun us => bif eqL0 ts us then some ts else none
theorem seedI_ok {xs : List V} {ts : List Nat} (h : seedI xs = some ts) : xs = [.sym (2 :: ts), .sym (3 :: ts)] := by
 revert h; refine oB fun p h1 h => ?_
 revert h; refine oB fun t h2 h => ?_
 revert h; refine oB fun u h3 h => ?_
 refine iF (fun h4 q1 => ?_) h; clear h; subst q1
 rw [twoI_ok h1, tokI_ok h2, tokI_ok h3, rJ.mp h4]
noncomputable def drawV (kn : List Nat → Option Nat) (ts : List Nat) : V := match kn ts with
 | some d => .int d
 | none => .sym (4 :: ts)
noncomputable def takeH (kn : List Nat → Option Nat) : Hook := fun n fv vs σ => bif isOld 1235 fv && Nat.ble 20 n then (twoI vs).bind fun p => (newI p.1).bind fun k => (natI p.2).bind fun top => (listI (σ.get k)).bind fun xs => (seedI xs).bind fun ts =>
 bif Nat.blt 0 top && Nat.blt top 1000 then some (.ok (drawV kn (top :: ts)) (σ.setF k (.list [.sym (2 :: top :: ts), .sym (3 :: top :: ts)]))) else none
 else none
theorem takeRes_ok {r : Res V} {v : V} {o : Option O} (h : takeRes r = some (v, o)) : ∃ σ, r = .ok v σ ∧ σ.get 5 = o := by
 cases r with
 | ok v' σ => injection h with q1; injection q1 with q2 q3; subst q2; subst q3; exact ⟨σ, rfl, rfl⟩
 | _ => injection h
theorem take_run {c : Bool} : ∃ σ, (rcs (takeG c) 20).call (.old 1235) [.new 5, .sym [2]] (oS (uQ ++ [.list [.sym [0], .sym [1]]])) = .ok (if c then .sym [3] else .sym [11]) σ ∧ σ.get 5 = some (.list (if c then [.sym [4], .sym [1]] else [.sym [0], .sym [7]])) := by
 cases c with
 | true => exact takeRes_ok take_run_t
 | false => exact takeRes_ok take_run_f
theorem two_of' {τ : Tau} {ρ : List Addr} {v w : V} {us : List Value} (h : @cQ τ ρ [v, w] us) : ∃ a b, us = [a, b] ∧ @VR τ ρ v a ∧ @VR τ ρ w b := by
 cases us with
 | nil => exact h.elim
 | cons a us => cases us with
  | nil => exact h.2.elim
  | cons b us => cases us with
   | nil => exact ⟨a, b, rfl, h.1, h.2.1⟩
   | cons => exact h.2.2.elim
theorem take_hook {P : Program} {w : World} {K : Frag} {q : Bool} {ne : List Nat → Str → Bool} {orc : Qn → Option V} {τ : Tau} {a b : Int} {kn : List Nat → Option Nat} (D : DrawT τ a b) (hk : ∀ ts d, kn ts = some d → dig a b ts = d) :
  @wJ τ P w (gy q ne orc) K gT (takeH kn) := by
 intro n fv vs u us σ X s A l Q E r h S hf hv H
 revert h; refine iQ fun c1 h => ?_
 revert h; refine oB fun p h1 h => ?_
 revert h; refine oB fun k h2 h => ?_
 revert h; refine oB fun top h3 h => ?_
 revert h; refine oB fun xs h4 h => ?_
 revert h; refine oB fun ts h5 h => ?_
 revert h; refine iF fun c2 h => ?_
 have hl := listI_ok h4
 rw [seedI_ok h5] at hl
 rw [twoI_ok h1, iZ h2, natI_ok h3] at hv
 rw [isOld_ok (aL c1)] at hf
 have e1 := nL (aR c1)
 have e2 := bI.mp (aL c2)
 have e3 := bI.mp (aR c2)
 clear h1 h2 h3 h4 h5 c1 c2
 subst h
 refine xvvppvr1 (fun ua tk q1 q2 => ?_) (two_of' hv); clear hv; subst q1; revert q2; refine aQ fun x hx q3 => ?_; subst q3
 cases hf
 have R := S.rel
 refine kQ (fun us nn ho hu => ?_) (R.at hl hx)
 refine oQ (fun u0 u1 hus hu0 hu1 => ?_) (two_of' hu)
 rw [cJ (D.s0 ts)] at hu0
 rw [cJ (D.s1 ts)] at hu1
 obtain ⟨c, hcd⟩ : ∃ c : Bool, c = decide (0 < (src a b ts).1) := ⟨_, rfl⟩
 refine aQ (fun σ'' hr hg => ?_) (take_run (c := c))
 have S' : @Sit (takeτ (src a b ts).1 (src a b ts).2 top) P w (takeG c) K gT 20 l A (mQ s [x] (gT ++ [x])) (oS (uQ ++ [.list [.sym [0], .sym [1]]])) s := by
  refine small5 (S.down (n := 20) (by omega)) (by decide) ⟨fun _ => ⟨_, ho, us, nn, rfl, ?_⟩, fun _ => .head _, (by intros; contradiction), trivial⟩ rfl (aJ.yy S.cx (by intros; contradiction) (take_orc e2 e3 hcd)) ?_ ?_
  ·rw [hus]
   exact ⟨(cJ rfl).mpr hu0, (cJ rfl).mpr hu1, trivial⟩
  ·intro a ha
   rw [List.mem_singleton.mp ha]
   exact R.fresh _ _ x hl rfl hx
  ·intro i j o o' a e e' _ _ _ _
   have : ∀ {i : Nat} {o : O}, [O.list [.sym [0], .sym [1]]][i]? = some o → i = 0 := fun {i o} e => by
    cases i with
    | zero => rfl
    | succ i => injection e
   rw [this e, this e']
 refine @tJ P w (takeG c) K gT 20 l A _ s E (takeτ (src a b ts).1 (src a b ts).2 top) _ _ _ _ _ (.ref 1235) [.ref x, .int (Int.ofNat top) tk] _ hr S' rfl ⟨⟨x, rfl, rfl⟩, (cJ rfl).mpr ⟨tk, rfl⟩, trivial⟩ _ fun Y s' v hY R' hv' => ?_
 have hx' : Y.ρ[5]? = some x := pG hY.r rfl
 refine kQ (fun us' nn' ho' hu' => ?_) (@Rel.at (takeτ (src a b ts).1 (src a b ts).2 top) P w Y σ'' s' R' 5 _ hg x hx' (fun h => by injection h))
 refine H X _ _ (Wl.Le.refl X) ?_ ?_
 ·rw [St.setF_eq]
  refine R.set hl hx (fun b' hb o e => @mJ P w Y σ'' s s' (takeτ (src a b ts).1 (src a b ts).2 top) _ _ hY R' b' (fun z => hb (List.mem_singleton.mp z)) o e) ho' ⟨us', nn', rfl, ?_⟩ (by intro m q; injection q) rfl ((@Rel.gens (takeτ (src a b ts).1 (src a b ts).2 top) P w Y σ'' s' R').trans hY.g) ((@Rel.os (takeτ (src a b ts).1 (src a b ts).2 top) P w Y σ'' s' R').trans hY.o)
  have hs : src a b (top :: ts) = (takeS (src a b ts).1 (src a b ts).2 top).1 := rfl
  have g0 := D.s0 (top :: ts)
  have g1 := D.s1 (top :: ts)
  rw [hs] at g0 g1
  unfold takeS at g0 g1
  cases c with
  | true =>
   rw [if_pos rfl] at hu'
   have hp : 0 < (src a b ts).1 := of_decide_eq_true hcd.symm
   rw [if_pos hp] at g0 g1
   refine oQ (fun v0 v1 e w0 w1 => ?_) (two_of' hu')
   rw [e]
   exact ⟨(cJ g0).mpr ((cJ rfl).mp w0), (cJ g1).mpr ((cJ rfl).mp w1), trivial⟩
  | false =>
   rw [if_neg (by decide)] at hu'
   have hp : ¬ 0 < (src a b ts).1 := of_decide_eq_false hcd.symm
   rw [if_neg hp] at g0 g1
   refine oQ (fun v0 v1 e w0 w1 => ?_) (two_of' hu')
   rw [e]
   exact ⟨(cJ g0).mpr ((cJ rfl).mp w0), (cJ g1).mpr ((cJ rfl).mp w1), trivial⟩
 ·have hd : dig a b (top :: ts) = (takeS (src a b ts).1 (src a b ts).2 top).2 := rfl
  have hv2 : ∃ k, v = Value.int (dig a b (top :: ts)) k := by
   rw [hd]
   unfold takeS
   cases c with
   | true =>
    rw [if_pos rfl] at hv'
    rw [if_pos (of_decide_eq_true hcd.symm)]
    exact (cJ rfl).mp hv'
   | false =>
    rw [if_neg (by decide)] at hv'
    rw [if_neg (of_decide_eq_false hcd.symm)]
    exact (cJ rfl).mp hv'
  show VR X.ρ (drawV kn (top :: ts)) v
  unfold drawV
  refine gOption10 (kn (top :: ts)) (fun d hd' => ?_) (fun hd' => ?_)
  ·rw [hk _ _ hd'] at hv2; exact hv2
  ·exact (cJ (D.d _)).mpr hv2
noncomputable def lawDef : Arguments × List Stmt × Scope := match defAt 160 none with
 | some (.FunctionDef _ ps b _ _ _ sc _ _ _) => (ps, b, sc)
 | _ => (⟨[], [], none, [], [], none, []⟩, [], default)
noncomputable abbrev lawB : List Stmt := lawDef.2.1
noncomputable abbrev lawSc : Scope := lawDef.2.2
noncomputable def lawCells : List (Str × Nat) := [(sOf "source", 10), (sOf "context", 9), (sOf "nodes", 8), (sOf "heard", 7), (sOf "tree", 6)]
noncomputable def f0 : Fr := ⟨5, lawSc, lawCells, sOf "law.<locals>.", none⟩
noncomputable def part (i j : Nat) : List Stmt := (lawB.drop i).take (j - i)
noncomputable def os0 : List O := [.tab [], .tab [], .tab [], .tab [], .tab [], .ns [(sOf "script", .old 1305)], .cell none, .cell none, .cell none, .cell none, .cell none]
noncomputable def refV : V → List Nat
 | .new n => [n]
 | _ => []
noncomputable def refVs : List V → List Nat
 | [] => []
 | .new n :: l => n :: refVs l
 | _ :: l => refVs l
noncomputable def refM (dead : List Str) : List (Str × V) → List Nat
 | [] => []
 | (x, .new n) :: l => bif hasS dead x then refM dead l else n :: refM dead l
 | _ :: l => refM dead l
noncomputable def refC : List (Str × Nat) → List Nat
 | [] => []
 | (_, n) :: l => n :: refC l
noncomputable def refO (dead deadA : List Str) (deadC : List Nat) (n : Nat) : O → List Nat
 | .ns m => refM dead m
 | .list xs => bif hasN deadC n then [] else refVs xs
 | .tup xs => refVs xs
 | .dict m => refM [] m
 | .at m => refM deadA m
 | .inst _ d => [d]
 | .cell (some v) => bif hasN deadC n then [] else refV v
 | .fn f => refC f.cl ++ (match f.tab with | some t => [t] | none => [])
 | _ => []
noncomputable def reach (dead deadA : List Str) (deadC : List Nat) (σ : St) : Nat → List Nat → List Nat → List Nat → List Nat
 | 0, _, _, acc => acc.reverse
 | _, [], _, acc => acc.reverse
 | k + 1, n :: l, seen, acc => bif hasN seen n then reach dead deadA deadC σ k l seen acc else natK n fun n => reach dead deadA deadC σ k (l ++ (match σ.get n with | some o => refO dead deadA deadC n o | none => [])) (n :: seen) (n :: acc)
noncomputable def roots : List Nat := [0, 1, 2, 3, 4, 5, 6, 7, 8, 9, 10]
noncomputable def live (dead deadA : List Str) (deadC : List Nat) (σ : St) : List Nat := roots ++ reach dead deadA deadC σ 1000 (roots.foldl (fun l n => l ++ (match σ.get n with | some o => refO dead deadA deadC n o | none => [])) []) roots []
structure Cut where
 dead : List Str
 deadA : List Str
 deadC : St → List Nat
 tm : V → V
 ov : St → List (Nat × O)
noncomputable def Cut.gc (C : Cut) (σ : St) : Gc := ⟨live C.dead C.deadA (C.deadC σ) σ, C.tm, C.dead, C.deadA, C.deadC σ, C.ov σ⟩
noncomputable def inCell (σ : St) (c : Nat) : List Nat := match σ.get c with
 | some (.cell (some (.new h))) => [h]
 | _ => []
noncomputable def rowsOf (σ : St) (c : Nat) : List Nat := match σ.get c with
 | some (.cell (some (.new h))) => (match σ.get h with
  | some (.inst _ d) => (match σ.get d with
   | some (.at m) => (match look m (sOf "rows") with | some (.new r) => [r] | _ => [])
   | _ => [])
  | _ => [])
 | _ => []
noncomputable def segR (r : Rc) (b : List Stmt) (C : Cut) (σ : St) : Option St := match r.exs f0 b σ with
 | .ok .next σ => (C.gc σ).st σ
 | _ => none
section
variable {P : Program} {w : World} {K : Frag} {T : List Addr} {n m N : Nat} {l : List Env} {A : Around} {X X₀ : Wl} {σ σ' : St} {s : Shared} {g g' : Cx} {env : Env} {E : Value → Shared → Prop} {Q : Flow → Shared → Prop} {b rest : List Stmt} {C : Cut} {H : Hook} {r : Rc} {f : Fr}
noncomputable def thenQ (P : Program) (w : World) (A : Around) (rest : List Stmt) (env : Env) (Q : Flow → Shared → Prop) (E : Value → Shared → Prop) : Flow → Shared → Prop := fun fl s' => match fl with
 | .next => wpAny (model P w) A (execs rest env) Q E s'
 | fl => Q fl s'
theorem exs_then [Tau] (hex : ∀ {st : Stmt} {X : Wl} {σ : St} {s : Shared} {Q : Flow → Shared → Prop}, Sit P w g K T n l A X σ s → bQ l X f env → OK P w g l X RFl Q E (ex1 g r f st σ) → wpAny (model P w) A (exec st env) Q E s) :
  ∀ (b : List Stmt) {X : Wl} {σ : St} {s : Shared}, Sit P w g K T n l A X σ s → bQ l X f env → OK P w g l X RFl (thenQ P w A rest env Q E) E (exs1 g r f b σ) → wpAny (model P w) A (execs (b ++ rest) env) Q E s := by
 intro b
 induction b with
 | nil => intro X σ s S e H; exact OK.here (u := Flow.next) H S.rel rfl
 | cons st b ih =>
  intro X σ s S e H
  unfold exs1 at H
  refine wpAny_execs_cons (hex S e (OK.bind (k := fun q σ => match q with | .next => exs1 g r f b σ | q => .ok q σ) H fun q σ₁ _ Y s₁ u hy hr hu H => ?_))
  cases q with
  | next => cases hu; exact ih (S.next hy hr) (e.mono hy) H
  | ret v =>
   revert hu; refine aQ fun u' q1 hv => ?_; subst q1
   exact OK.here (Q := thenQ P w A rest env Q E) (u := Flow.ret u') H hr ⟨u', rfl, hv⟩
end
structure LawI (X₀ X : Wl) : Prop where
 b : X₀.B.StaysIn X.B
 g : X.gens = X₀.gens
 o : X.os = X₀.os
 f : X.fr = [5]
 r : ∀ i, i < 11 → X.ρ[i]? = X₀.ρ[i]?
 n : 11 ≤ X.ρ.length
theorem roots_get {l : List Nat} (i : Nat) (h : i < 11) : (roots ++ l)[i]? = some i := by
 have := List.all_eq_true.mp (show ((List.range 11).all fun i => roots[i]? == some i) = true by decide) i (List.mem_range.mpr h)
 rw [List.getElem?_append_left h]; exact eq_of_beq this
theorem idxN_app {l : List Nat} {n : Nat} {e : List Nat} : ∀ {i : Nat}, idxN e n = some i → idxN (e ++ l) n = some i := by
 induction e with
 | nil => intro i h; exact nos h
 | cons a e ih =>
  intro i h
  show (bif Nat.beq a n then some 0 else (match idxN (e ++ l) n with | some i => some (i + 1) | none => none)) = some i
  unfold idxN at h
  refine jZ (idxN e n) (fun j hq => ?_) (fun hq => ?_)
  ·rw [ih hq]; rw [hq] at h; exact h
  ·
   rw [hq] at h
   refine cZ (Nat.beq a n) (fun hb => ?_) (fun hb => ?_)
   ·rw [hb] at h; exact h
   ·rw [hb] at h; exact nos h
theorem roots_idx {l : List Nat} (i : Nat) (h : i < 11) : idxN (roots ++ l) i = some i := idxN_app (eq_of_beq (List.all_eq_true.mp (show ((List.range 11).all fun i => idxN roots i == some i) = true by decide) i (List.mem_range.mpr h)))
theorem live_fr (C : Cut) (σ : St) : (C.gc σ).fr f0 = some f0 := by
 have h : ∀ l i, i < 11 → idxN (roots ++ l) i = some i := fun l i h => roots_idx i h
 have step : ∀ (x : Str) (n : Nat) {l : List (Str × Nat)}, n < 11 → (C.gc σ).cl l = some l → (C.gc σ).cl ((x, n) :: l) = some ((x, n) :: l) := fun x n {l} hn hl => by
  show (idxN (C.gc σ).e n).bind (fun i => ((C.gc σ).cl l).bind fun r => some ((x, i) :: r)) = _
  rw [show (C.gc σ).e = roots ++ _ from rfl, h _ n hn, hl]; rfl
 have hc : (C.gc σ).cl lawCells = some lawCells := step _ 10 (by decide) (step _ 9 (by decide) (step _ 8 (by decide) (step _ 7 (by decide) (step _ 6 (by decide) rfl))))
 unfold Gc.fr
 rw [show (C.gc σ).e = roots ++ _ from rfl]
 rw [show f0.loc = 5 from rfl, h _ 5 (by decide), show f0.cells = lawCells from rfl, hc]
 rfl
theorem LawI.gc {X₀ X : Wl} {σ σ' : St} {C : Cut} (I : LawI X₀ X) (h : (C.gc σ).st σ = some σ') (hl : X.ρ.length = σ.size) : LawI X₀ (X.gc (C.gc σ) [5]) where
 b := I.b
 g := I.g
 o := I.o
 f := rfl
 r := fun i hi => by
  have hX : ∀ n ∈ (C.gc σ).e, n < X.ρ.length := fun n hn => by rw [hl]; exact (Gc.st_some h).2.1 n hn
  rw [Wl.gc_get hX (show (C.gc σ).e[i]? = some i from roots_get i hi)]
  exact I.r i hi
 n := by
  show 11 ≤ ((roots ++ _).map _).length
  rw [List.length_map, List.length_append]
  show 11 ≤ 11 + _
  omega
section
variable {P : Program} {w : World} {K : Frag} {N : Nat} {l : List Env} {A : Around} {X X₀ : Wl} {σ σ' : St} {s : Shared} {g g' : Cx} {env : Env} {E : Value → Shared → Prop} {Q : Flow → Shared → Prop} {b rest : List Stmt} {C : Cut} {H : Hook} {τ τ' : Tau}
set_option tactic.hygienic true in
theorem segR_ok {r : Rc} (h : segR r b C σ = some σ') : ∃ σ'', r.exs f0 b σ = .ok .next σ'' ∧ (C.gc σ'').st σ'' = some σ' := by
 unfold segR at h
 split at h
 ·rename_i σ'' e
  exact ⟨σ'', e, h⟩
 ·injection h
theorem view_go (I : LawI X₀ X) (S : @Sit τ P w g K gT N l A X σ s) (e : bQ l X f0 env) (h : (C.gc σ).st σ = some σ') (hns : ∃ m, σ'.get 5 = some (.ns m)) (htm : TmOk τ τ' C.tm) (hov : OvOk P w τ τ' X σ (C.ov σ)) (hq : g.quiet = false)
  (hc : @aJ τ' g' K gT X.B) : ∃ Y, LawI X₀ Y ∧ @Sit τ' P w g' K gT N l A Y σ' s ∧ bQ l Y f0 env := by
 have hl : X.ρ.length = σ.size := @Rel.len τ _ _ _ _ _ (@Sit.rel τ _ _ _ _ _ _ _ _ _ _ _ S)
 have hX : ∀ n ∈ (C.gc σ).e, n < X.ρ.length := fun n hn => by rw [hl]; exact (Gc.st_some h).2.1 n hn
 refine ⟨X.gc (C.gc σ) [5], I.gc h hl, Sit.gc S h htm hov (fun k hk => by rw [List.mem_singleton.mp hk]; exact hns) rfl ?_ (fun _ => ⟨@Sit.fr τ _ _ _ _ _ _ _ _ _ _ _ S hq, ?_⟩) hc, bQ.gc hX e (live_fr C σ)⟩
 ·show 5 ≤ (roots ++ _).length
  rw [List.length_append]
  show 5 ≤ 11 + _
  omega
 ·rw [I.f]
  show ([5].all fun k => [5].any fun i => (roots ++ _)[i]? == some k) = true
  rw [List.all_cons, List.any_cons, roots_get 5 (by decide)]
  rfl
theorem seg_go (hH : @wJ τ P w g K gT H) (I : LawI X₀ X) (S : @Sit τ P w g K gT (N + 1) l A X σ s) (e : bQ l X f0 env) (h : segR (rcsH g H (N + 1)) b C σ = some σ') (hns : ∃ m, σ'.get 5 = some (.ns m)) (htm : TmOk τ τ' C.tm)
  (hov : ∀ σ'' Y, (rcsH g H (N + 1)).exs f0 b σ = .ok .next σ'' → OvOk P w τ τ' Y σ'' (C.ov σ'')) (hq : g.quiet = false) (hc : ∀ B, X.B.StaysIn B → @aJ τ' g' K gT B)
  (q : ∀ Y s', LawI X₀ Y → @Sit τ' P w g' K gT (N + 1) l A Y σ' s' → bQ l Y f0 env → wpAny (model P w) A (execs rest env) Q E s') : wpAny (model P w) A (execs (b ++ rest) env) Q E s := by
 refine aQ (fun σ'' h1 h2 => ?_) (segR_ok h)
 refine @exs_then P w K gT (N + 1) l A g env E Q rest (rcsH g H N) f0 τ (fun S e H => @ex_ok τ _ _ _ _ _ _ _ _ _ _ _ _ _ _ _ (@sndH τ P w g K gT _ hH N) S e _ _ H) b X σ s S e ?_
 have h1' : exs1 g (rcsH g H N) f0 b σ = .ok .next σ'' := (exsN_eq g (rcsH g H N) f0 b σ).symm.trans h1
 rw [h1']
 intro Y s' u hy hr hu
 cases hu
 have I' : LawI X₀ Y := ⟨fun b o z => hy.b b o (I.b b o z), hy.g.trans I.g, hy.o.trans I.o, hy.f.trans I.f, fun i hi => by
  rw [← I.r i hi]
  refine xvp (fun z hz => ?_) (hy.r)
  rw [← hz, List.getElem?_append_left (by have := I.n; omega)], by
  refine xvp (fun z hz => ?_) (hy.r)
  rw [← hz, List.length_append]
  have := I.n
  omega⟩
 have S' := @Sit.next τ _ _ _ _ _ _ _ _ _ _ _ _ _ _ S hy hr
 refine xvppp (fun Z J S'' e' => ?_) (view_go (τ := τ) (τ' := τ') I' S' (e.mono hy) h2 hns htm (hov σ'' Y h1) hq (hc Y.B hy.b))
 exact q Z s' J S'' e'
end
noncomputable def words12 : List Str := [sOf "position", sOf "last", sOf "true", sOf "false", sOf "v", sOf "w", sOf "number", sOf "", sOf "x", sOf "z", sOf "many", sOf "where"]
noncomputable def words10 : List Str := [sOf "position", sOf "last", sOf "true", sOf "false", sOf "v", sOf "w", sOf "number", sOf "", sOf "x", sOf "z"]
noncomputable def tQ : List Str := [sOf "position", sOf "last", sOf "true", sOf "false", sOf "v", sOf "w", sOf "number", sOf "", sOf "x"]
noncomputable def names6 : List Str := [sOf "told", sOf "many", sOf "concat", sOf "true", sOf "position", sOf "sum-up"]
noncomputable def wordsOf (t : Nat) : List Str := bif Nat.beq t 12 then words12 else bif Nat.beq t 10 then words10 else bif Nat.beq t 9 then tQ else bif Nat.beq t 6 then names6 else []
noncomputable def nthS (l : List Str) (i : Int) : Str := l.getD i.toNat Str.empty
noncomputable def dQ : V → Int
 | .int i => i
 | _ => 0
noncomputable def lawT (a b : Int) (ex : List Nat → V) : List Nat → V
 | 2 :: ts => .int (src a b ts).1
 | 3 :: ts => .int (src a b ts).2
 | 4 :: ts => .int (dig a b ts)
 | 5 :: t :: ts => .str (nthS (wordsOf t) (dig a b (t :: ts)))
 | 6 :: ts => .int (1 + dig a b ts)
 | [8] => .int (dQ (ex [21]) + dig a b [3])
 | [21] => .int (dQ (ex [21]))
 | [22] => .int (dQ (ex [22]))
 | [30] => .str (Str.ofString (toString (dQ (ex [22]))))
 | [31] => .str (sOf "node " ++ Str.ofString (toString (dQ (ex [22]))))
 | t => ex t
noncomputable def nodesD (n : Nat) (ob : Obj) : Prop := ∃ us k, ob = { cls := .type "list", dict := none, data := .seq us k, slots := #[] } ∧ @cQ fQ [] ((List.range n).map fun (i : Nat) => V.int (i : Int)) us.toList
noncomputable def packD (P : Program) (w : World) (os : List O) (B : Heap) (ob : Obj) : Prop := ∃ X : Wl, X.B = B ∧ ∃ ρ, X.ρ = gT ++ ρ ∧ ρ.length = os.length ∧ (∃ a, ρ[0]? = some a ∧ B.get? a = some ob) ∧ ∀ (i : Nat) (o : O), os[i]? = some o → ∃ a ob, ρ[i]? = some a ∧ B.get? a = some ob ∧ @pQ fQ P w X ob o ∧ ∀ z, o = .ro z → a ≠ sysModules
theorem packD.mono {P : Program} {w : World} {os : List O} {B B' : Heap} {ob : Obj} (h : ∀ b o, B.get? b = some o → B'.get? b = some o) : packD P w os B ob → packD P w os B' ob := by
 refine xvpvpppp fun X hB ρ hρ hl h0 h3 => ?_
 exact ⟨{ X with B := B' }, rfl, ρ, hρ, hl, h0.imp fun _ h0 => ⟨h0.1, h _ _ h0.2⟩, fun i o e => (h3 i o e).imp fun _ => Exists.imp fun ob e => ⟨e.1, h _ _ e.2.1, @pQ.mono fQ P w X { X with B := B' } ⟨hB ▸ h, List.prefix_rfl, rfl, rfl, rfl⟩ ob o e.2.2.1, e.2.2.2⟩⟩
noncomputable def lawMk (P : Program) (w : World) (nn : Nat) (pk : List Nat → List O) (t : List Nat) (B : Heap) (ob : Obj) : Prop := match t with
 | [0] => nodesD nn ob
 | t => packD P w (pk t) B ob
set_option tactic.hygienic true in
theorem lawMk.mono {P : Program} {w : World} {nn : Nat} {pk : List Nat → List O} {t : List Nat} {B B' : Heap} {ob : Obj} (h : ∀ b o, B.get? b = some o → B'.get? b = some o) (e : lawMk P w nn pk t B ob) : lawMk P w nn pk t B' ob := by
 unfold lawMk at e ⊢
 split
 ·exact e
 ·split at e
  ·rename_i q; exact (q rfl).elim
  ·exact packD.mono h e
@[reducible] noncomputable def jQ (P : Program) (w : World) (a b : Int) (ex : List Nat → V) (nn : Nat) (pk : List Nat → List O) : Tau := tauOf (lawT a b ex) (lawMk P w nn pk) (fun h e => lawMk.mono h e)
theorem lawτ_draw {P : Program} {w : World} {a b : Int} {ex : List Nat → V} {nn : Nat} {pk : List Nat → List O} : DrawT (jQ P w a b ex nn pk) a b := ⟨fun _ => rfl, fun _ => rfl, fun _ => rfl⟩
noncomputable def sameStrs : List V → List Str → Bool
 | [], [] => true
 | .str x :: xs, y :: ys => bif eqS x y then sameStrs xs ys else false
 | _, _ => false
noncomputable def sameInts : Nat → List V → Bool
 | _, [] => true
 | i, .int (.ofNat j) :: l => bif Nat.beq i j then sameInts (i + 1) l else false
 | _, _ => false
theorem sameStrs_ok : ∀ {xs : List V} {ys : List Str}, sameStrs xs ys = true → xs = ys.map .str
 | [], [], _ => rfl
 | .str x :: xs, y :: ys, h => by
  unfold sameStrs at h
  refine bE (eqS x y) (fun q => ?_) (fun q => ?_)
  ·rw [q] at h; injection h
  ·rw [q, cond_true] at h; rw [eI.mp q, sameStrs_ok h]; rfl
 | [], _ :: _, h => by injection h
 | .str _ :: _, [], h => by injection h
 | .none :: _, _, h => by injection h
 | .bool _ :: _, _, h => by injection h
 | .int _ :: _, _, h => by injection h
 | .ty _ :: _, _, h => by injection h
 | .bt _ :: _, _, h => by injection h
 | .old _ :: _, _, h => by injection h
 | .new _ :: _, _, h => by injection h
 | .sym _ :: _, _, h => by injection h
 | .any :: _, _, h => by injection h
theorem sameInts_ok : ∀ {xs : List V} {i : Nat}, sameInts i xs = true → ∀ {j : Nat} {v : V}, xs[j]? = some v → v = .int ((i + j : Nat) : Int)
 | [], _, _, _, _, h => by injection h
 | v :: xs, i, h, j, u, e => by
  cases v with
  | int z =>
   cases z with
   | ofNat j' =>
    change (bif Nat.beq i j' then sameInts (i + 1) xs else false) = true at h
    refine bE (Nat.beq i j') (fun z => ?_) (fun z => ?_)
    ·rw [z] at h; injection h
    ·
     rw [z, cond_true] at h
     have := nE z
     cases j with
     | zero => injection e with q1; subst q1; rw [← this]; rfl
     | succ j =>
      have := sameInts_ok h (by simpa using e)
      rw [this]
      congr 1
      omega
   | negSucc j' => injection h
  | _ => injection h
noncomputable def smallT (t : List Nat) : Bool := eqL0 t [21] || eqL0 t [8]
noncomputable def lawAdd (a b : V) : Option V := match b with
 | .sym t => (match t with
  | [] => none
  | k :: ts => bif Nat.beq k 4 && vEq a (.int 1) then some (.sym (6 :: ts)) else bif eqL0 (k :: ts) [4, 3] && vEq a (.sym [21]) then some (.sym [8]) else bif eqL0 (k :: ts) [30] && vEq a (.str (sOf "node ")) then some (.sym [31]) else none)
 | _ => none
noncomputable def lawMod (a b : V) : Option V := match a with
 | .sym t => bif smallT t && vEq b (.int 1) then some (.int 0) else none
 | _ => none
noncomputable def lawDiv (a b : V) : Option V := match a with
 | .sym t => bif smallT t && vEq b (.int 1) then some (.sym t) else none
 | _ => none
noncomputable def lawBin (op : Operator) (a b : V) : Option V := match op with
 | .Add => lawAdd a b
 | .Mod => lawMod a b
 | .FloorDiv => lawDiv a b
 | _ => none
noncomputable def lawSub (xs : List V) (i : V) : Option V := match i with
 | .sym l => (match l with
  | [] => none
  | k :: l => (match l with
   | [] => none
   | t :: ts => bif Nat.beq k 4 && (Nat.blt 0 t && (Nat.blt t 100 && Nat.beq xs.length t)) then (bif sameStrs xs (wordsOf t) then some (.sym (5 :: t :: ts)) else bif sameInts 0 xs then some (.sym (4 :: t :: ts)) else none) else none))
 | _ => none
noncomputable def lawGt (ps : List Nat → Option Bool) (t : List Nat) (b : V) : Option V := match t with
 | [] => none
 | k :: ts => bif Nat.beq k 4 && vEq b (.int 0) then (ps ts).map .bool else none
noncomputable def lawGe (t : List Nat) (b : V) : Option V := match b with
 | .int z => (match z with
  | .ofNat k => bif smallT t && Nat.blt 1000 k then some (.bool false) else none
  | .negSucc _ => none)
 | _ => none
noncomputable def lawCmp (ps : List Nat → Option Bool) (op : CmpOp) (a b : V) : Option V := match a with
 | .sym t => (match op with
  | .Gt => lawGt ps t b
  | .GtE => lawGe t b
  | _ => none)
 | _ => none
noncomputable def lawAbs (v : V) : Option V := match v with
 | .sym t => bif smallT t then some (.sym t) else none
 | _ => none
noncomputable def lawO (ps : List Nat → Option Bool) (q : Qn) : Option V := match q with
 | .bin op a b => lawBin op a b
 | .cmp op a b => lawCmp ps op a b
 | .sub xs i => lawSub xs i
 | .abs v => lawAbs v
 | .str v => bif vEq v (.sym [22]) then some (.sym [30]) else none
 | _ => none
section
variable {P : Program} {w : World} {a b : Int} {ex : List Nat → V} {nn : Nat} {pk : List Nat → List O} {g : Cx} {ps : List Nat → Option Bool}
theorem small_ok (h21 : 0 ≤ dQ (ex [21]) ∧ dQ (ex [21]) < 500) {t : List Nat} (ht : smallT t = true) : ∃ i : Int, (jQ P w a b ex nn pk).tau t = .int i ∧ 0 ≤ i ∧ i < 1000 := by
 refine orE (fun ht => ?_) (fun ht => ?_) (Bool.or_eq_true_iff.mp ht)
 ·rw [rJ.mp ht]
  exact ⟨_, rfl, h21.1, Int.lt_trans h21.2 (by decide)⟩
 ·rw [rJ.mp ht]
  have := dig_bounds a b (t := 3) (by decide) []
  exact ⟨_, rfl, Int.add_nonneg h21.1 this.1, by have := h21.2; omega⟩
theorem bif3 {α : Type} {c : Bool} {a : α} {r : Option α} {v : α} (h : (bif c then some a else r) = some v) : (c = true ∧ a = v) ∨ r = some v := by
 cases c with
 | true => injection h with q1; subst q1; exact .inl ⟨rfl, rfl⟩
 | false => exact .inr h
theorem lawAdd_ok (h22 : 0 ≤ dQ (ex [22]) ∧ dQ (ex [22]) < 6) {x y v : V} (h : lawAdd x y = some v) : @OrcD (jQ P w a b ex nn pk) g (.bin .Add x y) v := by
 cases y with
 | sym t => cases t with
  | nil => injection h
  | cons k ts =>
   rcases bif3 h with ⟨hc, rfl⟩ | h
   ·rw [nE (aL hc), kZ (aR hc)]
    exact fun σ => ⟨.int (1 + dig a b ts), rfl, fun ρ u h => h⟩
   rcases bif3 h with ⟨hc, rfl⟩ | h
   ·rw [rJ.mp (aL hc), kZ (aR hc)]
    exact fun σ => ⟨.int (dQ (ex [21]) + dig a b [3]), rfl, fun ρ u h => h⟩
   refine iF (fun hc q1 => ?_) h; subst q1
   rw [rJ.mp (aL hc), kZ (aR hc)]
   intro σ
   refine ⟨.str (sOf "node " ++ Str.ofString (toString (dQ (ex [22])))), ?_, fun ρ u h => h⟩
   show (bif Nat.ble ((sOf "node ").length + (Str.ofString (toString (dQ (ex [22])))).length) 1000000 then Res.ok (V.str (sOf "node " ++ Str.ofString (toString (dQ (ex [22]))))) σ else Res.stop "long") = _
   have hb : Nat.ble ((sOf "node ").length + (Str.ofString (toString (dQ (ex [22])))).length) 1000000 = true := by
    revert h22; refine xpp fun h1 h2 => ?_
    generalize dQ (ex [22]) = i at h1 h2
    have : i = 0 ∨ i = 1 ∨ i = 2 ∨ i = 3 ∨ i = 4 ∨ i = 5 := by omega
    rcases this with rfl | rfl | rfl | rfl | rfl | rfl <;> decide +kernel
   rw [hb]; rfl
 | _ => exact nos h
theorem lawMod_ok (h21 : 0 ≤ dQ (ex [21]) ∧ dQ (ex [21]) < 500) {x y v : V} (h : lawMod x y = some v) : @OrcD (jQ P w a b ex nn pk) g (.bin .Mod x y) v := by
 cases x with
 | sym t =>
  refine iF (fun hc q1 => ?_) h; subst q1
  refine xvppp (fun i h1 h2 h3 => ?_) (small_ok (P := P) (w := w) (a := a) (b := b) (nn := nn) (pk := pk) h21 (aL hc))
  have e : @dn (jQ P w a b ex nn pk) (.sym t) = .int i := h1
  intro σ
  rw [e, kZ (aR hc)]
  refine ⟨.int (Int.fmod i 1), rfl, fun ρ u hu => ?_⟩
  rw [Int.fmod_one] at hu
  exact hu
 | _ => exact nos h
theorem lawDiv_ok (h21 : 0 ≤ dQ (ex [21]) ∧ dQ (ex [21]) < 500) {x y v : V} (h : lawDiv x y = some v) : @OrcD (jQ P w a b ex nn pk) g (.bin .FloorDiv x y) v := by
 cases x with
 | sym t =>
  refine iF (fun hc q1 => ?_) h; subst q1
  refine xvppp (fun i h1 h2 h3 => ?_) (small_ok (P := P) (w := w) (a := a) (b := b) (nn := nn) (pk := pk) h21 (aL hc))
  have e : @dn (jQ P w a b ex nn pk) (.sym t) = .int i := h1
  intro σ
  rw [e, kZ (aR hc)]
  refine ⟨.int (Int.fdiv i 1), rfl, fun ρ u hu => (@cJ (jQ P w a b ex nn pk) ρ t i u h1).mpr ?_⟩
  rw [Int.fdiv_one] at hu
  exact hu
 | _ => exact nos h
theorem lawSub_ok {xs : List V} {y v : V} (h : lawSub xs y = some v) : @OrcD (jQ P w a b ex nn pk) g (.sub xs y) v := by
 cases y with
 | sym l => cases l with
  | nil => injection h
  | cons k l => cases l with
   | nil => injection h
   | cons t ts =>
    have hc := (bifq h).1
    replace h := (bifq h).2
    have h0 := nE (aL hc)
    subst h0
    have h1 := bI.mp (aL (aR hc))
    have h3 := bI.mp (aL (aR (aR hc)))
    have h4 := nE (aR (aR (aR hc)))
    refine xpp (fun d1 d2 => ?_) (dig_bounds a b h1 ts)
    obtain ⟨j, hj⟩ : ∃ j : Nat, dig a b (t :: ts) = j := ⟨(dig a b (t :: ts)).toNat, by omega⟩
    have hjl : j < xs.length := by omega
    have hidx : idx xs.length (dig a b (t :: ts)) = some j := by
     unfold idx
     rw [show Nat.ble xs.length 1000000 = true from Nat.ble_eq.mpr (by omega), cond_true, if_pos d1, if_pos (by omega)]
     congr 1
     omega
    refine nJ (sameStrs xs (wordsOf t)) (fun hs => ?_) (fun hs => ?_)
    ·
     rw [hs, cond_true] at h
     injection h with q1; subst q1
     have hx := sameStrs_ok hs
     have hjw : j < (wordsOf t).length := by rw [hx, List.length_map] at hjl; exact hjl
     refine ⟨_, j, .str ((wordsOf t)[j]), rfl, hidx, ?_, fun ρ u h => ?_⟩
     ·rw [hx, List.getElem?_map, List.getElem?_eq_getElem hjw]; rfl
     ·refine (@VR_symS (jQ P w a b ex nn pk) ρ (5 :: t :: ts) (nthS (wordsOf t) (dig a b (t :: ts))) u rfl).mpr ?_
      have : nthS (wordsOf t) (dig a b (t :: ts)) = (wordsOf t)[j] := by
       unfold nthS
       rw [hj, Int.toNat_natCast, List.getD_eq_getElem?_getD, List.getElem?_eq_getElem hjw]; rfl
      rw [this]
      exact h
    ·
     rw [hs, cond_false] at h
     refine iF (fun hi q1 => ?_) h; subst q1
     have e := List.getElem?_eq_getElem hjl
     have := sameInts_ok hi e
     refine ⟨_, j, xs[j], rfl, hidx, e, fun ρ u h => ?_⟩
     refine (@cJ (jQ P w a b ex nn pk) ρ (4 :: t :: ts) (dig a b (t :: ts)) u rfl).mpr ?_
     rw [this, Nat.zero_add] at h
     rw [hj]
     exact h
 | _ => exact nos h
theorem lawCmp_ok (hp : ∀ ts c, ps ts = some c → decide (0 < dig a b ts) = c) (h21 : 0 ≤ dQ (ex [21]) ∧ dQ (ex [21]) < 500) {op : CmpOp} {x y v : V} (h : lawCmp ps op x y = some v) : @OrcD (jQ P w a b ex nn pk) g (.cmp op x y) v := by
 cases x with
 | sym t => cases op with
  | Gt => cases t with
   | nil => injection h
   | cons k ts =>
    have h1 := (bifq h).1
    replace h := (bifq h).2
    rw [nE (aL h1), kZ (aR h1)]
    refine aQ (fun c hc q1 => ?_) (Option.map_eq_some_iff.mp h); subst q1
    exact ⟨c, rfl, fun σ => congrArg some (hp ts c hc)⟩
  | GtE => cases y with
   | int z => cases z with
    | negSucc => injection h
    | ofNat k =>
     refine iF (fun ht q1 => ?_) h; subst q1
     have t2 := bI.mp (aR ht)
     refine xvppp (fun i h1 h2 h3 => ?_) (small_ok (P := P) (w := w) (a := a) (b := b) (nn := nn) (pk := pk) h21 (aL ht))
     refine ⟨false, rfl, fun σ => ?_⟩
     have e : @dn (jQ P w a b ex nn pk) (.sym t) = .int i := h1
     rw [e]
     show some (decide ((k : Int) ≤ i)) = some false
     congr 1
     exact decide_eq_false (by omega)
   | _ => exact nos h
  | _ => exact nos h
 | _ => exact nos h
theorem lawO_ok (hp : ∀ ts c, ps ts = some c → decide (0 < dig a b ts) = c) (h21 : 0 ≤ dQ (ex [21]) ∧ dQ (ex [21]) < 500) (h22 : 0 ≤ dQ (ex [22]) ∧ dQ (ex [22]) < 6) : ∀ q v, lawO ps q = some v → @OrcD (jQ P w a b ex nn pk) g q v := by
 intro q v h
 cases q with
 | bin op x y => cases op with
  | Add => exact lawAdd_ok h22 h
  | Mod => exact lawMod_ok h21 h
  | FloorDiv => exact lawDiv_ok h21 h
  | _ => exact nos h
 | cmp op x y => exact lawCmp_ok hp h21 h
 | sub xs i => exact lawSub_ok h
 | abs x => cases x with
  | sym t =>
   refine iF (fun ht q1 => ?_) h; subst q1
   refine xvppp (fun i h1 h2 h3 => ?_) (small_ok (P := P) (w := w) (a := a) (b := b) (nn := nn) (pk := pk) h21 ht)
   refine ⟨i, h1, fun ρ u hu => (@cJ (jQ P w a b ex nn pk) ρ t i u h1).mpr ?_⟩
   rw [show ((i.natAbs : Nat) : Int) = i by omega] at hu
   exact hu
  | _ => exact nos h
 | str x =>
  refine iF (fun ht q1 => ?_) h; subst q1
  rw [kZ ht]
  refine ⟨dQ (ex [22]), rfl, ?_, fun ρ u h => h⟩
  revert h22; refine xpp fun h1 h2 => ?_
  exact bI.mpr (Nat.lt_of_le_of_lt (Nat.log2_le_self _) (by omega))
 | _ => exact nos h
end
noncomputable def ctxFn (i : Nat) (cl : List (Str × Nat)) : O := match defAt 152 none with
 | some (.FunctionDef _ _ b _ _ _ _ _ _ _) => (match b[i]? with
  | some (.FunctionDef nm ps bb _ _ _ sc _ _ _) => .fn ⟨ps, .stmts bb, sc, cl, none, sOf "_law_context.<locals>." ++ nm⟩
  | _ => .junk)
 | _ => .junk
noncomputable def tabs5 : List O := [.tab [((925, 22), sOf "_law_asked_right.<locals>.<lambda>")],
 .tab [((942, 18), sOf "_law_called_right.<locals>.<lambda>")],
 .tab [((966, 22), sOf "_law_filtered_right.<locals>.<lambda>")],
 .tab [((701, 4), sOf "asker.<locals>.value_of")],
 .tab [((901, 4), sOf "_law_context.<locals>.told"), ((905, 4), sOf "_law_context.<locals>.many"), ((908, 4), sOf "_law_context.<locals>.where")]]
noncomputable def osA : List O := tabs5 ++ [.ns [(sOf "script", .old 1305), (sOf "word", .any), (sOf "some", .any), (sOf "rows", .any)],
 .cell (some (.new 11)), .cell (some (.new 12)), .cell (some (.new 13)), .cell (some .any), .cell none,
 .inst 1217 14, .list [.any], .list [.int 0, .int 1, .int 2], .at [(sOf "rows", .new 15)], .list [.any, .any, .any]]
noncomputable def osB : List O := tabs5 ++ [.ns [(sOf "script", .old 1305), (sOf "word", .any), (sOf "some", .any), (sOf "rows", .any)],
 .cell (some (.new 11)), .cell (some (.new 12)), .cell (some (.new 13)), .cell (some .any), .cell (some (.new 14)),
 .inst 1217 15, .list [.any], .list [.int 0, .int 1, .int 2], .list [.sym [2], .sym [3]], .at [(sOf "rows", .new 16)], .list [.any, .any, .any]]
noncomputable def ctxOs (o h : Nat) : List O := [.at [(sOf "tree", .any), (sOf "node", .int 0), (sOf "position", .int 2), (sOf "size", .int 7), (sOf "variables", .new (o + 1)), (sOf "names", .new (o + 2)), (sOf "calls", .new (o + 3)), (sOf "current", .int 0), (sOf "ids", .new (o + 4))],
 .dict [(sOf "v", .new (o + 5)), (sOf "w", .str (sOf "t"))], .dict [], .dict [(sOf "told", .new (o + 6)), (sOf "many", .new (o + 7)), (sOf "where", .new (o + 8))], .dict [], .tup [.int 2, .int 1],
 ctxFn 0 [(sOf "heard", o + 9)], ctxFn 1 [], ctxFn 2 [], .cell (some (.new h))]
noncomputable def osD (word place node : V) : List O := tabs5 ++ [.ns [(sOf "script", .old 1305), (sOf "word", word), (sOf "some", .any), (sOf "rows", .any), (sOf "place", place), (sOf "node", node)],
 .cell (some .any), .cell (some (.new 11)), .cell (some (.new 12)), .cell (some (.new 13)), .cell (some (.new 14)),
 .list [.any], .ro (.mk [0]), .inst 1006 15, .list [.sym [2], .sym [3]]] ++ ctxOs 15 11
noncomputable def ns8 (words name : V) : O := .ns [(sOf "script", .old 1305), (sOf "word", .any), (sOf "some", .any), (sOf "rows", .any), (sOf "place", .any), (sOf "node", .any), (sOf "words", words), (sOf "name", name)]
noncomputable def osF (ws : List V) (name : V) : List O := tabs5 ++ [ns8 (.new 11) name,
 .cell (some .any), .cell (some (.new 12)), .cell (some (.new 13)), .cell (some (.new 14)), .cell (some (.new 15)),
 .list ws, .list [.any], .ro (.mk [0]), .inst 1006 16, .list [.sym [2], .sym [3]]] ++ ctxOs 16 12
noncomputable def gA : Cx := gy false noNe fun _ => none
noncomputable def idTm : V → V := fun v => v
noncomputable def cutA : Cut := ⟨[sOf "word", sOf "some", sOf "rows"], [], fun σ => 9 :: inCell σ 7 ++ rowsOf σ 6, idTm, fun _ => []⟩
theorem evA : segR (rcs gA 70) (part 0 10) cutA (oS os0) = some (oS osA) := by kernel_rfl
noncomputable def lkT : List (List Nat × V) → List Nat → Option V
 | [], _ => none
 | (t, v) :: l, x => bif eqL0 t x then some v else lkT l x
noncomputable def tmOf (tb : List (List Nat × V)) : V → V
 | .sym t => (match lkT tb t with | some v => v | none => .any)
 | v => v
theorem lkT_mem : ∀ {tb : List (List Nat × V)} {t : List Nat} {v : V}, lkT tb t = some v → (t, v) ∈ tb
 | [], _, _, h => by injection h
 | (t', v') :: tb, t, v, h => by
  unfold lkT at h
  refine nJ (eqL0 t' t) (fun q => ?_) (fun q => ?_)
  ·rw [q, cond_true] at h; injection h with q1; subst q1; rw [rJ.mp q]; exact .head _
  ·rw [q, cond_false] at h; exact .tail _ (lkT_mem h)
set_option tactic.hygienic true in
theorem hZ {τ τ' : Tau} {tb : List (List Nat × V)} (h : ∀ p ∈ tb, ∀ ρ u, ScR (τ.tau p.1) u → @VR τ' ρ p.2 u) : TmOk τ τ' (tmOf tb) := by
 intro v ρ ρ' u hv e
 cases v with
 | sym t =>
  unfold tmOf
  dsimp only
  split
  ·rename_i v' hl
   exact h _ (lkT_mem hl) ρ' u e
  ·exact @VR.handed τ _ _ _ e
 | bool b => exact e
 | int i => exact e
 | str s => exact e
 | _ => revert hv; refine orE (fun hv => ?_) (xvp fun t hv => ?_) <;> injection hv
noncomputable def ovNodes (nn : Nat) (σ : St) : List (Nat × O) := match inCell σ 8 with
 | [k] => (match σ.get k with
  | some (.list xs) => bif sameInts 0 xs && Nat.beq xs.length nn then [(k, .ro (.mk [0]))] else []
  | some (.ro (.mk [0])) => [(k, .ro (.mk [0]))]
  | _ => [])
 | _ => []
noncomputable def intsOf (n : Nat) : List V := (List.range n).map fun (i : Nat) => V.int (i : Int)
theorem ints_all {τ τ' : Tau} {ρ ρ' : List Addr} {xs : List V} {us : List Value} (h : ∀ v ∈ xs, ∃ i, v = .int i) (a : @cQ τ ρ xs us) : @cQ τ' ρ' xs us :=
 @cQ.ind τ ρ (fun xs us => (∀ v ∈ xs, ∃ i, v = .int i) → @cQ τ' ρ' xs us) (fun _ => trivial) (fun v vs u us e _ ih h => ⟨(h v (.head _)).elim fun i q => by subst q; exact e, ih fun v hv => h v (.tail _ hv)⟩) _ _ a h
theorem sameInts_eq {xs : List V} {n : Nat} (h : sameInts 0 xs = true) (hn : xs.length = n) : xs = intsOf n := by
 subst hn
 unfold intsOf
 refine List.ext_getElem? fun j => ?_
 rw [List.getElem?_map]
 by_cases hj : j < xs.length
 ·have e := List.getElem?_eq_getElem hj
  rw [e, List.getElem?_range hj, sameInts_ok h e, Nat.zero_add]; rfl
 ·rw [List.getElem?_eq_none_iff.mpr (by omega), List.getElem?_eq_none_iff.mpr (by rw [List.length_range]; omega)]; rfl
theorem intsOf_int {n : Nat} : ∀ v ∈ intsOf n, ∃ i, v = V.int i := by
 intro v hv
 refine xvdp (fun i q1 => ?_) (List.mem_map.mp hv); subst q1
 exact ⟨_, rfl⟩
section
variable {P : Program} {w : World} {a b a' b' : Int} {ex ex' : List Nat → V} {nn : Nat} {pk pk' : List Nat → List O}
set_option tactic.hygienic true in
theorem ovNodes_ok {X : Wl} {σ : St} : OvOk P w (jQ P w a b ex nn pk) (jQ P w a' b' ex' nn pk') X σ (ovNodes nn σ) := by
 intro n o' h
 unfold ovNodes at h
 split at h
 ·rename_i k hk
  split at h
  ·rename_i xs hx
   refine bE ((sameInts 0 xs && Nat.beq xs.length nn)) (fun hc => ?_) (fun hc => ?_)
   ·rw [hc] at h; injection h
   ·
    rw [hc, cond_true] at h
    refine aN (fun c1 c2 => ?_) hc
    have h : (if Nat.beq k n then some (O.ro (.mk [0])) else none) = some o' := h
    split at h
    ·rename_i hkn
     injection h with q1; subst q1
     rw [← nE hkn]
     refine ⟨_, hx, .inl rfl, (fun h => by injection h), fun X' _ ob hob => ?_⟩
     revert hob; refine xvvpp fun us m q1 hu => ?_; subst q1
     have e := sameInts_eq c1 (nE c2)
     rw [e] at hu
     exact ⟨us, m, rfl, ints_all intsOf_int hu⟩
    ·injection h
  ·rename_i hx
   have h : (if Nat.beq k n then some (O.ro (.mk [0])) else none) = some o' := h
   split at h
   ·rename_i hkn
    injection h with q1; subst q1
    rw [← nE hkn]
    exact ⟨_, hx, .inr (.inl ⟨_, rfl⟩), (fun h => by injection h), fun X' _ ob hob => hob⟩
   ·injection h
  ·injection h
 ·injection h
end
noncomputable def gL (ps : List Nat → Option Bool) : Cx := gy false noNe (lawO ps)
noncomputable def noK : List Nat → Option Nat := fun _ => none
noncomputable def noP : List Nat → Option Bool := fun _ => none
structure ExOk (ex : List Nat → V) : Prop where
 h21 : 0 ≤ dQ (ex [21]) ∧ dQ (ex [21]) < 500
 h22 : 0 ≤ dQ (ex [22]) ∧ dQ (ex [22]) < 6
structure Fixed where
 P : Program
 w : World
 K : Frag
 l : List Env
 A : Around
 X₀ : Wl
 env : Env
structure LawS (Z : Fixed) (a b : Int) (ex : List Nat → V) (nn : Nat) (pk : List Nat → List O) (os : List O) (s : Shared) : Prop where
 ok : ExOk ex
 st : ∃ X, LawI Z.X₀ X ∧ @Sit (jQ Z.P Z.w a b ex nn pk) Z.P Z.w (gL noP) Z.K gT 70 Z.l Z.A X (oS os) s ∧ bQ Z.l X f0 Z.env
section
variable {Z : Fixed} {a b a' b' : Int} {ex ex' : List Nat → V} {nn nn' : Nat} {pk pk' : List Nat → List O} {os os' : List O} {s : Shared} {C : Cut} {bd rest : List Stmt} {Q : Flow → Shared → Prop} {E : Value → Shared → Prop}
theorem LawS.view (L : LawS Z a b ex nn pk os s) (h : (C.gc (oS os)).st (oS os) = some (oS os')) (hns : ∃ m, (oS os').get 5 = some (.ns m)) (hE : ExOk ex') (htm : TmOk (jQ Z.P Z.w a b ex nn pk) (jQ Z.P Z.w a' b' ex' nn' pk') C.tm)
  (hov : ∀ X, OvOk Z.P Z.w (jQ Z.P Z.w a b ex nn pk) (jQ Z.P Z.w a' b' ex' nn' pk') X (oS os) (C.ov (oS os))) : LawS Z a' b' ex' nn' pk' os' s := by
 obtain ⟨_, X, I, S, e⟩ := L
 refine xvppp (fun Y I' S' e' => ?_) (view_go (g' := gL noP) I S e h hns htm (hov X) rfl (aJ.yy (@Sit.cx (jQ Z.P Z.w a b ex nn pk) _ _ _ _ _ _ _ _ _ _ _ S) (by intros; contradiction) (lawO_ok (by intros; contradiction) hE.h21 hE.h22)))
 exact ⟨hE, Y, I', S', e'⟩
theorem LawS.step (L : LawS Z a b ex nn pk os s) {ps : List Nat → Option Bool} {kn : List Nat → Option Nat} (hp : ∀ ts c, ps ts = some c → decide (0 < dig a b ts) = c) (hk : ∀ ts d, kn ts = some d → dig a b ts = d)
  (h : segR (rcsH (gL ps) (takeH kn) 70) bd C (oS os) = some (oS os')) (hns : ∃ m, (oS os').get 5 = some (.ns m)) (hE : ExOk ex') (htm : TmOk (jQ Z.P Z.w a b ex nn pk) (jQ Z.P Z.w a' b' ex' nn' pk') C.tm)
  (hov : ∀ σ'' X, OvOk Z.P Z.w (jQ Z.P Z.w a b ex nn pk) (jQ Z.P Z.w a' b' ex' nn' pk') X σ'' (C.ov σ''))
  (q : ∀ s', LawS Z a' b' ex' nn' pk' os' s' → wpAny (model Z.P Z.w) Z.A (execs rest Z.env) Q E s') : wpAny (model Z.P Z.w) Z.A (execs (bd ++ rest) Z.env) Q E s := by
 obtain ⟨hE₀, X, I, S, e⟩ := L
 have cx := @Sit.cx (jQ Z.P Z.w a b ex nn pk) _ _ _ _ _ _ _ _ _ _ _ S
 have S₁ : @Sit (jQ Z.P Z.w a b ex nn pk) Z.P Z.w (gL ps) Z.K gT 70 Z.l Z.A X (oS os) s := by
  obtain ⟨s1, s2, s3, s4, s5⟩ := S
  exact @Sit.mk (jQ Z.P Z.w a b ex nn pk) _ _ _ _ _ _ _ _ _ _ _ s1 (fun _ => s2 rfl) (aJ.yy s3 (by intros; contradiction) (lawO_ok hp hE₀.h21 hE₀.h22)) s4 s5
 refine seg_go (g' := gL noP) (take_hook (τ := jQ Z.P Z.w a b ex nn pk) lawτ_draw hk) I S₁ e h hns htm (fun σ'' Y _ => hov σ'' Y) rfl (fun B hB => aJ.yy (@aJ.keeps (jQ Z.P Z.w a b ex nn pk) _ _ _ _ _ cx hB) (by intros; contradiction) (lawO_ok (by intros; contradiction) hE.h21 hE.h22)) fun Y s' I' S' e' => q s' ⟨hE, Y, I', S', e'⟩
end
noncomputable def knA (i : Nat) (d : Nat) : List Nat → Option Nat := fun t => bif eqL0 t [i] then some d else none
noncomputable def cutB (n : Nat) : Cut := ⟨[], [sOf "tree"], fun σ => 6 :: inCell σ 7, tmOf [([2, n, 9, 12, 4], .sym [2]), ([3, n, 9, 12, 4], .sym [3]), ([5, 12, 4], .sym [20]), ([6, 9, 12, 4], .sym [21]), ([4, n, 9, 12, 4], .sym [22])], ovNodes n⟩
noncomputable def cutV (nn : Nat) (word : V) : Cut := ⟨[], [sOf "tree"], fun _ => [6], tmOf [([2], .sym [2]), ([3], .sym [3]), ([20], word), ([21], .sym [21]), ([22], .sym [22])], ovNodes nn⟩
noncomputable def cutD (nn : Nat) : Cut := ⟨[sOf "word", sOf "place", sOf "node"], [sOf "tree"], fun σ => 6 :: inCell σ 7, tmOf [([2, 9, 3], .sym [2]), ([3, 9, 3], .sym [3])], ovNodes nn⟩
noncomputable def tens : Nat → List Nat → List Nat
 | 0, l => l
 | k + 1, l => 10 :: tens k l
noncomputable def cutE (nn k : Nat) : Cut := ⟨[], [sOf "tree"], fun σ => 6 :: inCell σ 7, tmOf ([(2 :: 6 :: tens k [4], .sym [2]), (3 :: 6 :: tens k [4], .sym [3]), (5 :: 6 :: tens k [4], .sym [24])] ++ (List.range k).map fun i => (5 :: tens (i + 1) [4], .sym [23, i])), ovNodes nn⟩
noncomputable def toks (h : Nat) (k : Nat) : List V := (List.range k).map fun i => V.sym [h, i]
theorem evB : ((List.range 4).map fun d => segR (rcsH (gL noP) (takeH (knA 4 d)) 70) (part 11 15) (cutB (d + 3)) (oS osB)) = (List.range 4).map fun _ => some (oS (osD (.sym [20]) (.sym [21]) (.sym [22]))) := by kernel_rfl
theorem evV (nn : Nat) : (words12.map fun x => ((cutV nn (.str x)).gc (oS (osD (.sym [20]) (.sym [21]) (.sym [22])))).st (oS (osD (.sym [20]) (.sym [21]) (.sym [22])))) = words12.map fun x => some (oS (osD (.str x) (.sym [21]) (.sym [22]))) := by kernel_rfl
theorem evD (nn : Nat) : (words12.map fun x => segR (rcsH (gL noP) (takeH noK) 70) (part 15 16) (cutD nn) (oS (osD (.str x) (.sym [21]) (.sym [22])))) = words12.map fun x => some (oS (osD .any .any .any)) := by kernel_rfl
theorem evE (nn : Nat) : ((List.range 4).map fun k => segR (rcsH (gL noP) (takeH (knA 4 k)) 70) (part 16 18) (cutE nn k) (oS (osD .any .any .any))) = (List.range 4).map fun k => some (oS (osF (toks 23 k) (.sym [24]))) := by kernel_rfl
theorem eJ {α β : Type} {f g : α → β} {l : List α} (h : l.map f = l.map g) {x : α} (hx : x ∈ l) : f x = g x := List.map_inj_left.mp h x hx
noncomputable def ex0 : List Nat → V := fun _ => .int 0
theorem aZ : ExOk ex0 := ⟨⟨by decide, by decide⟩, ⟨by decide, by decide⟩⟩
theorem knA_ok {a b : Int} {i d : Nat} (h : dig a b [i] = d) : ∀ ts c, knA i d ts = some c → dig a b ts = c := by
 intro ts c hc
 unfold knA at hc
 revert hc; refine iQ fun q hc => ?_
 injection hc with q1; subst q1; rw [rJ.mp q]; exact h
theorem dig_nat (a b : Int) {t : Nat} (h : 0 < t) (ts : List Nat) : ∃ d : Nat, d < t ∧ dig a b (t :: ts) = d := by
 have := dig_bounds a b h ts
 exact ⟨(dig a b (t :: ts)).toNat, by omega, by omega⟩
theorem osD_ns (x y z : V) : ∃ m, (oS (osD x y z)).get 5 = some (.ns m) := ⟨_, (nQ (nL rfl) 5).trans rfl⟩
theorem osF_ns (x : List V) (y : V) : ∃ m, (oS (osF x y)).get 5 = some (.ns m) := ⟨_, (nQ (nL rfl) 5).trans rfl⟩
section
variable {Z : Fixed} {a b : Int} {ex : List Nat → V} {nn : Nat} {pk : List Nat → List O} {s : Shared} {rest : List Stmt} {Q : Flow → Shared → Prop} {E : Value → Shared → Prop}
structure ExD (ex : List Nat → V) : Prop where
 w : ∃ x ∈ words12, ex [20] = .str x
noncomputable def exB (a b : Int) (n : Nat) : List Nat → V
 | [20] => .str (nthS words12 (dig a b [12, 4]))
 | [21] => .int (1 + dig a b [9, 12, 4])
 | [22] => .int (dig a b [n, 9, 12, 4])
 | _ => .int 0
theorem nthS_mem {l : List Str} {t : Nat} {d : Nat} (h : d < t) (hl : l.length = t) : nthS l (d : Int) ∈ l := by
 unfold nthS
 rw [Int.toNat_natCast, List.getD_eq_getElem?_getD, List.getElem?_eq_getElem (by omega)]
 exact List.getElem_mem _
theorem law_B (hn : nn = (dig a b [4]).toNat + 3) (L : LawS Z a b ex nn pk osB s) (q : ∀ a' b' ex' n s', 3 ≤ n → n ≤ 6 → ExD ex' → LawS Z a' b' ex' n pk (osD (.sym [20]) (.sym [21]) (.sym [22])) s' → wpAny (model Z.P Z.w) Z.A (execs rest Z.env) Q E s') :
  wpAny (model Z.P Z.w) Z.A (execs (part 11 15 ++ rest) Z.env) Q E s := by
 refine aQ (fun d hd e => ?_) (dig_nat a b (t := 4) (by decide) [])
 have h := eJ evB (List.mem_range.mpr hd)
 have hn : nn = d + 3 := by rw [hn, e]; rfl
 subst hn
 refine aQ (fun i hi ei => ?_) (dig_nat a b (t := 12) (by decide) [4])
 refine aQ (fun j hj ej => ?_) (dig_nat a b (t := 9) (by decide) [12, 4])
 refine aQ (fun k hk ek => ?_) (dig_nat a b (t := d + 3) (by omega) [9, 12, 4])
 refine L.step (a' := (src a b [d + 3, 9, 12, 4]).1) (b' := (src a b [d + 3, 9, 12, 4]).2) (ex' := exB a b (d + 3)) (nn' := d + 3) (pk' := pk) (ps := noP) (by intros; contradiction) (knA_ok e) h (osD_ns _ _ _) ?_ (hZ ?_) ?_ fun s' => q _ _ _ (d + 3) s' (by omega) (by omega) ?_
 ·refine ⟨?_, ?_⟩
  ·show 0 ≤ 1 + dig a b [9, 12, 4] ∧ 1 + dig a b [9, 12, 4] < 500
   omega
  ·show 0 ≤ dig a b [d + 3, 9, 12, 4] ∧ dig a b [d + 3, 9, 12, 4] < 6
   omega
 ·intro p hp ρ u hu
  simp only [List.mem_cons, List.not_mem_nil, or_false] at hp
  rcases hp with rfl | rfl | rfl | rfl | rfl <;> exact hu
 ·intro σ'' X; exact ovNodes_ok
 ·exact ⟨_, nthS_mem hi rfl, by show V.str (nthS words12 (dig a b [12, 4])) = _; rw [ei]⟩
noncomputable def exD (ex : List Nat → V) : List Nat → V
 | [21] => ex [21]
 | [22] => ex [22]
 | _ => .int 0
theorem law_D (hD : ExD ex) (L : LawS Z a b ex nn pk (osD (.sym [20]) (.sym [21]) (.sym [22])) s) (q : ∀ a' b' s', LawS Z a' b' ex0 nn pk (osD .any .any .any) s' → wpAny (model Z.P Z.w) Z.A (execs rest Z.env) Q E s') :
  wpAny (model Z.P Z.w) Z.A (execs (part 15 16 ++ rest) Z.env) Q E s := by
 refine aQ (fun x hx hw => ?_) (hD.w)
 have L' : LawS Z a b ex nn pk (osD (.str x) (.sym [21]) (.sym [22])) s := by
  refine L.view (eJ (evV nn) hx) (osD_ns _ _ _) L.ok (hZ ?_) fun X => ovNodes_ok
  intro p hp ρ u hu
  simp only [List.mem_cons, List.not_mem_nil, or_false] at hp
  rcases hp with rfl | rfl | rfl | rfl | rfl
  ·exact hu
  ·exact hu
  ·have : (jQ Z.P Z.w a b ex nn pk).tau [20] = .str x := by
    show (bif isSc (ex [20]) then ex [20] else V.bool true) = _
    rw [hw]; rfl
   rw [this] at hu
   exact hu
  ·exact hu
  ·exact hu
 refine L'.step (a' := (src a b [9, 3]).1) (b' := (src a b [9, 3]).2) (ex' := ex0) (nn' := nn) (pk' := pk) (ps := noP) (kn := noK) (by intros; contradiction) (by intros; contradiction) (eJ (evD nn) hx) (osD_ns _ _ _) aZ (hZ ?_) (fun σ'' X => ovNodes_ok) fun s' => q _ _ s'
 intro p hp ρ u hu
 simp only [List.mem_cons, List.not_mem_nil, or_false] at hp
 rcases hp with rfl | rfl <;> exact hu
structure ExF (k : Nat) (ex : List Nat → V) : Prop where
 n : ∃ x ∈ names6, ex [24] = .str x
 w : ∀ i, i < k → ∃ x ∈ words10, ex [23, i] = .str x
noncomputable def exE (a b : Int) (k : Nat) : List Nat → V
 | [23, i] => .str (nthS words10 (dig a b (tens (i + 1) [4])))
 | [24] => .str (nthS names6 (dig a b (6 :: tens k [4])))
 | _ => .int 0
theorem law_E (L : LawS Z a b ex nn pk (osD .any .any .any) s) (q : ∀ a' b' ex' k s', k < 4 → ExF k ex' → LawS Z a' b' ex' nn pk (osF (toks 23 k) (.sym [24])) s' → wpAny (model Z.P Z.w) Z.A (execs rest Z.env) Q E s') :
  wpAny (model Z.P Z.w) Z.A (execs (part 16 18 ++ rest) Z.env) Q E s := by
 refine aQ (fun k hk e => ?_) (dig_nat a b (t := 4) (by decide) [])
 have h := eJ (evE nn) (List.mem_range.mpr hk)
 refine L.step (a' := (src a b (6 :: tens k [4])).1) (b' := (src a b (6 :: tens k [4])).2) (ex' := exE a b k) (nn' := nn) (pk' := pk) (ps := noP) (by intros; contradiction) (knA_ok e) h (osF_ns _ _) ⟨aZ.h21, aZ.h22⟩ (hZ ?_) (fun σ'' X => ovNodes_ok) fun s' => q _ _ _ k s' hk ⟨?_, fun i hi => ?_⟩
 ·intro p hp ρ u hu
  refine orE (fun hp => ?_) (fun hp => ?_) (List.mem_append.mp hp)
  ·simp only [List.mem_cons, List.not_mem_nil, or_false] at hp
   rcases hp with rfl | rfl | rfl <;> exact hu
  ·refine xvdp (fun i q1 => ?_) (List.mem_map.mp hp); subst q1
   exact hu
 ·refine aQ (fun d hd ed => ?_) (dig_nat a b (t := 6) (by decide) (tens k [4]))
  exact ⟨_, nthS_mem hd rfl, by show V.str (nthS names6 (dig a b (6 :: tens k [4]))) = _; rw [ed]⟩
 ·refine aQ (fun d hd ed => ?_) (dig_nat a b (t := 10) (by decide) (tens i [4]))
  exact ⟨_, nthS_mem hd rfl, by show V.str (nthS words10 (dig a b (10 :: tens i [4]))) = _; rw [ed]⟩
end
noncomputable def great (x : Int) : Int := if x < -1 - x then -1 - x else x
noncomputable def poolB (x : Int) : Int := Int.fmod ((Int.fmod (great x) 2147483629 + 17) * 48271) 2147483647
noncomputable def poolL (xs : List Int) : List V := [.bool true, .int (-1 - xs.getD 0 0), .int (great (xs.getD 0 0)), .int (Int.fmod (great (xs.getD 0 0)) 2147483629), .int (Int.fmod (great (xs.getD 0 0)) 2147483629 + 17), .int ((Int.fmod (great (xs.getD 0 0)) 2147483629 + 17) * 48271), .int (poolB (xs.getD 0 0))]
noncomputable def poolT (xs : List Int) (l : List Nat) : V := match l with
 | [] => .bool true
 | k :: l => (match l with
  | [] => (poolL xs).getD k (.bool true)
  | i :: _ => .int (xs.getD i 0))
@[reducible] noncomputable def bJ (xs : List Int) : Tau := tauOf (poolT xs) (mono := fun _ h => h)
noncomputable def poolQ (c : Bool) : List (Qn × V) := [(.bin .Sub (.int (-1)) (.sym [0, 0]), .sym [1]), (.max (.sym [0, 0]) (.sym [1]), .sym [2]), (.cmp .GtE (.sym [2]) (.int 1000000000000000000), .bool c), (.bin .Mod (.sym [2]) (.int 2147483629), .sym [3]), (.bin .Add (.sym [3]) (.int 17), .sym [4]), (.bin .Mult (.sym [4]) (.int 48271), .sym [5]), (.bin .Mod (.sym [5]) (.int 2147483647), .sym [6])]
noncomputable def poolO (c : Bool) : Qn → Option V := lkQ (poolQ c)
noncomputable def big (xs : List Int) : Bool := decide ((1000000000000000000 : Int) ≤ great (xs.getD 0 0))
theorem poolO_ok {xs : List Int} {g : Cx} : ∀ q v, poolO (big xs) q = some v → @OrcD (bJ xs) g q v := by
 intro q v h
 refine lkQ_all (l := poolQ (big xs)) ⟨fun σ => ⟨_, rfl, fun ρ u h => h⟩, ⟨_, _, rfl, rfl, fun ρ u h => h⟩, ⟨_, rfl, fun σ => rfl⟩, fun σ => ⟨_, rfl, fun ρ u h => h⟩, fun σ => ⟨_, rfl, fun ρ u h => h⟩, fun σ => ⟨.int ((Int.fmod (great (xs.getD 0 0)) 2147483629 + 17) * 48271), ?_, fun ρ u h => h⟩, fun σ => ⟨_, rfl, fun ρ u h => h⟩, trivial⟩ h
 show (bif Nat.blt (Int.natAbs _) 4294967296 || Nat.blt (48271 : Int).natAbs 4294967296 then Res.ok (V.int _) σ else Res.stop "mult") = _
 rw [show Nat.blt (48271 : Int).natAbs 4294967296 = true from rfl, Bool.or_true]; rfl
noncomputable def toksP (n : Nat) : List V := (List.range n).map fun i => V.sym [0, i]
noncomputable def gP (n : Nat) (c : Bool) : Cx := gx (toksP n) false noNe (poolO c)
noncomputable def ovO (k : Nat) (y : Option O) : List (Nat × O) := match y with
 | some o => [(k, o)]
 | none => []
noncomputable def ovOne (k : Nat) (f : List V → Option O) (x : Option O) : List (Nat × O) := match x with
 | none => []
 | some x => (match x with
  | .list xs => ovO k (f xs)
  | _ => [])
noncomputable def ovList (σ : St) (c : Nat) (f : List V → Option O) : List (Nat × O) := match inCell σ c with
 | [] => []
 | k :: l => (match l with
  | _ :: _ => []
  | [] => ovOne k f (σ.get k))
theorem lk_one {α : Type} {k n : Nat} {o o' : α} (h : lk [(k, o)] n = some o') : k = n ∧ o = o' := by
 have h : (if Nat.beq k n then some o else none) = some o' := h
 refine nJ (Nat.beq k n) (fun q => ?_) (fun q => ?_)
 ·rw [q, if_pos rfl] at h; injection h with q1; subst q1; exact ⟨nE q, rfl⟩
 ·rw [q, if_neg (by decide)] at h; injection h
theorem ovO_ok {k n : Nat} {y : Option O} {o : O} (h : lk (ovO k y) n = some o) : k = n ∧ y = some o := by
 cases y with
 | none => injection h
 | some o' => refine xpp (fun h1 h2 => ?_) (lk_one h); exact ⟨h1, congrArg some h2⟩
theorem ovOne_ok {k n : Nat} {f : List V → Option O} {x : Option O} {o : O} (h : lk (ovOne k f x) n = some o) : k = n ∧ ∃ xs, x = some (.list xs) ∧ f xs = some o := by
 cases x with
 | none => injection h
 | some x => cases x with
  | list xs => refine xpp (fun h1 h2 => ?_) (ovO_ok h); exact ⟨h1, xs, rfl, h2⟩
  | _ => exact nos h
theorem ovList_ok {σ : St} {c : Nat} {f : List V → Option O} {n : Nat} {o : O} (h : lk (ovList σ c f) n = some o) : ∃ xs, σ.get n = some (.list xs) ∧ f xs = some o := by
 unfold ovList at h
 revert h
 cases inCell σ c with
 | nil => exact fun h => by cases (h : (none : Option O) = some o)
 | cons k l => cases l with
  | cons => exact fun h => by cases (h : (none : Option O) = some o)
  | nil => exact fun h => by refine xpp (fun q1 h2 => ?_) (ovOne_ok h); subst q1; exact h2
noncomputable def poolF (c : Bool) (xs : List V) : Option O := bif vsEq xs [bif c then .sym [2] else .int 0, .sym [6]] then some (.list [.sym [2], .sym [3]]) else none
noncomputable def poolF0 (xs : List V) : Option O := bif vsEq xs [.int 0, .int 820607] then some (.list [.sym [2], .sym [3]]) else none
noncomputable def ovPool (c : Bool) (σ : St) : List (Nat × O) := ovList σ 10 (poolF c)
noncomputable def ovPool0 (σ : St) : List (Nat × O) := ovList σ 10 poolF0
noncomputable def cutP (c : Bool) : Cut := ⟨[], [], fun _ => [], tmOf [], ovPool c⟩
noncomputable def cutP0 : Cut := ⟨[], [], fun _ => [], tmOf [], ovPool0⟩
theorem evP0 : segR (rcs (gP 0 false) 70) (part 10 11) cutP0 (oS osA) = some (oS osB) := by kernel_rfl
theorem evP (c : Bool) : ((List.range 63).map fun n => segR (rcs (gP (n + 1) c) 70) (part 10 11) (cutP c) (oS osA)) = (List.range 63).map fun n => some (oS osB) := by
 cases c <;> kernel_rfl
structure LawP (Z : Fixed) (xs : List Int) (os : List O) (s : Shared) : Prop where
 st : ∃ X, LawI Z.X₀ X ∧ @Sit (bJ xs) Z.P Z.w (gP xs.length (big xs)) Z.K gT 70 Z.l Z.A X (oS os) s ∧ bQ Z.l X f0 Z.env
noncomputable def poolA (xs : List Int) : Int := if big xs then great (xs.getD 0 0) else 0
theorem osA_ns : ∃ m, (oS osA).get 5 = some (.ns m) := ⟨_, (nQ (os := osA) (nL rfl) 5).trans rfl⟩
theorem osB_ns : ∃ m, (oS osB).get 5 = some (.ns m) := ⟨_, (nQ (os := osB) (nL rfl) 5).trans rfl⟩
theorem id_tm {τ : Tau} : TmOk τ τ idTm := by
 intro v ρ ρ' u hv h
 cases v with
 | sym t => exact h
 | bool b => exact h
 | int i => exact h
 | str s => exact h
 | _ => revert hv; refine orE (fun hv => ?_) (xvp fun t hv => ?_) <;> injection hv
theorem ov_nil {P : Program} {w : World} {τ τ' : Tau} {X : Wl} {σ : St} : OvOk P w τ τ' X σ [] := by intro n o' h; injection h
theorem no_hook {τ : Tau} {P : Program} {w : World} {g : Cx} {K : Frag} {T : List Addr} : @wJ τ P w g K T noHook := by intro n fv vs u us σ X s A l Q E q h; injection h
section
variable {Z : Fixed} {xs : List Int} {nn : Nat} {pk : List Nat → List O} {s : Shared} {rest : List Stmt} {Q : Flow → Shared → Prop} {E : Value → Shared → Prop}
theorem law_A (L : LawP Z xs os0 s) (q : ∀ s', LawP Z xs osA s' → wpAny (model Z.P Z.w) Z.A (execs rest Z.env) Q E s') : wpAny (model Z.P Z.w) Z.A (execs (part 0 10 ++ rest) Z.env) Q E s := by
 obtain ⟨X, I, S, e⟩ := L
 obtain ⟨s1, s2, s3, s4, s5⟩ := S
 have S₁ : @Sit (bJ xs) Z.P Z.w gA Z.K gT 70 Z.l Z.A X (oS os0) s := @Sit.mk (bJ xs) _ _ _ _ _ _ _ _ _ _ _ s1 (fun _ => s2 rfl) (aJ.xy s3 (by intro t x h; injection h) (by intro z v h; injection h)) s4 s5
 exact seg_go (g' := gP xs.length (big xs)) (τ' := bJ xs) (H := noHook) (C := cutA) (N := 69) no_hook I S₁ e evA osA_ns id_tm (fun _ _ _ => ov_nil) rfl (fun B hB => @aJ.keeps (bJ xs) _ _ _ _ _ s3 hB) fun Y s' I' S' e' => q s' ⟨Y, I', S', e'⟩
theorem two_list {τ τ' : Tau} {ρ ρ' : List Addr} {v w v' w' : V} {us : List Value} (h : @cQ τ ρ [v, w] us) (h1 : ∀ u, @VR τ ρ v u → @VR τ' ρ' v' u) (h2 : ∀ u, @VR τ ρ w u → @VR τ' ρ' w' u) : @cQ τ' ρ' [v', w'] us :=
 h.un fun _ _ e0 a t => t.un fun _ _ e1 b t => by rw [e0, e1, t.nl]; exact ⟨h1 _ a, h2 _ b, trivial⟩
theorem two_list' {τ τ' : Tau} {P : Program} {w : World} {X X' : Wl} {v w' v' w'' : V} {ob : Obj} (h : @pQ τ P w X ob (.list [v, w'])) (h1 : ∀ u, @VR τ X.ρ v u → @VR τ' X'.ρ v' u) (h2 : ∀ u, @VR τ X.ρ w' u → @VR τ' X'.ρ w'' u) : @pQ τ' P w X' ob (.list [v', w'']) := by
 revert h; refine xvvpp fun us n e h => ?_
 exact ⟨us, n, e, two_list h h1 h2⟩
theorem ovPool_ok {P : Program} {w : World} {X : Wl} {σ : St} : OvOk P w (bJ xs) (jQ P w (poolA xs) (poolB (xs.getD 0 0)) ex0 nn pk) X σ (ovPool (big xs) σ) := by
 intro n o' h
 refine aQ (fun ys hn h => ?_) (ovList_ok h)
 refine iF (fun h1 q1 => ?_) h; subst q1
 rw [vsEq_ok h1] at hn
 refine ⟨_, hn, .inl rfl, fun _ => rfl, fun X' _ ob hob => two_list' (τ := bJ xs) (τ' := jQ P w (poolA xs) (poolB (xs.getD 0 0)) ex0 nn pk) (X := X) (X' := X') hob (fun u h => ?_) (fun u h => h)⟩
 show ScR (V.int (poolA xs)) u
 unfold poolA
 refine cZ (big xs) (fun hb => ?_) (fun hb => ?_)
 ·rw [hb] at h; exact h
 ·rw [hb] at h; exact h
theorem ovPool0_ok {P : Program} {w : World} {X : Wl} {σ : St} : OvOk P w (bJ []) (jQ P w 0 820607 ex0 nn pk) X σ (ovPool0 σ) := by
 intro n o' h
 refine aQ (fun ys hn h => ?_) (ovList_ok h)
 refine iF (fun h1 q1 => ?_) h; subst q1
 rw [vsEq_ok h1] at hn
 exact ⟨_, hn, .inl rfl, fun _ => rfl, fun X' _ ob hob => two_list' (τ := bJ []) (τ' := jQ P w 0 820607 ex0 nn pk) (X := X) (X' := X') hob (fun u h => h) (fun u h => h)⟩
theorem none_tm {τ τ' : Tau} : TmOk τ τ' (tmOf []) := hZ fun p hp => by cases hp
theorem law_P (hl : xs.length ≤ 63) (hn : nn = nn) (L : LawP Z xs osA s) (q : ∀ s', LawS Z (poolA xs) (poolB (xs.getD 0 0)) ex0 nn pk osB s' → wpAny (model Z.P Z.w) Z.A (execs rest Z.env) Q E s') :
  wpAny (model Z.P Z.w) Z.A (execs (part 10 11 ++ rest) Z.env) Q E s := by
 obtain ⟨X, I, S, e⟩ := L
 have cx := @Sit.cx (bJ xs) _ _ _ _ _ _ _ _ _ _ _ S
 have hc : ∀ B, X.B.StaysIn B → @aJ (jQ Z.P Z.w (poolA xs) (poolB (xs.getD 0 0)) ex0 nn pk) (gL noP) Z.K gT B := fun B hB => aJ.xy (@aJ.keeps (bJ xs) _ _ _ _ _ cx hB) (by intro t x h; injection h) (lawO_ok (by intro t x h; injection h) aZ.h21 aZ.h22)
 cases xs with
 | nil =>
  have hc0 : ∀ B, X.B.StaysIn B → @aJ (jQ Z.P Z.w 0 820607 ex0 nn pk) (gL noP) Z.K gT B := hc
  exact seg_go (g' := gL noP) (τ' := jQ Z.P Z.w 0 820607 ex0 nn pk) (H := noHook) (C := cutP0) (N := 69) no_hook I S e evP0 osB_ns none_tm (fun _ _ _ => ovPool0_ok) rfl hc0 fun Y s' I' S' e' => q s' ⟨aZ, Y, I', S', e'⟩
 | cons x xs =>
  have hlt : xs.length < 63 := by rw [List.length_cons] at hl; omega
  have h := eJ (evP (big (x :: xs))) (List.mem_range.mpr hlt)
  exact seg_go (g' := gL noP) (τ' := jQ Z.P Z.w (poolA (x :: xs)) (poolB ((x :: xs).getD 0 0)) ex0 nn pk) (H := noHook) (C := cutP (big (x :: xs))) (N := 69) no_hook I S e h osB_ns none_tm (fun _ _ _ => ovPool_ok) rfl hc fun Y s' I' S' e' => q s' ⟨aZ, Y, I', S', e'⟩
end
noncomputable def osG : List O := tabs5 ++ [ns8 .any .any, .cell (some .any), .cell (some .any), .cell (some (.new 11)), .cell (some .any), .cell (some (.new 12)), .ro (.mk [0]), .list [.sym [2], .sym [3]]]
noncomputable def osG' (n : Nat) : List O := tabs5 ++ [ns8 .any .any, .cell (some .any), .cell (some .any), .cell (some (.new 11)), .cell (some .any), .cell (some (.new 12)), .ro (.list (intsOf n)), .list [.sym [2], .sym [3]]]
noncomputable def ns9 (rows held : V) : O := .ns [(sOf "script", .old 1305), (sOf "word", .any), (sOf "some", .any), (sOf "rows", rows), (sOf "place", .any), (sOf "node", .any), (sOf "words", .any), (sOf "name", .any), (sOf "held", held)]
noncomputable def osH (m : Nat) : List O := tabs5 ++ [ns9 .any (.new 11), .cell (some .any), .cell (some .any), .cell (some .any), .cell (some .any), .cell (some (.new 12)), .list (toks 25 m), .list [.sym [2], .sym [3]]]
noncomputable def rowOs (r : Nat) : List O := (List.range r).map fun i => O.tup [.sym [26, i], .sym [27, i]]
noncomputable def osI (m r : Nat) : List O := tabs5 ++ [ns9 (.new 11) (.new 12), .cell (some .any), .cell (some .any), .cell (some .any), .cell (some .any), .cell (some (.new 13)), .list ((List.range r).map fun i => V.new (14 + i)), .list (toks 25 m), .list [.sym [2], .sym [3]]] ++ rowOs r
noncomputable def ovSpec (nn : Nat) (σ : St) : List (Nat × O) := match inCell σ 8 with
 | [k] => (match σ.get k with
  | some (.ro (.mk [0])) => [(k, .ro (.list (intsOf nn)))]
  | _ => [])
 | _ => []
noncomputable def cutS (n : Nat) : Cut := ⟨[], [], fun _ => [], tmOf [([2], .sym [2]), ([3], .sym [3])], ovSpec n⟩
noncomputable def all3 : List Nat → Bool
 | [] => true
 | t :: ts => bif Nat.beq t 3 then all3 ts else false
noncomputable def psB (bs : List Bool) (ts : List Nat) : Option Bool := bif all3 ts && Nat.blt 0 ts.length then bs[ts.length - 1]? else none
noncomputable def bl : Nat → List (List Bool)
 | 0 => [[]]
 | n + 1 => (bl n).flatMap fun l => [true :: l, false :: l]
noncomputable def subOf : List Bool → Nat → List Nat
 | [], _ => []
 | b :: l, i => bif b then i :: subOf l (i + 1) else subOf l (i + 1)
noncomputable def sameNats : List V → List Nat → Bool
 | [], [] => true
 | .int (.ofNat i) :: l, j :: r => bif Nat.beq i j then sameNats l r else false
 | _, _ => false
noncomputable def ovHeld (xs : List Nat) (σ : St) : List (Nat × O) := match σ.get 5 with
 | some (.ns m) => (match look m (sOf "held") with
  | some (.new h) => (match σ.get h with
   | some (.list ys) => bif sameNats ys xs then [(h, .list (toks 25 xs.length))] else []
   | _ => [])
  | _ => [])
 | _ => []
noncomputable def threes : Nat → List Nat
 | 0 => []
 | k + 1 => 3 :: threes k
noncomputable def cutG (n : Nat) (bs : List Bool) : Cut := ⟨[], [], fun _ => [8], tmOf [(2 :: threes n, .sym [2]), (3 :: threes n, .sym [3])], ovHeld (subOf bs 0)⟩
noncomputable def casesG : List (Nat × List Bool) := [3, 4, 5, 6].flatMap fun n => (bl n).map fun bs => (n, bs)
noncomputable def rh : Nat → List Nat
 | 0 => [3]
 | i + 1 => 4 :: 9 :: rh i
noncomputable def cutH (m r : Nat) : Cut := ⟨[], [], fun _ => [], tmOf ([(2 :: rh r, .sym [2]), (3 :: rh r, .sym [3])] ++ (List.range m).map (fun i => ([25, i], .sym [25, i])) ++ (List.range r).map (fun i => (5 :: 9 :: rh i, .sym [26, i])) ++ (List.range r).map (fun i => (6 :: 4 :: 9 :: rh i, .sym [27, i]))), fun _ => []⟩
noncomputable def casesH : List (Nat × Nat) := (List.range 7).flatMap fun m => (List.range 3).map fun r => (m, r)
theorem evS : ([3, 4, 5, 6].map fun n => ((cutS n).gc (oS osG)).st (oS osG)) = [3, 4, 5, 6].map fun n => some (oS (osG' n)) := by kernel_rfl
theorem evG : (casesG.map fun c => segR (rcsH (gL (psB c.2)) (takeH noK) 70) (part 19 20) (cutG c.1 c.2) (oS (osG' c.1))) = casesG.map fun c => some (oS (osH (subOf c.2 0).length)) := by kernel_rfl
theorem evH : (casesH.map fun c => segR (rcsH (gL noP) (takeH (knA 3 c.2)) 70) (part 20 21) (cutH c.1 c.2) (oS (osH c.1))) = casesH.map fun c => some (oS (osI c.1 c.2)) := by kernel_rfl
theorem osG'_ns (n : Nat) : ∃ m, (oS (osG' n)).get 5 = some (.ns m) := ⟨_, (nQ (os := osG' n) (nL rfl) 5).trans rfl⟩
theorem osH_ns (n : Nat) : ∃ m, (oS (osH n)).get 5 = some (.ns m) := ⟨_, (nQ (os := osH n) (nL rfl) 5).trans rfl⟩
theorem osI_ns (n r : Nat) (hr : r < 3) : ∃ m, (oS (osI n r)).get 5 = some (.ns m) := ⟨_, (nQ (os := osI n r) (by unfold osI rowOs; simp [tabs5]; omega) 5).trans rfl⟩
theorem mem_bl : ∀ (l : List Bool), l ∈ bl l.length
 | [] => .head _
 | b :: l => List.mem_flatMap.mpr ⟨l, mem_bl l, by cases b <;> simp⟩
theorem all3_eq : ∀ {ts : List Nat}, all3 ts = true → ts = threes ts.length
 | [], _ => rfl
 | t :: ts, h => by
  unfold all3 at h
  refine bE (Nat.beq t 3) (fun q => ?_) (fun q => ?_)
  ·rw [q] at h; injection h
  ·rw [q, cond_true] at h; rw [nE q, List.length_cons]; exact congrArg _ (all3_eq h)
theorem subOf_len : ∀ (bs : List Bool) (i : Nat), (subOf bs i).length ≤ bs.length
 | [], _ => Nat.le_refl _
 | b :: l, i => by
  unfold subOf
  cases b with
  | true => rw [cond_true, List.length_cons, List.length_cons]; exact Nat.succ_le_succ (subOf_len l _)
  | false => rw [cond_false, List.length_cons]; exact Nat.le_succ_of_le (subOf_len l _)
theorem sameNats_ok : ∀ {ys : List V} {xs : List Nat}, sameNats ys xs = true → ys = xs.map fun (i : Nat) => V.int (i : Int)
 | [], [], _ => rfl
 | [], _ :: _, h => by injection h
 | v :: ys, [], h => by cases v with
  | int z => cases z <;> injection h
  | _ => injection h
 | v :: ys, j :: xs, h => by
  cases v with
  | int z =>
   cases z with
   | ofNat i =>
    change (bif Nat.beq i j then sameNats ys xs else false) = true at h
    refine bE (Nat.beq i j) (fun q => ?_) (fun q => ?_)
    ·rw [q] at h; injection h
    ·rw [q, cond_true] at h; rw [← nE q, sameNats_ok h]; rfl
   | negSucc i => injection h
  | _ => injection h
noncomputable def exG (xs : List Nat) : List Nat → V
 | [25, i] => .int (xs.getD i 0 : Nat)
 | _ => .int 0
theorem toks_all {τ τ' : Tau} {ρ ρ' : List Addr} (xs : List Nat) : ∀ (ys : List Nat) {us : List Value}, (∀ i, i < xs.length → τ'.tau [25, ys.length + i] = V.int ((xs.getD i 0 : Nat) : Int)) → @cQ τ ρ (xs.map fun (i : Nat) => V.int (i : Int)) us → @cQ τ' ρ' ((List.range' ys.length xs.length).map fun i => V.sym [25, i]) us := by
 induction xs with
 | nil => exact fun _ _ _ h => by rw [h.nl]; trivial
 | cons x xs ih =>
  intro ys us ht a
  refine a.un fun u us e h r => ?_
  subst e
  refine ⟨?_, ?_⟩
  ·show ScR (τ'.tau [25, ys.length]) u
   have := ht 0 (Nat.succ_pos _)
   rw [Nat.add_zero] at this
   rw [this]; exact h
  ·have e : (ys ++ [x]).length = ys.length + 1 := List.length_append
   have := ih (ys ++ [x]) (fun i hi => by rw [e, Nat.add_assoc, Nat.add_comm 1 i]; exact ht (i + 1) (Nat.succ_lt_succ hi)) r
   rw [e] at this
   exact this
section
variable {Z : Fixed} {a b : Int} {ex : List Nat → V} {nn : Nat} {pk : List Nat → List O} {s : Shared} {rest : List Stmt} {Q : Flow → Shared → Prop} {E : Value → Shared → Prop} {P : Program} {w : World} {a' b' : Int} {ex' : List Nat → V} {pk' : List Nat → List O}
set_option tactic.hygienic true in
theorem ovSpec_ok {X : Wl} {σ : St} : OvOk P w (jQ P w a b ex nn pk) (jQ P w a' b' ex' nn pk') X σ (ovSpec nn σ) := by
 intro n o' h
 unfold ovSpec at h
 split at h
 ·rename_i k hk
  split at h
  ·rename_i hx
   have h : (if Nat.beq k n then some (O.ro (.list (intsOf nn))) else none) = some o' := h
   split at h
   ·rename_i hkn
    injection h with q1; subst q1
    rw [← nE hkn]
    refine ⟨_, hx, .inr (.inl ⟨_, rfl⟩), (fun h => by injection h), fun X' _ ob hob => ?_⟩
    revert hob; refine xvvpp fun us m e hu => ?_
    exact ⟨us, m, e, ints_all intsOf_int hu⟩
   ·injection h
  ·injection h
 ·injection h
set_option tactic.hygienic true in
theorem ovHeld_ok {xs : List Nat} {X : Wl} {σ : St} : OvOk P w (jQ P w a b ex nn pk) (jQ P w a' b' (exG xs) nn pk') X σ (ovHeld xs σ) := by
 intro n o' h
 unfold ovHeld at h
 split at h
 ·split at h
  ·rename_i h' _
   split at h
   ·rename_i ys hx
    refine bE (sameNats ys xs) (fun hc => ?_) (fun hc => ?_)
    ·rw [hc] at h; injection h
    ·
     rw [hc, cond_true] at h
     have h : (if Nat.beq h' n then some (O.list (toks 25 xs.length)) else none) = some o' := h
     split at h
     ·rename_i hkn
      injection h with q1; subst q1
      rw [← nE hkn]
      refine ⟨_, hx, .inl rfl, fun _ => rfl, fun X' _ ob hob => ?_⟩
      revert hob; refine xvvpp fun us m e hu => ?_
      rw [sameNats_ok hc] at hu
      refine ⟨us, m, e, ?_⟩
      have := toks_all (τ := jQ P w a b ex nn pk) (τ' := jQ P w a' b' (exG xs) nn pk') (ρ := X.ρ) (ρ' := X'.ρ) xs [] (us := us.toList) (fun i _ => by rw [List.length_nil, Nat.zero_add]; rfl) hu
      unfold toks
      rw [List.range_eq_range']
      exact this
     ·injection h
   ·injection h
  ·injection h
 ·injection h
theorem evG_at {n : Nat} {bs : List Bool} (hc : (n, bs) ∈ casesG) : segR (rcsH (gL (psB bs)) (takeH noK) 70) (part 19 20) (cutG n bs) (oS (osG' n)) = some (oS (osH (subOf bs 0).length)) := by
 have h := eJ evG hc
 dsimp only at h
 exact h
theorem evS_at {n : Nat} (hc : n ∈ [3, 4, 5, 6]) : ((cutS n).gc (oS osG)).st (oS osG) = some (oS (osG' n)) := by
 exact eJ evS hc
theorem evH_at {m r : Nat} (hc : (m, r) ∈ casesH) : segR (rcsH (gL noP) (takeH (knA 3 r)) 70) (part 20 21) (cutH m r) (oS (osH m)) = some (oS (osI m r)) := by
 have h := eJ evH hc
 dsimp only at h
 exact h
theorem psB_ok {a b : Int} {n : Nat} {bs : List Bool} (hbs : bs = (List.range n).map fun i => decide (0 < dig a b (threes (i + 1)))) : ∀ ts c, psB bs ts = some c → decide (0 < dig a b ts) = c := by
 intro ts c h
 unfold psB at h
 revert h; refine iQ fun z h => ?_
 refine aN (fun z1 z2 => ?_) z
 have z2 := bI.mp z2
 rw [hbs, List.getElem?_map] at h
 refine aQ (fun i hi e => ?_) (Option.map_eq_some_iff.mp h)
 obtain ⟨hlt, rfl⟩ := List.getElem?_eq_some_iff.mp hi
 rw [← e, List.getElem_range]
 have e1 : ts.length - 1 + 1 = ts.length := by omega
 rw [e1, ← all3_eq z1]
theorem law_G (h3 : 3 ≤ nn) (h6 : nn ≤ 6) (L : LawS Z a b ex nn pk osG s) (q : ∀ a' b' ex' m s', m < 7 → (∀ i, i < m → ∃ j, ex' [25, i] = .int j) → LawS Z a' b' ex' nn pk (osH m) s' → wpAny (model Z.P Z.w) Z.A (execs rest Z.env) Q E s') :
  wpAny (model Z.P Z.w) Z.A (execs (part 19 20 ++ rest) Z.env) Q E s := by
 have hm : nn ∈ [3, 4, 5, 6] := by
  have : nn = 3 ∨ nn = 4 ∨ nn = 5 ∨ nn = 6 := by omega
  simpa using this
 have L' : LawS Z a b ex nn pk (osG' nn) s := by
  refine L.view (evS_at hm) (osG'_ns _) L.ok (hZ ?_) fun X => ovSpec_ok
  intro p hp ρ u hu
  simp only [List.mem_cons, List.not_mem_nil, or_false] at hp
  rcases hp with rfl | rfl <;> exact hu
 obtain ⟨bs, hbs⟩ : ∃ bs : List Bool, bs = (List.range nn).map fun i => decide (0 < dig a b (threes (i + 1))) := ⟨_, rfl⟩
 have hlen : bs.length = nn := by rw [hbs, List.length_map, List.length_range]
 have hc : (nn, bs) ∈ casesG := List.mem_flatMap.mpr ⟨nn, hm, List.mem_map.mpr ⟨bs, hlen ▸ mem_bl bs, rfl⟩⟩
 refine L'.step (a' := (src a b (threes nn)).1) (b' := (src a b (threes nn)).2) (ex' := exG (subOf bs 0)) (nn' := nn) (pk' := pk) (ps := psB bs) (kn := noK) (psB_ok hbs) (by intro t d h; injection h) (evG_at hc) (osH_ns _) ⟨aZ.h21, aZ.h22⟩ (hZ ?_) (fun σ'' X => ovHeld_ok) fun s' => q _ _ _ _ s' ?_ fun i hi => ⟨_, rfl⟩
 ·intro p hp ρ u hu
  simp only [List.mem_cons, List.not_mem_nil, or_false] at hp
  rcases hp with rfl | rfl <;> exact hu
 ·have := subOf_len bs 0
  show (subOf bs 0).length < 7
  omega
noncomputable def exH (a b : Int) (ex : List Nat → V) : List Nat → V
 | [25, i] => ex [25, i]
 | [26, i] => .str (nthS tQ (dig a b (9 :: rh i)))
 | [27, i] => .int (1 + dig a b (4 :: 9 :: rh i))
 | _ => .int 0
structure ExI (m r : Nat) (ex : List Nat → V) : Prop where
 h : ∀ i, i < m → ∃ j, ex [25, i] = .int j
 w : ∀ i, i < r → ∃ x ∈ tQ, ex [26, i] = .str x
 n : ∀ i, i < r → ∃ j : Nat, j < 4 ∧ ex [27, i] = .int ((j + 1 : Nat) : Int)
theorem law_H {m : Nat} (hm : m < 7) (he : ∀ i, i < m → ∃ j, ex [25, i] = .int j) (L : LawS Z a b ex nn pk (osH m) s) (q : ∀ a' b' ex' r s', r < 3 → ExI m r ex' → LawS Z a' b' ex' nn pk (osI m r) s' → wpAny (model Z.P Z.w) Z.A (execs rest Z.env) Q E s') :
  wpAny (model Z.P Z.w) Z.A (execs (part 20 21 ++ rest) Z.env) Q E s := by
 refine aQ (fun r hr e => ?_) (dig_nat a b (t := 3) (by decide) [])
 have hc : (m, r) ∈ casesH := List.mem_flatMap.mpr ⟨m, List.mem_range.mpr hm, List.mem_map.mpr ⟨r, List.mem_range.mpr hr, rfl⟩⟩
 refine L.step (a' := (src a b (rh r)).1) (b' := (src a b (rh r)).2) (ex' := exH a b ex) (nn' := nn) (pk' := pk) (ps := noP) (by intro t d h; injection h) (knA_ok e) (evH_at hc) (osI_ns _ _ hr) ⟨aZ.h21, aZ.h22⟩ (hZ ?_) (fun σ'' X => ov_nil) fun s' => q _ _ _ r s' hr ⟨he, fun i hi => ?_, fun i hi => ?_⟩
 ·intro p hp ρ u hu
  refine orE (fun hp => ?_) (fun hp => ?_) (List.mem_append.mp hp)
  ·refine orE (fun hp => ?_) (fun hp => ?_) (List.mem_append.mp hp)
   ·refine orE (fun hp => ?_) (fun hp => ?_) (List.mem_append.mp hp)
    ·simp only [List.mem_cons, List.not_mem_nil, or_false] at hp
     rcases hp with rfl | rfl <;> exact hu
    ·refine xvdp (fun i q1 => ?_) (List.mem_map.mp hp); subst q1
     exact hu
   ·refine xvdp (fun i q1 => ?_) (List.mem_map.mp hp); subst q1
    exact hu
  ·refine xvdp (fun i q1 => ?_) (List.mem_map.mp hp); subst q1
   exact hu
 ·refine aQ (fun d hd ed => ?_) (dig_nat a b (t := 9) (by decide) (rh i))
  exact ⟨_, nthS_mem hd rfl, by show V.str (nthS tQ (dig a b (9 :: rh i))) = _; rw [ed]⟩
 ·refine aQ (fun d hd ed => ?_) (dig_nat a b (t := 4) (by decide) (9 :: rh i))
  refine ⟨d, hd, ?_⟩
  show V.int (1 + dig a b (4 :: 9 :: rh i)) = _
  rw [ed]
  congr 1
  omega
end
section
variable {P : Program} {w : World} {X Y : Wl} {σ σ' : St} {s s' : Shared} [Tau]
noncomputable def NotMut (P : Program) (w : World) [Tau] (ob : Obj) : Prop := ∀ (X : Wl) (o : O), o.mut = true → pQ P w X ob o → False
theorem inst_notMut {C : Nat} {dx : Addr} : NotMut P w (instObj C dx) := by
 intro X o hm h
 cases o <;> first | cases hm | skip
 ·revert h; refine xvvpd fun es ep h => ?_; injection h
 ·revert h; refine xvvpd fun us n h => ?_; injection h with q1 q2 q3 q4; injection q1
 ·revert h; refine xvpd fun kvs q1 => ?_; revert q1; refine xvvdpd fun es ep h => ?_; injection h
 ·revert h; refine xvvpd fun es ep h => ?_; injection h
 ·revert h; refine xvpd fun u h => ?_; injection h
 ·revert h; refine xvpd fun ps h => ?_; injection h with q1 q2 q3 q4; injection q1
 ·revert h; refine xvddp fun a h => ?_; injection h
 ·cases h
 ·revert h; refine xvvdp fun it old h => ?_; injection h with q1 q2 q3 q4; injection q1
 ·revert h; refine xddvvpd fun vs a0 h => ?_; injection h
theorem tup_notMut {us : Array Value} {n : Nat} : NotMut P w { cls := .type "tuple", dict := none, data := .seq us n, slots := #[] } := by
 intro X o hm h
 cases o <;> first | cases hm | skip
 ·revert h; refine xvvpd fun es ep h => ?_; injection h
 ·revert h; refine xvvpd fun us n h => ?_; have := congrArg Obj.cls h; simp at this
 ·revert h; refine xvpd fun kvs q1 => ?_; revert q1; refine xvvdpd fun es ep h => ?_; injection h
 ·revert h; refine xvvpd fun es ep h => ?_; injection h
 ·revert h; refine xvpd fun u h => ?_; injection h
 ·revert h; refine xvpd fun ps h => ?_; injection h with q1 q2 q3 q4; injection q1
 ·revert h; refine xvddp fun a h => ?_; injection h
 ·have := congrArg Obj.cls h; simp at this
 ·revert h; refine xvvdp fun it old h => ?_; have := congrArg Obj.cls h; simp at this
 ·revert h; refine xpd fun h => ?_; injection h
noncomputable def mutAddrs (X : Wl) (σ : St) : List Addr := (List.range σ.size).filterMap fun n => match σ.get n with
 | some o => if o.mut = true then X.ρ[n]? else none
 | none => none
theorem mem_muts {n : Nat} {o : O} {a : Addr} (e : σ.get n = some o) (hm : o.mut = true) (ha : X.ρ[n]? = some a) : a ∈ mutAddrs X σ :=
 List.mem_filterMap.mpr ⟨n, List.mem_range.mpr (St.get_lt e), by rw [e]; dsimp only; rw [if_pos hm]; exact ha⟩
set_option tactic.hygienic true in
theorem muts_mem {a : Addr} (h : a ∈ mutAddrs X σ) : ∃ n o, σ.get n = some o ∧ o.mut = true ∧ X.ρ[n]? = some a := by
 refine xvdp (fun n h => ?_) (List.mem_filterMap.mp h)
 split at h
 ·rename_i o e
  split at h
  ·rename_i hm
   exact ⟨n, o, e, hm, h⟩
  ·injection h
 ·injection h
theorem Rel.not_muts (R : Rel P w X σ s) (hk : ∀ b o, s.heap.get? b = some o → s'.heap.get? b = some o) {a : Addr} {ob : Obj} (ho : s'.heap.get? a = some ob) (h : NotMut P w ob ∨ s.heap.get? a = none) : a ∉ mutAddrs X σ := fun hm => by
 refine oQ (fun n o e hmo ha => ?_) (muts_mem hm)
 refine aQ (fun ob' h1 h2 => ?_) (R.at e ha (O.mut_ne hmo))
 revert h; refine orE (fun h => ?_) (fun h => ?_)
 ·rw [hk _ _ h1] at ho; injection ho with q1; subst q1
  exact h X o hmo h2
 ·rw [h] at h1; injection h1
noncomputable def Wl.up (X : Wl) (σ : St) (s' : Shared) : Wl := { X with B := hideAll s'.heap (mutAddrs X σ) }
theorem Wl.le_up (R : Rel P w X σ s) (hk : ∀ b o, s.heap.get? b = some o → s'.heap.get? b = some o) : X.Le (X.up σ s') :=
 ⟨fun b o e => hideAll_get _ (hk b o (R.keep b o e)) (fun hm => by
  refine oQ (fun n o' e' hmo ha => ?_) (muts_mem hm)
  rw [R.fresh n o' b e' hmo ha] at e; injection e), List.prefix_rfl, rfl, rfl, rfl⟩
theorem Rel.up (R : Rel P w X σ s) (hk : ∀ b o, s.heap.get? b = some o → s'.heap.get? b = some o) (hg : s'.gens = s.gens) (ho : s'.os = s.os) : Rel P w (X.up σ s') σ s' :=
 (R.keeps hk hg ho).rebase (Wl.le_up R hk).b (fun b o e => of_hideAll _ e) fun n o a e hm ha => hideAll_none _ (mem_muts e hm ha)
theorem Rel.alias {a : Addr} {ob : Obj} {o : O} (R : Rel P w X σ s) (hz : σ.size < 4096) (hi : o.mut = false) (hr : ∀ z, o ≠ .ro z) (ha : s.heap.get? a = some ob) (hd : pQ P w (X.add a) ob o) (hn : a ∉ mutAddrs X σ) : Rel P w (X.add a) (σ.push o) s where
 keep := R.keep
 fresh := fun n o' b e j h => by
  rw [St.get_push hz] at e
  by_cases q : n = σ.size
  ·rw [if_pos q] at e; injection e with q1; subst q1; rw [hi] at j; injection j
  ·rw [if_neg q] at e
   rw [Wl.add_lt (R.len ▸ St.get_lt e)] at h
   exact R.fresh n o' b e j h
 nodup := fun n m o₁ o₂ b e₁ e₂ j₁ j₂ h₁ h₂ => by
  rw [St.get_push hz] at e₁ e₂
  by_cases q₁ : n = σ.size
  ·rw [if_pos q₁] at e₁; injection e₁ with q1; subst q1; rw [hi] at j₁; injection j₁
  ·rw [if_neg q₁] at e₁
   rw [Wl.add_lt (R.len ▸ St.get_lt e₁)] at h₁
   by_cases q₂ : m = σ.size
   ·rw [q₂, Wl.add_get R.len] at h₂
    injection h₂ with q1; subst q1
    exact (hn (mem_muts e₁ j₁ h₁)).elim
   ·rw [if_neg q₂] at e₂
    rw [Wl.add_lt (R.len ▸ St.get_lt e₂)] at h₂
    exact R.nodup n m o₁ o₂ b e₁ e₂ j₁ j₂ h₁ h₂
 len := by show (X.ρ ++ [a]).length = _; rw [List.length_append, R.len]; rfl
 room := by rw [St.size_push]; omega
 objs := fun n o' e j => by
  rw [St.get_push hz] at e
  by_cases q : n = σ.size
  ·rw [if_pos q] at e
   injection e with q1; subst q1
   exact ⟨a, ob, Wl.add_get (by rw [R.len, q]), ha, hd⟩
  ·rw [if_neg q] at e
   refine oQ (fun b ob' h1 h2 h3 => ?_) (R.objs n o' e j)
   exact ⟨b, ob', pG (X.le_add a).r h1, h2, h3.mono (X.le_add a)⟩
 all := fun n h => by
  rw [St.get_push hz]
  split
  ·rfl
  ·exact R.all n (by rw [St.size_push] at h; omega)
 frs := fun k hk => by
  refine xvp (fun m h2 => ?_) (R.frs k hk)
  refine ⟨m, ?_⟩
  rw [St.get_push hz, if_neg (Nat.ne_of_lt (St.get_lt h2))]; exact h2
 gens := R.gens
 os := R.os
 sys := fun n o' b e h => by
  rw [St.get_push hz] at e
  by_cases q : n = σ.size
  ·rw [if_pos q] at e; exact (hr o' (Option.some.inj e)).elim
  ·rw [if_neg q] at e
   rw [Wl.add_lt (R.len ▸ St.get_lt e)] at h
   exact R.sys n o' b e h
theorem up_push {a : Addr} {ob : Obj} {o : O} (R : Rel P w X σ s) (hk : ∀ b o, s.heap.get? b = some o → s'.heap.get? b = some o) (hg : s'.gens = s.gens) (hos : s'.os = s.os) (hz : σ.size < 4096) (hi : o.mut = false) (hr : ∀ z, o ≠ .ro z)
  (ha : s'.heap.get? a = some ob) (hn : NotMut P w ob) (hd : pQ P w ((X.up σ s').add a) ob o) : X.Le ((X.up σ s').add a) ∧ Rel P w ((X.up σ s').add a) (σ.push o) s' ∧ ((X.up σ s').add a).ρ[σ.size]? = some a :=
 have R' := R.up hk hg hos
 ⟨(Wl.le_up R hk).trans (Wl.le_add _ _), R'.alias hz hi hr ha hd (R.not_muts hk ha (.inl hn)), Wl.add_get R.len⟩
end
noncomputable def pushH (σ : St) (o : O) : Option (Res V) := bif Nat.blt σ.size 4000 then some (σ.pushThen o fun n σ => .ok (.new n) σ) else none
noncomputable def valH (kd : Nat → Bool) (i : Nat) (σ : St) : Option (Res V) := bif kd i then pushH σ (.tup [.sym [33, i], .int 1]) else some (.ok (.sym [34, i]) σ)
noncomputable def ctxM : List (Str × V) := [(sOf "tree", .any), (sOf "node", .int 0), (sOf "position", .int 2), (sOf "size", .int 7), (sOf "variables", .new 17), (sOf "names", .new 18), (sOf "calls", .new 19), (sOf "current", .int 0), (sOf "ids", .new 20)]
noncomputable def varM : List (Str × V) := [(sOf "v", .new 21), (sOf "w", .str (sOf "t"))]
noncomputable def ctxIs (σ : St) : Bool := isInst 1006 16 (σ.get 14) && (isAt ctxM (σ.get 16) && (isDict varM (σ.get 17) && isTup [.int 2, .int 1] (σ.get 21)))
noncomputable def hookI (f k : Nat) (rest : List V → Bool) (ans : Nat → St → Option (Res V)) : Hook := fun n fv vs σ => bif isOld f fv && Nat.ble 30 n then (headI k vs).bind fun p => bif rest p.2 then ans p.1 σ else none else none
noncomputable def madeH : Hook := hookI 1263 23 (fun l => vsEq l [.int 5]) fun i σ => pushH σ (.mk [23, i])
noncomputable def worthH (kd : Nat → Bool) : Hook := hookI 1270 23 (fun l => vsEq l [.int 5, .int 2, .int 7]) (valH kd)
noncomputable def evalH (kd : Nat → Bool) : Hook := fun n fv vs σ => bif isOld 967 fv && Nat.ble 30 n then (twoN vs).bind fun p => bif Nat.beq p.2 14 then (mkK 23 (σ.get p.1)).bind fun i => bif ctxIs σ then valH kd i σ else none else none else none
noncomputable def orH (H₁ H₂ : Hook) : Hook := fun n fv vs σ => match H₁ n fv vs σ with
 | some q => some q
 | none => H₂ n fv vs σ
noncomputable def textS (kd : Nat → Bool) : Hook := hookI 209 34 (fun l => Nat.beq l.length 1) fun i σ => bif kd i then none else some (.ok (.sym [35, i]) σ)
noncomputable def textN (kd : Nat → Bool) : Hook := fun n fv vs σ => bif isOld 209 fv && Nat.ble 30 n then (headN vs).bind fun p => bif Nat.beq p.2.length 1 then (pairI 33 (σ.get p.1)).bind fun i => bif kd i then some (.ok (.sym [35, i]) σ) else none else none else none
noncomputable def textH (kd : Nat → Bool) : Hook := orH (textS kd) (textN kd)
noncomputable def callH' (kd : Nat → Bool) : Hook := orH madeH (orH (worthH kd) (orH (evalH kd) (textH kd)))
noncomputable def textsM : List (Str × V) := [(sOf "position", .str (sOf "2")), (sOf "last", .str (sOf "7")), (sOf "v", .str (sOf "2")), (sOf "w", .str (sOf "t")), (sOf "number", .str (sOf "5"))]
noncomputable def idxV (v : V) : Option Nat := match v with
 | .str x => bif eqS x (sOf "z") then some 99 else none
 | v => (symI 35 v).bind fun i => bif Nat.blt i 3 then some i else none
noncomputable def idxs : List V → Option (List Nat)
 | [] => some []
 | v :: l => (idxV v).bind fun i => (idxs l).bind fun r => some (i :: r)
noncomputable def callGet (es : List (Str × V)) (k d : V) : Option V := (symI 23 k).bind fun i => bif vEq d k && mEq es textsM then some (.sym [35, i]) else none
noncomputable def callJoin (s : Str) (xs : List V) : Option V := bif eqS s Str.empty then (idxs xs).bind fun r => bif Nat.ble r.length 10 then some (.sym (36 :: r)) else none else none
noncomputable def callO (q : Qn) : Option V := match q with
 | .get es k d => callGet es k d
 | .join s xs => callJoin s xs
 | _ => none
noncomputable def callNe (t : List Nat) (x : Str) : Bool := sJ (symT 34 t) fun _ => eqS x (sOf "refused")
noncomputable def gF : Cx := gy false callNe callO
noncomputable def kdOf (p : List (Option Bool)) (i : Nat) : Bool := match p[i]? with
 | some (some true) => true
 | _ => false
noncomputable def wsOf : Nat → List (Option Bool) → List V
 | _, [] => []
 | i, none :: p => .str (sOf "z") :: wsOf (i + 1) p
 | i, some _ :: p => .sym [23, i] :: wsOf (i + 1) p
noncomputable def pats : Nat → List (List (Option Bool))
 | 0 => [[]]
 | n + 1 => (pats n).flatMap fun p => [none :: p, some true :: p, some false :: p]
noncomputable def casesF : List (Str × List (Option Bool)) := names6.flatMap fun x => ([0, 1, 2, 3].flatMap pats).map fun p => (x, p)
noncomputable def cutF (nn : Nat) : Cut := ⟨[sOf "words", sOf "name"], [], fun _ => [6, 7, 9], tmOf [([2], .sym [2]), ([3], .sym [3])], ovNodes nn⟩
end Mine
namespace Mine
noncomputable def evFl (nn : Nat) (c : Str × List (Option Bool)) : Option St := segR (rcsH gF (callH' (kdOf c.2)) 70) (part 18 19) (cutF nn) (oS (osF (wsOf 0 c.2) (.str c.1)))
noncomputable def evFr (c : Str × List (Option Bool)) : Option St := some (oS osG)
theorem evF1 (nn : Nat) : (casesF.take 60).map (evFl nn) = (casesF.take 60).map evFr := by kernel_rfl
theorem evF2 (nn : Nat) : ((casesF.drop 60).take 60).map (evFl nn) = ((casesF.drop 60).take 60).map evFr := by kernel_rfl
theorem evF3 (nn : Nat) : (((casesF.drop 60).drop 60).take 60).map (evFl nn) = (((casesF.drop 60).drop 60).take 60).map evFr := by kernel_rfl
theorem evF4 (nn : Nat) : (((casesF.drop 60).drop 60).drop 60).map (evFl nn) = (((casesF.drop 60).drop 60).drop 60).map evFr := by kernel_rfl
theorem evF (nn : Nat) : casesF.map (evFl nn) = casesF.map evFr := mapHalf 60 (evF1 nn) (mapHalf 60 (evF2 nn) (mapHalf 60 (evF3 nn) (evF4 nn)))
noncomputable def kindOf (x : Str) : Bool := hasS [sOf "position", sOf "last", sOf "v", sOf "number"] x
noncomputable def topOf (x : Str) : Int := bif eqS x (sOf "last") then 7 else bif eqS x (sOf "number") then 5 else 2
noncomputable def scOf (x : Str) : V := bif eqS x (sOf "true") then .bool true else bif eqS x (sOf "false") then .bool false else bif eqS x (sOf "w") then .str (sOf "t") else .str x
noncomputable def textOf (x : Str) : Str := bif eqS x (sOf "position") then sOf "2" else bif eqS x (sOf "last") then sOf "7" else bif eqS x (sOf "v") then sOf "2" else bif eqS x (sOf "number") then sOf "5" else bif eqS x (sOf "w") then sOf "t" else x
noncomputable def plain (x : Str) : List O := bif hasS [sOf "position", sOf "last", sOf "true", sOf "false"] x then [.inst 791 6, .at [(sOf "name", .str x), (sOf "arguments", .new 7)], .tup []] else
 bif hasS [sOf "v", sOf "w"] x then [.inst 763 6, .at [(sOf "name", .str x)]] else bif eqS x (sOf "number") then [.inst 735 6, .at [(sOf "value", .new 7)], .tup [.int 5, .int 1]] else [.inst 707 6, .at [(sOf "value", .str x)]]
noncomputable def wrapO : O → O
 | .at m => .ro (.at m)
 | o => o
noncomputable def plainO : O → Bool
 | .inst _ _ => true
 | .at _ => true
 | .tup _ => true
 | _ => false
noncomputable def gq : Cx := gy true noNe fun _ => none
noncomputable def packG (σ : St) (j d : Nat) (m : List (Str × V)) : Gc := ⟨[0, 1, 2, 3, 4, j, d] ++ refM [] m, idTm, [], [], [], []⟩
noncomputable def packR : Res V → Option St
 | .ok (.new j) σ => (match σ.get j with
  | some (.inst _ d) => (match σ.get d with
   | some (.at m) => (packG σ j d m).st σ
   | _ => none)
  | _ => none)
 | _ => none
set_option tactic.hygienic true in
theorem packR_ok {r : Res V} {σ' : St} (h : packR r = some σ') : ∃ j σ C d m, r = .ok (.new j) σ ∧ σ.get j = some (.inst C d) ∧ σ.get d = some (.at m) ∧ (packG σ j d m).st σ = some σ' := by
 unfold packR at h
 split at h
 ·rename_i j σ
  split at h
  ·rename_i C d hj
   split at h
   ·rename_i m hd
    exact ⟨j, σ, C, d, m, rfl, hj, hd, h⟩
   ·injection h
  ·injection h
 ·injection h
theorem ev_made : (tQ.map fun x => packR ((rcs gq 30).call (.old 1263) [.str x, .int 5] (oS (uQ ++ [])))) = tQ.map fun x => some (oS (uQ ++ plain x)) := by kernel_rfl
theorem plain_ok : (tQ.all fun x => (plain x).all plainO && (Nat.ble (plain x).length 3 && (match (plain x)[0]? with | some (O.inst _ _) => true | _ => false))) = true := by kernel_rfl
end Mine
namespace Mine
theorem plainO_base {P : Program} {w : World} {X : Wl} {B : Heap} {ob : Obj} {o : O} (h : plainO o = true) (e : @pQ fQ P w X ob o) : @pQ fQ P w { X with B := B } ob (wrapO o) := by
 cases o <;> first | exact e | injection h
theorem plainO_shape {P : Program} {w : World} {τ : Tau} {X : Wl} {ob : Obj} {o : O} (h : plainO o = true) (e : @pQ fQ P w X ob o) : @NotMut P w τ ob ∨ o.mut = true := by
 cases o <;> first | cases h | skip
 ·revert e; refine xvvpd fun us n q1 => ?_; subst q1; exact .inl (@tup_notMut P w τ us n)
 ·revert e; refine xvdp fun dx q1 => ?_; subst q1; exact .inl (@inst_notMut P w τ _ dx)
 ·exact .inr rfl
theorem pack_up {P : Program} {w : World} {τ : Tau} {X Y : Wl} {σ σ'' : St} {s s' : Shared} {ρ : List Addr} {j C d : Nat} {m : List (Str × V)} {pl : List O} {addr : Addr} (R : @Rel τ P w X σ s) (hY : (mQ s [] (gT ++ ρ)).Le Y) (R' : @Rel fQ P w Y σ'' s')
  (hsys : ∃ o, s.heap.get? sysModules = some o) (hG : (packG σ'' j d m).st σ'' = some (oS (uQ ++ pl))) (hj : Y.ρ[j]? = some addr) (hpl : pl.all plainO = true) (hz : pl.length ≤ 3) (h0 : ∃ C d, pl[0]? = some (.inst C d)) :
  ∃ ob, s'.heap.get? addr = some ob ∧ @NotMut P w τ ob ∧ packD P w (pl.map wrapO) (X.up σ s').B ob := by
 have hk : ∀ b o, s.heap.get? b = some o → s'.heap.get? b = some o := fun b o e => @mJ P w Y σ'' s s' fQ _ _ hY R' b (by nofun) o e
 have hX : ∀ n ∈ (packG σ'' j d m).e, n < Y.ρ.length := fun n hn => by rw [@Rel.len fQ _ _ _ _ _ R']; exact (Gc.st_some hG).2.1 n hn
 have hsysY : ∃ o, Y.B.get? sysModules = some o := by
  revert hsys; refine xvp fun o ho => ?_
  exact ⟨o, hY.b _ _ (hideAll_get _ ho (by nofun))⟩
 have R0 : @Rel fQ P w (Y.gc (packG σ'' j d m) []) (oS (uQ ++ pl)) s' := Rel.gc (τ := fQ) (τ' := fQ) (fr := []) R' hG (id_tm (τ := fQ)) ov_nil hsysY (by intros; contradiction)
 have hl : (uQ ++ pl).length ≤ 4096 := by rw [List.length_append]; show 5 + _ ≤ _; omega
 have hρ : ∃ ρ', (Y.gc (packG σ'' j d m) []).ρ = gT ++ ρ' ∧ ρ'.length = pl.length := by
  refine xvp (fun r hr => ?_) (hY.r)
  refine ⟨([j, d] ++ refM [] m).map fun n => Y.ρ.getD n 0, ?_⟩
  show ([0, 1, 2, 3, 4, j, d] ++ refM [] m).map (fun n => Y.ρ.getD n 0) = _ ∧ _
  have hsz := (Gc.st_some hG).2.2.1
  rw [sQ hl, List.length_append] at hsz
  refine ⟨by rw [← hr]; rfl, ?_⟩
  rw [List.length_map]
  have : (packG σ'' j d m).e.length = 5 + ([j, d] ++ refM [] m).length := by
   show ([0, 1, 2, 3, 4] ++ ([j, d] ++ refM [] m)).length = _
   rw [List.length_append]; rfl
  rw [this] at hsz
  have h5 : uQ.length = 5 := rfl
  omega
 revert hρ; refine aQ fun ρ' hρ hρl => ?_
 have hget : ∀ i o, pl[i]? = some o → ∃ a ob, ρ'[i]? = some a ∧ s'.heap.get? a = some ob ∧ @pQ fQ P w (Y.gc (packG σ'' j d m) []) ob o ∧ (o.mut = true → s.heap.get? a = none) ∧ plainO o = true := fun i o e => by
  have hp : plainO o = true := List.all_eq_true.mp hpl o (List.mem_of_getElem? e)
  have e' : (oS (uQ ++ pl)).get (5 + i) = some o := by
   rw [nQ hl, List.getElem?_append_right (by show 5 ≤ 5 + i; omega)]
   show pl[5 + i - 5]? = _
   rw [show 5 + i - 5 = i by omega]; exact e
  have hne : o ≠ .junk := by rintro rfl; injection hp
  refine oQ (fun a ob h1 h2 h3 => ?_) (@Rel.objs fQ _ _ _ _ _ R0 _ _ e' hne)
  rw [hρ] at h1
  refine ⟨a, ob, yJ.symm.trans h1, h2, h3, fun hm => ?_, hp⟩
  have := @Rel.fresh fQ _ _ _ _ _ R0 _ _ a e' hm (hρ ▸ h1)
  refine gE (s.heap.get? a) (fun q => ?_) (fun o' q => ?_)
  ·rfl
  ·
   have hb := hY.b a o' (hideAll_get _ q (by nofun))
   rw [show (Y.gc (packG σ'' j d m) []).B = Y.B from rfl, hb] at this
   injection this
 revert h0; refine xvvp fun C0 d0 h0 => ?_
 refine xvvpppdd (fun a0 ob g1 g2 g3 => ?_) (hget 0 _ h0)
 have ha0 : a0 = addr := by
  have : (Y.gc (packG σ'' j d m) []).ρ[5]? = Y.ρ[j]? := Wl.gc_get hX rfl
  rw [hρ, show (5 : Nat) = 5 + 0 from rfl, yJ, g1, hj] at this
  exact Option.some.inj this
 clear hj; subst ha0
 have hBget : ∀ (i : Nat) (o : O) (a : Addr) (ob : Obj), ρ'[i]? = some a → s'.heap.get? a = some ob → @pQ fQ P w (Y.gc (packG σ'' j d m) []) ob o → (o.mut = true → s.heap.get? a = none) → plainO o = true → (X.up σ s').B.get? a = some ob := fun i o a ob _ h2 h3 h4 h5 =>
  hideAll_get _ h2 (@Rel.not_muts P w X σ s s' τ R hk a ob h2 ((plainO_shape h5 h3).imp id h4))
 refine ⟨ob, g2, ?_, { (Y.gc (packG σ'' j d m) []) with B := (X.up σ s').B }, rfl, ρ', hρ, by rw [List.length_map]; exact hρl, ⟨a0, g1, hBget 0 _ _ _ g1 g2 g3 (fun h => by injection h) rfl⟩, fun i o e => ?_⟩
 ·revert g3; refine xvdp fun dx q1 => ?_; clear g2; subst q1
  exact @inst_notMut P w τ _ dx
 ·rw [List.getElem?_map] at e
  refine aQ (fun o₀ e₀ q1 => ?_) (Option.map_eq_some_iff.mp e); clear e; subst q1
  refine xvvppppp (fun a ob' h1 h2 h3 h4 h5 => ?_) (hget i o₀ e₀)
  refine ⟨a, ob', h1, hBget i _ _ _ h1 h2 h3 h4 h5, plainO_base h5 h3, fun z hz => ?_⟩
  rintro rfl
  revert hsys; refine xvp fun o' ho' => ?_
  have hm : o₀.mut = true := by
   cases o₀ with
   | «at» m => rfl
   | ro z' => exact Bool.noConfusion (show false = true from h5)
   | tup xs => exact nomatch hz
   | inst C d => exact nomatch hz
   | _ => first | rfl | exact Bool.noConfusion (show false = true from h5)
  rw [h4 hm] at ho'; injection ho'
structure WordOk (P : Program) (w : World) (τ : Tau) (kd : Nat → Bool) (i : Nat) (x : Str) : Prop where
 mem : x ∈ tQ
 wd : τ.tau [23, i] = .str x
 p : τ.mkD [23, i] = packD P w ((plain x).map wrapO)
 k : kd i = kindOf x
 t : τ.tau [33, i] = .int (topOf x)
 c : kindOf x = false → τ.tau [34, i] = scOf x
 s : τ.tau [35, i] = .str (textOf x)
noncomputable def WordsOk (P : Program) (w : World) (τ : Tau) (kd : Nat → Bool) : Prop := ∀ i, ∃ x, WordOk P w τ kd i x
section
variable {P : Program} {w : World} {K : Frag} {q : Bool} {ne : List Nat → Str → Bool} {orc : Qn → Option V} {kd : Nat → Bool}
theorem gq_ctx {τ : Tau} {B : Heap} (h : @aJ τ (gy q ne orc) K gT B) : @aJ fQ gq K gT B := aJ.yy h (by intro t x h; injection h) (by intro z v h; injection h)
theorem sys_in {τ : Tau} {g : Cx} {n : Nat} {l : List Env} {A : Around} {X : Wl} {σ : St} {s : Shared} (S : @Sit τ P w g K gT n l A X σ s) : ∃ o, s.heap.get? sysModules = some o := by
 obtain ⟨_, _, cx, _, rel⟩ := S
 refine xvp (fun o ho => ?_) (cx.sysm)
 exact ⟨o, @Rel.keep τ _ _ _ _ _ rel _ _ ho⟩
theorem plain_at {x : Str} (hx : x ∈ tQ) : (plain x).all plainO = true ∧ (plain x).length ≤ 3 ∧ ∃ C d, (plain x)[0]? = some (.inst C d) := by
 have := List.all_eq_true.mp plain_ok x hx
 refine aN (fun h1 h2 => ?_) this
 revert h2; refine aN fun h2 h3 => ?_
 refine ⟨h1, nL h2, ?_⟩
 split at h3
 ·exact ⟨_, _, by assumption⟩
 ·injection h3
theorem pushH_ok {σ : St} {o : O} {r : Res V} (h : pushH σ o = some r) : σ.size < 4000 ∧ r = .ok (.new σ.size) (σ.push o) := by
 unfold pushH at h
 revert h; refine iQ fun q h => ?_
 rw [St.pushThen_eq] at h
 injection h with q1; subst q1; exact ⟨bI.mp q, rfl⟩
theorem hookI_ok {f k n : Nat} {rest : List V → Bool} {ans : Nat → St → Option (Res V)} {fv : V} {vs : List V} {σ : St} {r : Res V} (h : hookI f k rest ans n fv vs σ = some r) : fv = .old f ∧ 30 ≤ n ∧ ∃ i l, vs = .sym [k, i] :: l ∧ rest l = true ∧ ans i σ = some r := by
 refine iQ (fun h1 h2 => ?_) h
 refine oB (fun p h3 h4 => ?_) h2
 refine iQ (fun h5 h6 => ?_) h4
 exact ⟨isOld_ok (aL h1), nL (aR h1), p.1, p.2, headI_ok h3, h5, h6⟩
theorem made_hook {τ : Tau} (W : WordsOk P w τ kd) : @wJ τ P w (gy q ne orc) K gT madeH := by
 intro n fv vs u us σ X s A l Q E r h S hf hv H
 refine xppvvppp (fun q1 c2 i rs q2 h1 h2 => ?_) (hookI_ok h); subst q1; subst q2
 rw [vsEq_ok h1] at hv
 refine xpp (fun hz q1 => ?_) (pushH_ok h2); clear h2; subst q1
 refine xvp (fun x Wx => ?_) (W i)
 refine oQ (fun u0 u1 q1 h0 h1 => ?_) (two_of' hv); clear hv; subst q1
 cases hf
 have R := S.rel
 have h0 := (VR_symS Wx.wd).mp h0
 have hev := eJ ev_made Wx.mem
 refine xvvvvvpppp (fun j σ'' C d m e1 e2 e3 e4 => ?_) (packR_ok hev)
 have S' : @Sit fQ P w gq K gT 30 l A (mQ s [] (gT ++ [])) (oS (uQ ++ [])) s := small5 (S.down (n := 30) (Nat.le_succ_of_le c2)) (by decide) trivial rfl (gq_ctx S.cx) (by intros; contradiction) (by intro i j o o' a h; simp at h)
 refine @tJ P w gq K gT 30 l A σ'' s E fQ _ _ _ _ _ (.ref 1263) [u0, u1] _ e1 S' rfl ⟨h0, h1, trivial⟩ _ fun Y s' v hY R' hv' => ?_
 revert hv'; refine aQ fun addr ha q1 => ?_; subst q1
 refine xppp (fun p1 p2 p3 => ?_) (plain_at Wx.mem)
 refine xvppp (fun ob g1 g2 g3 => ?_) (pack_up (C := C) R hY R' (sys_in S) e4 ha p1 p2 p3)
 have hk : ∀ b o, s.heap.get? b = some o → s'.heap.get? b = some o := fun b o e => @mJ P w Y σ'' s s' fQ _ _ hY R' b (by nofun) o e
 have hd : @pQ τ P w ((X.up σ s').add addr) ob (.mk [23, i]) := by
  show τ.mkD [23, i] (X.up σ s').B ob
  rw [Wx.p]; exact g3
 refine xppp (fun z1 z2 z3 => ?_) (up_push R hk ((@Rel.gens fQ _ _ _ _ _ R').trans hY.g) ((@Rel.os fQ _ _ _ _ _ R').trans hY.o) (Nat.lt_of_lt_of_le hz (by decide)) rfl (by intro z h; cases h) g1 g2 hd)
 exact H _ _ _ z1 z2 ⟨addr, z3, rfl⟩
end
noncomputable def valR : Res V → Option (Bool × V)
 | .ok (.new j) σ => (match σ.get j with | some (.tup [v, .int (.ofNat 1)]) => some (true, v) | _ => none)
 | .ok v _ => some (false, v)
 | _ => none
noncomputable def valE (x : Str) : Bool × V := bif kindOf x then (true, .int (topOf x)) else (false, scOf x)
set_option tactic.hygienic true in
theorem valR_ok {r : Res V} {x : Str} (h : valR r = some (valE x)) : (kindOf x = true ∧ ∃ j σ, r = .ok (.new j) σ ∧ σ.get j = some (.tup [.int (topOf x), .int 1])) ∨ (kindOf x = false ∧ ∃ σ, r = .ok (scOf x) σ) := by
 unfold valE at h
 refine cZ (kindOf x) (fun hk => ?_) (fun hk => ?_)
 ·
  rw [hk, cond_true] at h
  unfold valR at h
  split at h
  ·rename_i j σ
   split at h
   ·rename_i v hj
    injection h with q1; injection q1 with q2 q3; clear q2; subst q3
    exact .inl ⟨rfl, j, σ, rfl, hj⟩
   ·injection h
  ·injection h with q1; injection q1 with q2 q3; injection q2
  ·injection h
 ·
  rw [hk, cond_false] at h
  unfold valR at h
  split at h
  ·rename_i j σ
   split at h <;> cases h
  ·rename_i v σ _
   injection h with q1; injection q1 with q2 q3; clear q2; subst q3
   exact .inr ⟨rfl, σ, rfl⟩
  ·injection h
noncomputable def wordsT : List Str := [sOf "position", sOf "last", sOf "v", sOf "number"]
noncomputable def wordsS : List Str := [sOf "true", sOf "false", sOf "w", sOf "", sOf "x"]
noncomputable def textR : Res V → Option V
 | .ok v _ => some v
 | _ => none
theorem textR_ok {r : Res V} {v : V} (h : textR r = some v) : ∃ σ, r = .ok v σ := by
 cases r with
 | ok v' σ => injection h with q1; subst q1; exact ⟨σ, rfl⟩
 | _ => injection h
theorem ev_worth : (tQ.map fun x => valR ((rcs gq 30).call (.old 1270) [.str x, .int 5, .int 2, .int 7] (oS (uQ ++ [])))) = tQ.map fun x => some (valE x) := by kernel_rfl
theorem ev_textT : (wordsT.map fun x => textR ((rcs gq 30).call (.old 209) [.new 5, .any] (oS (uQ ++ [.tup [.int (topOf x), .int 1]])))) = wordsT.map fun x => some (.str (textOf x)) := by kernel_rfl
theorem ev_textS : (wordsS.map fun x => textR ((rcs gq 30).call (.old 209) [scOf x, .any] (oS (uQ ++ [])))) = wordsS.map fun x => some (.str (textOf x)) := by kernel_rfl
theorem kinds : (tQ.all fun x => (bif kindOf x then hasS wordsT x else hasS wordsS x) && (bif kindOf x then true else isSc (scOf x))) = true := by kernel_rfl
theorem kind_at {x : Str} (hx : x ∈ tQ) : (kindOf x = true → x ∈ wordsT) ∧ (kindOf x = false → x ∈ wordsS ∧ isSc (scOf x) = true) := by
 have h := List.all_eq_true.mp kinds x hx
 refine aN (fun h1 h2 => ?_) h
 constructor
 ·intro hk; rw [hk, cond_true] at h1; exact @hasS_mem fQ _ _ h1
 ·intro hk; rw [hk, cond_false] at h1 h2; exact ⟨@hasS_mem fQ _ _ h1, h2⟩
section
variable {P : Program} {w : World} {K : Frag} {q : Bool} {ne : List Nat → Str → Bool} {orc : Qn → Option V} {kd : Nat → Bool} {τ : Tau} {X Y : Wl} {σ σ'' : St} {s s' : Shared} {l : List Env} {E : Value → Shared → Prop} {Q : Value → Shared → Prop} {ρ : List Addr} {r r' : V} {v : Value} {res : Res V} {g : Cx}
theorem val_up {i : Nat} {x : Str} (Wx : WordOk P w τ kd i x) (R : @Rel τ P w X σ s) (hY : (mQ s [] ρ).Le Y) (R' : @Rel fQ P w Y σ'' s') (hr : (kindOf x = true ∧ ∃ j, r' = .new j ∧ σ''.get j = some (.tup [.int (topOf x), .int 1])) ∨ (kindOf x = false ∧ r' = scOf x))
  (hv : @VR fQ Y.ρ r' v) (h : valH kd i σ = some res) (H : @OK τ P w g l X _ _ (@RV τ) Q E res) : Q v s' := by
 have hk : ∀ b o, s.heap.get? b = some o → s'.heap.get? b = some o := fun b o e => @mJ P w Y σ'' s s' fQ _ _ hY R' b (by nofun) o e
 have hg : s'.gens = s.gens := (@Rel.gens fQ _ _ _ _ _ R').trans hY.g
 have ho : s'.os = s.os := (@Rel.os fQ _ _ _ _ _ R').trans hY.o
 unfold valH at h
 rw [Wx.k] at h
 rcases hr with ⟨hk1, j, rfl, hj⟩ | ⟨hk1, rfl⟩
 ·rw [hk1, cond_true] at h
  refine xpp (fun hz q1 => ?_) (pushH_ok h); subst q1
  revert hv; refine aQ fun addr ha q1 => ?_; subst q1
  refine kQ (fun us n h1 hu => ?_) (@Rel.at fQ P w Y σ'' s' R' j _ hj addr ha (fun h => by injection h))
  have hd : @pQ τ P w ((@Wl.up X σ s').add addr) { cls := .type "tuple", dict := none, data := .seq us n, slots := #[] } (.tup [.sym [33, i], .int 1]) := by
   refine ⟨us, n, rfl, two_list hu (fun u hu => ?_) fun u hu => hu⟩
   show ScR (τ.tau [33, i]) u
   rw [Wx.t]; exact hu
  refine xppp (fun z1 z2 z3 => ?_) (@up_push P w X σ s s' τ addr _ _ R hk hg ho (by omega) rfl (by intro z h; cases h) h1 (@tup_notMut P w τ us n) hd)
  exact H _ _ _ z1 z2 ⟨addr, z3, rfl⟩
 ·rw [hk1, cond_false] at h
  injection h with q1; subst q1
  refine H X s' v (Wl.Le.refl X) (@Rel.keeps τ P w X σ s s' R hk hg ho) ?_
  show ScR (τ.tau [34, i]) v
  rw [Wx.c hk1]
  exact (@VR_sc fQ _ _ _ ((kind_at Wx.mem).2 hk1).2).mp hv
end
section
variable {P : Program} {w : World} {K : Frag} {q : Bool} {ne : List Nat → Str → Bool} {orc : Qn → Option V} {kd : Nat → Bool}
theorem four_of {τ : Tau} {ρ : List Addr} {a b c d : V} {us : List Value} (h : @cQ τ ρ [a, b, c, d] us) : ∃ u0 u1 u2 u3, us = [u0, u1, u2, u3] ∧ @VR τ ρ a u0 ∧ @VR τ ρ b u1 ∧ @VR τ ρ c u2 ∧ @VR τ ρ d u3 :=
 h.un fun u0 _ e0 h0 t => t.un fun u1 _ e1 h1 t => t.un fun u2 _ e2 h2 t => t.un fun u3 _ e3 h3 t => ⟨u0, u1, u2, u3, by rw [e0, e1, e2, e3, t.nl], h0, h1, h2, h3⟩
theorem small0 {τ : Tau} {n : Nat} {l : List Env} {A : Around} {X : Wl} {σ : St} {s : Shared} (S : @Sit τ P w (gy q ne orc) K gT (n + 1) l A X σ s) (hn : 30 ≤ n) : @Sit fQ P w gq K gT 30 l A (mQ s [] (gT ++ [])) (oS (uQ ++ [])) s :=
 small5 (S.down (n := 30) (by omega)) (by decide) trivial rfl (gq_ctx S.cx) (by intros; contradiction) (by intro i j o o' a h; simp at h)
theorem worth_hook {τ : Tau} (W : WordsOk P w τ kd) : @wJ τ P w (gy q ne orc) K gT (worthH kd) := by
 intro n fv vs u us σ X s A l Q E r h S hf hv H
 refine xppvvppp (fun q1 c2 i rs q2 h1 hA => ?_) (hookI_ok h); clear h; subst q1; subst q2
 rw [vsEq_ok h1] at hv
 refine xvp (fun x Wx => ?_) (W i)
 refine xvvvvppppp (fun u0 u1 u2 u3 q1 h0 h1 h2 h3 => ?_) (four_of hv); subst q1
 cases hf
 have h0 := (VR_symS Wx.wd).mp h0
 have hev := valR_ok (eJ ev_worth Wx.mem)
 have S' := small0 S c2
 obtain ⟨r', σ'', e1, hr⟩ : ∃ r' σ'', (rcs gq 30).call (.old 1270) [.str x, .int 5, .int 2, .int 7] (oS (uQ ++ [])) = .ok r' σ'' ∧ ((kindOf x = true ∧ ∃ j, r' = .new j ∧ σ''.get j = some (.tup [.int (topOf x), .int 1])) ∨ (kindOf x = false ∧ r' = scOf x)) := by
  revert hev; refine orE (xpvvpp fun z1 j σ1 z2 z3 => ?_) (xpvp fun z1 σ1 z2 => ?_)
  ·exact ⟨_, _, z2, .inl ⟨z1, j, rfl, z3⟩⟩
  ·exact ⟨_, _, z2, .inr ⟨z1, rfl⟩⟩
 exact @tJ P w gq K gT 30 l A σ'' s E fQ _ _ _ _ _ (.ref 1270) [u0, u1, u2, u3] _ e1 S' rfl ⟨h0, h1, h2, h3, trivial⟩ _ fun Y s' v hY R' hv' => val_up Wx S.rel hY R' hr hv' hA H
theorem len_one {l : List V} (h : Nat.beq l.length 1 = true) : ∃ v, l = [v] := by
 cases l with
 | nil => injection h
 | cons v l => cases l with
  | nil => exact ⟨v, rfl⟩
  | cons => injection h
theorem textS_hook {τ : Tau} (W : WordsOk P w τ kd) : @wJ τ P w (gy q ne orc) K gT (textS kd) := by
 intro n fv vs u us σ X s A l Q E r h S hf hv H
 refine xppvvppp (fun q1 c2 i rs q2 h1 hA => ?_) (hookI_ok h); subst q1; subst q2
 clear h
 refine xvp (fun t q1 => ?_) (len_one h1); subst q1
 refine xvp (fun x Wx => ?_) (W i)
 have hk1 : kindOf x = false := by
  refine qJ (kindOf x) (fun z => ?_) (fun z => ?_)
  ·rfl
  ·rw [Wx.k, z] at hA; injection hA
 rw [Wx.k, hk1] at hA
 injection hA with q1; subst q1
 refine oQ (fun u0 u1 q1 h0 h1 => ?_) (two_of' hv); clear hv; subst q1
 cases hf
 have h0 : ScR (τ.tau [34, i]) u0 := h0
 rw [Wx.c hk1] at h0
 refine xpp (fun z1 z2 => ?_) ((kind_at Wx.mem).2 hk1)
 refine xvp (fun σ'' e1 => ?_) (textR_ok (eJ ev_textS z1))
 have S' := small0 S c2
 refine @tJ P w gq K gT 30 l A σ'' s E fQ _ _ _ _ _ (.ref 209) [u0, u1] _ e1 S' rfl ⟨(@VR_sc fQ _ _ _ z2).mpr h0, @VR.handed τ _ _ _ h1, trivial⟩ _ fun Y s' v hY R' hv' => ?_
 have hk : ∀ b o, s.heap.get? b = some o → s'.heap.get? b = some o := fun b o e => @mJ P w Y σ'' s s' fQ _ _ hY R' b (by nofun) o e
 exact H X s' v (Wl.Le.refl X) (S.rel.keeps hk ((@Rel.gens fQ _ _ _ _ _ R').trans hY.g) ((@Rel.os fQ _ _ _ _ _ R').trans hY.o)) ((VR_symS Wx.s).mpr hv')
theorem textN_hook {τ : Tau} (W : WordsOk P w τ kd) : @wJ τ P w (gy q ne orc) K gT (textN kd) := by
 intro n fv vs u us σ X s A l Q E r h S hf hv H
 refine iQ (fun h1 h2 => ?_) h
 refine oB (fun p h3 h4 => ?_) h2
 refine iQ (fun h5 h6 => ?_) h4
 refine oB (fun i h7 h8 => ?_) h6
 refine iF (fun h9 q1 => ?_) h8; subst q1
 have hk0 := pairI_ok h7
 refine xvp (fun t ht => ?_) (len_one h5)
 have hvs := headN_ok h3
 rw [ht] at hvs
 rw [hvs] at hv
 have hfv := isOld_ok (aL h1)
 subst hfv
 have c2 := nL (aR h1)
 refine xvp (fun x Wx => ?_) (W i)
 have hk1 : kindOf x = true := by rw [← Wx.k]; exact h9
 refine oQ (fun u0 u1 q1 q2 h1 => ?_) (two_of' hv); clear hv; subst q1; revert q2; refine aQ fun x0 hx0 q3 => ?_; subst q3
 cases hf
 refine kQ (fun us m ho hu => ?_) (S.rel.at hk0 hx0)
 refine xvp (fun σ'' e1 => ?_) (textR_ok (eJ ev_textT ((kind_at Wx.mem).1 hk1)))
 have S' : @Sit fQ P w gq K gT 30 l A (mQ s [] (gT ++ [x0])) (oS (uQ ++ [.tup [.int (topOf x), .int 1]])) s := by
  refine small5 (S.down (n := 30) (Nat.le_succ_of_le c2)) (by show 1 ≤ 3000; decide) ⟨fun _ => ⟨_, ho, us, m, rfl, two_list hu (fun u hu => ?_) fun u hu => hu⟩, (by intros; contradiction), (by intros; contradiction), trivial⟩ rfl (gq_ctx S.cx) (by intros; contradiction) ?_
  ·have hu : ScR (τ.tau [33, i]) u := hu
   rw [Wx.t] at hu
   exact hu
  ·intro i j o o' a e _ hm
   cases i with
   | zero => injection e with q1; subst q1; injection hm
   | succ i => injection e
 refine @tJ P w gq K gT 30 l A σ'' s E fQ _ _ _ _ _ (.ref 209) [.ref x0, u1] _ e1 S' rfl ⟨⟨x0, rfl, rfl⟩, @VR.handed τ _ _ _ h1, trivial⟩ _ fun Y s' v hY R' hv' => ?_
 have hk : ∀ b o, s.heap.get? b = some o → s'.heap.get? b = some o := fun b o e => @mJ P w Y σ'' s s' fQ _ _ hY R' b (by nofun) o e
 exact H X s' v (Wl.Le.refl X) (S.rel.keeps hk ((@Rel.gens fQ _ _ _ _ _ R').trans hY.g) ((@Rel.os fQ _ _ _ _ _ R').trans hY.o)) ((VR_symS Wx.s).mpr hv')
end
noncomputable def ctxS : List (Str × V) := [(sOf "tree", .any), (sOf "node", .int 0), (sOf "position", .int 2), (sOf "size", .int 7), (sOf "variables", .new 10), (sOf "names", .any), (sOf "calls", .any), (sOf "current", .int 0), (sOf "ids", .any)]
noncomputable def varS : List (Str × V) := [(sOf "v", .new 11), (sOf "w", .str (sOf "t"))]
noncomputable def ctx4 : List O := [.inst 1006 9, .ro (.at ctxS), .ro (.dict varS), .tup [.int 2, .int 1]]
noncomputable def packO (x : Str) : List O := (plain x).map wrapO
noncomputable def evOs (x : Str) : List O := packO x ++ (List.replicate (3 - (plain x).length) .junk ++ ctx4)
theorem ev_eval : (tQ.map fun x => valR ((rcs gq 30).call (.old 967) [.new 5, .new 8] (oS (uQ ++ evOs x)))) = tQ.map fun x => some (valE x) := by kernel_rfl
noncomputable def no5 : V → Bool
 | .new n => !Nat.beq n 5
 | _ => true
noncomputable def no5O : O → Bool
 | .inst _ d => !Nat.beq d 5
 | .at m => m.all fun p => no5 p.2
 | .tup xs => xs.all no5
 | .ro (.at m) => m.all fun p => no5 p.2
 | _ => false
theorem plain5 : (tQ.all fun x => (packO x).all no5O) = true := by kernel_rfl
theorem at_swap {a b : Addr} {r : List Addr} {n : Nat} (h : n ≠ 5) : (gT ++ a :: r)[n]? = (gT ++ b :: r)[n]? := by
 match n with
 | 0 | 1 | 2 | 3 | 4 => rfl
 | 5 => exact (h rfl).elim
 | n + 6 => rfl
section
variable {P : Program} {w : World} {X X' : Wl} {a b : Addr} {r : List Addr}
theorem VR_swap {v : V} {u : Value} (h : no5 v = true) : @VR fQ (gT ++ a :: r) v u → @VR fQ (gT ++ b :: r) v u := by
 cases v with
 | new n =>
  rintro ⟨x, hx, rfl⟩
  have hn : n ≠ 5 := by rintro rfl; injection h
  exact ⟨x, (at_swap hn).symm.trans hx, rfl⟩
 | _ => exact id
theorem AllR_swap {vs : List V} {us : List Value} (h : vs.all no5 = true) (q : @cQ fQ (gT ++ a :: r) vs us) : @cQ fQ (gT ++ b :: r) vs us :=
 @cQ.ind fQ (gT ++ a :: r) (fun vs us => vs.all no5 = true → @cQ fQ (gT ++ b :: r) vs us) (fun _ => trivial) (fun v vs u us e _ ih h => ⟨VR_swap (aL h) e, ih (aR h)⟩) _ _ q h
theorem MapR_swap {m : List (Str × V)} {f : Str → Option Value} (h : (m.all fun p => no5 p.2) = true) (e : @MapR fQ (gT ++ a :: r) m f) : @MapR fQ (gT ++ b :: r) m f := by
 intro x
 have := e x
 revert this
 refine gE (look m x) (fun hl => ?_) (fun v hl => ?_)
 ·cases f x <;> exact id
 ·
  have hv : no5 v = true := List.all_eq_true.mp h _ (@look_mem fQ _ _ _ _ hl)
  cases f x with
  | none => exact id
  | some u => exact VR_swap hv
set_option tactic.hygienic true in
theorem ObjD_swap {ob : Obj} {o : O} (h : no5O o = true) (hX : X.ρ = gT ++ a :: r) (hX' : X'.ρ = gT ++ b :: r) (e : @pQ fQ P w X ob o) : @pQ fQ P w X' ob o := by
 unfold no5O at h
 split at h
 ·rename_i C d
  revert e; refine aQ fun dx h1 h2 => ?_
  have hn : d ≠ 5 := by rintro rfl; injection h
  exact ⟨dx, by rw [hX', ← at_swap (a := a) hn, ← hX]; exact h1, h2⟩
 ·revert e; refine xvvpppp fun es ep h1 h2 h3 h4 => ?_
  exact ⟨es, ep, h1, h2, h3, by rw [hX']; rw [hX] at h4; exact MapR_swap h h4⟩
 ·revert e; refine xvvpp fun us n h1 h2 => ?_
  exact ⟨us, n, h1, by rw [hX']; rw [hX] at h2; exact AllR_swap h h2⟩
 ·revert e; refine xvvpppp fun es ep h1 h2 h3 h4 => ?_
  exact ⟨es, ep, h1, h2, h3, by rw [hX']; rw [hX] at h4; exact MapR_swap h h4⟩
 ·injection h
end
theorem ObjsD.append {P : Program} {w : World} {τ' : Tau} {X : Wl} {s : Shared} {muts : List Addr} {os os' : List O} {as' : List Addr} : ∀ {as : List Addr}, ObjsD P w τ' X s muts os as → ObjsD P w τ' X s muts os' as' → ObjsD P w τ' X s muts (os ++ os') (as ++ as') := by
 induction os with
 | nil =>
  intro as h h'
  cases as with
  | nil => exact h'
  | cons => exact h.elim
 | cons o os ih =>
  intro as h h'
  cases as with
  | nil => exact h.elim
  | cons a as => exact ⟨h.1, h.2.1, h.2.2.1, ih h.2.2.2 h'⟩
theorem ObjsD.of_get {P : Program} {w : World} {τ' : Tau} {X : Wl} {s : Shared} {muts : List Addr} {os : List O} : ∀ {as : List Addr}, as.length = os.length → (∀ (i : Nat) (o : O), os[i]? = some o → ∃ a, as[i]? = some a ∧ (o ≠ .junk → ∃ ob, s.heap.get? a = some ob ∧ @pQ τ' P w X ob o) ∧ (o.mut = true → a ∈ muts) ∧ ∀ z, o = .ro z → a ≠ sysModules) → ObjsD P w τ' X s muts os as := by
 induction os with
 | nil =>
  intro as hl _
  rw [List.eq_nil_of_length_eq_zero hl]
  trivial
 | cons o os ih =>
  intro as hl h
  refine xvpppp (fun a' e h1 h2 h3 => ?_) (h 0 o rfl)
  cases as with
  | nil => injection e
  | cons a as =>
   injection e with q1; subst q1
   exact ⟨h1, h2, h3, ih (Nat.succ.inj hl) fun i => h (i + 1)⟩
noncomputable def ConvM (τ τ' : Tau) (ρ ρ' : List Addr) : List (Str × V) → List (Str × V) → Prop
 | [], [] => True
 | (x, v) :: m, (y, v') :: m' => x = y ∧ (∀ u, @VR τ ρ v u → @VR τ' ρ' v' u) ∧ ConvM τ τ' ρ ρ' m m'
 | _, _ => False
theorem ConvM.map {τ τ' : Tau} {ρ ρ' : List Addr} {f : Str → Option Value} {m m' : List (Str × V)} (h : @MapR τ ρ m f) (c : ConvM τ τ' ρ ρ' m m') : @MapR τ' ρ' m' f := by
 intro x
 have hx := h x
 clear h
 revert hx
 induction m generalizing m' with
 | nil =>
  cases m' with
  | nil => cases f x <;> exact id
  | cons => exact c.elim
 | cons p m ih =>
  obtain ⟨k, v⟩ := p
  cases m' with
  | nil => exact c.elim
  | cons p' m' =>
   obtain ⟨k', v'⟩ := p'
   revert c; refine xppp fun q1 c1 c2 => ?_; subst q1
   rw [look_cons, look_cons]
   cases eqS k x with
   | true =>
    rw [cond_true, cond_true]
    cases f x with
    | none => exact id
    | some u => exact c1 u
   | false => rw [cond_false, cond_false]; exact ih c2
theorem ConvM.dr {τ τ' : Tau} {ρ ρ' : List Addr} {m m' : List (Str × V)} {k : List (Str × Value)} (h : @DR τ ρ m k) (c : ConvM τ τ' ρ ρ' m m') : @DR τ' ρ' m' k := by
 refine @DR.ind τ ρ (fun m k => ∀ m', ConvM τ τ' ρ ρ' m m' → @DR τ' ρ' m' k) ?_ ?_ m k h m' c
 ·intro m' c
  cases m' with
  | nil => trivial
  | cons => exact c.elim
 ·intro x v m u k h1 _ ih m' c
  cases m' with
  | nil => exact c.elim
  | cons y m' => exact ⟨c.1.symm, c.2.1 _ h1, ih m' c.2.2⟩
theorem ctxIs_ok {σ : St} (h : ctxIs σ = true) : σ.get 14 = some (.inst 1006 16) ∧ σ.get 16 = some (.at ctxM) ∧ σ.get 17 = some (.dict varM) ∧ σ.get 21 = some (.tup [.int 2, .int 1]) :=
 ⟨isInst_ok (aL h), isAt_ok (aL (aR h)), isDict_ok (aL (aR (aR h))), isTup_ok (aR (aR (aR h)))⟩
theorem evOs_ok : (tQ.all fun x => (evOs x).all (fun o => !o.mut) && (Nat.beq (evOs x).length 7 && Nat.beq (packO x).length (plain x).length)) = true := by kernel_rfl
theorem evOs_at {x : Str} (hx : x ∈ tQ) : (∀ o ∈ evOs x, o.mut = false) ∧ (evOs x).length = 7 := by
 refine aN (fun h1 h2 => ?_) (List.all_eq_true.mp evOs_ok x hx)
 revert h2; refine aN fun h2 _ => ?_
 exact ⟨fun o ho => by simpa using List.all_eq_true.mp h1 o ho, nE h2⟩
theorem junks_ok {P : Program} {w : World} {τ' : Tau} {X : Wl} {s : Shared} {muts : List Addr} {a : Addr} : ∀ n, ObjsD P w τ' X s muts (List.replicate n .junk) (List.replicate n a)
 | 0 => trivial
 | n + 1 => ⟨fun h => (h rfl).elim, (by intros; contradiction), (by intros; contradiction), junks_ok n⟩
section
variable {P : Program} {w : World} {K : Frag} {q : Bool} {ne : List Nat → Str → Bool} {orc : Qn → Option V} {kd : Nat → Bool}
theorem eval_small {τ : Tau} {X : Wl} {σ : St} {s : Shared} {i k : Nat} {x : Str} {x0 a14 : Addr} {n : Nat} {l : List Env} {A : Around} (S : @Sit τ P w (gy q ne orc) K gT (n + 1) l A X σ s) (hn : 30 ≤ n) (Wx : WordOk P w τ kd i x) (hk : σ.get k = some (.mk [23, i])) (hx0 : X.ρ[k]? = some x0)
  (h14 : X.ρ[14]? = some a14) (hc : ctxIs σ = true) : ∃ ρ, @Sit fQ P w gq K gT 30 l A (mQ s [] (gT ++ ρ)) (oS (uQ ++ evOs x)) s ∧ (gT ++ ρ)[5]? = some x0 ∧ (gT ++ ρ)[8]? = some a14 := by
 have R := S.rel
 refine xpppp (fun e14 e16 e17 e21 => ?_) (ctxIs_ok hc)
 refine aQ (fun ob ho hm => ?_) (R.at hk hx0)
 have hm : τ.mkD [23, i] X.B ob := hm
 rw [Wx.p] at hm
 revert hm; refine xvpvpppp fun X1 hB1 ρ1 hρ1 hl1 q1 hall => ?_; revert q1; refine aQ fun a0 g1 g2 => ?_
 obtain ⟨r1, rfl⟩ : ∃ r1, ρ1 = a0 :: r1 := by
  cases ρ1 with
  | nil => injection g1
  | cons b r => injection g1 with q1; subst q1; exact ⟨r, rfl⟩
 refine xppvvp (fun p1 p2 C0 d0 p3 => ?_) (plain_at Wx.mem)
 have hL : (plain x).length = r1.length + 1 := by rw [List.length_map] at hl1; exact hl1.symm
 refine xvpvpr0 (fun dx o14 h16 => ?_) (R.at e14 h14)
 refine xvpvvpppp (fun ob16 o16 es ep d16 k16 z16 m16 => ?_) (R.at e16 h16)
 refine xvp (fun a17 h17 => ?_) (R.isin e17)
 refine xvpvpp (fun ob17 o17 kvs d17 m17 => ?_) (R.at e17 h17)
 refine xvp (fun a21 h21 => ?_) (R.isin e21)
 refine kQ (fun us nn o21 m21 => ?_) (R.at e21 h21)
 refine xvp (fun osys hsys => ?_) (S.cx.sysm)
 have ns16 : dx ≠ sysModules := by rintro rfl; rw [R.fresh _ _ _ e16 rfl h16] at hsys; injection hsys
 have ns17 : a17 ≠ sysModules := by rintro rfl; rw [R.fresh _ _ _ e17 rfl h17] at hsys; injection hsys
 have hp5 : ∀ o ∈ packO x, no5O o = true := fun o ho => List.all_eq_true.mp (List.all_eq_true.mp plain5 x Wx.mem) o ho
 let ρt : List Addr := (x0 :: r1) ++ (List.replicate (3 - (plain x).length) x0 ++ [a14, dx, a17, a21])
 have hat : ∀ j, (gT ++ ρt)[8 + j]? = [a14, dx, a17, a21][j]? := fun j => by
  rw [show 8 + j = 5 + (3 + j) by omega, yJ]
  show ((x0 :: r1) ++ (List.replicate (3 - (plain x).length) x0 ++ [a14, dx, a17, a21]))[3 + j]? = _
  rw [List.getElem?_append_right (by rw [List.length_cons]; omega), List.getElem?_append_right (by rw [List.length_replicate, List.length_cons]; omega)]
  congr 1
  rw [List.length_replicate, List.length_cons]
  omega
 refine ⟨ρt, ?_, by rw [show (5 : Nat) = 5 + 0 from rfl, yJ]; rfl, (hat 0)⟩
 refine small5 (S.down (n := 30) (by omega)) (by rw [(evOs_at Wx.mem).2]; decide) ?_ rfl (gq_ctx S.cx) (by intros; contradiction) ?_
 ·refine ObjsD.append ?_ (ObjsD.append (junks_ok _) ?_)
  ·refine ObjsD.of_get (by rw [List.length_cons, ← hL]; exact (List.length_map ..).symm) fun j o e => ?_
   refine xvvpppp (fun a ob' b1 b2 b3 b4 => ?_) (hall j o e)
   have hsw := hp5 o (List.mem_of_getElem? e)
   have key : @pQ fQ P w (mQ s [] (gT ++ ρt)) ob' o := by
    have e1 : @pQ fQ P w (mQ s [] (gT ++ x0 :: r1)) ob' o := ObjD_swap (X' := mQ s [] (gT ++ x0 :: r1)) hsw hρ1 rfl b3
    refine @pQ.mono fQ P w (mQ s [] (gT ++ x0 :: r1)) (mQ s [] (gT ++ ρt)) ⟨fun _ _ h => h, ?_, rfl, rfl, rfl⟩ ob' o e1
    exact (List.prefix_append_right_inj gT).mpr (List.prefix_append _ _)
   cases j with
   | zero =>
    injection b1 with q1; subst q1
    rw [g2] at b2
    injection b2 with q1; subst q1
    have ho0 : o = .inst C0 d0 := by
     have : (packO x)[0]? = some (wrapO (.inst C0 d0)) := by unfold packO; rw [List.getElem?_map, p3]; rfl
     exact Option.some.inj (e.symm.trans this)
    subst ho0
    exact ⟨x0, rfl, fun _ => ⟨ob, ho, key⟩, (by intros; contradiction), (by intros; contradiction)⟩
   | succ j =>
    refine ⟨a, b1, fun _ => ⟨ob', R.keep _ _ b2, key⟩, fun hmut => ?_, b4⟩
    rw [(evOs_at Wx.mem).1 o (List.mem_append_left _ (List.mem_of_getElem? e))] at hmut
    injection hmut
  ·refine ⟨fun _ => ⟨_, o14, dx, hat 1, rfl⟩, (by intros; contradiction), (by intros; contradiction), fun _ => ⟨ob16, o16, es, ep, d16, k16, ?_, ?_⟩, (by intros; contradiction), fun _ _ => ns16, fun _ => ⟨ob17, o17, kvs, d17, ?_⟩, (by intros; contradiction), fun _ _ => ns17, fun _ => ⟨_, o21, us, nn, rfl, ?_⟩, (by intros; contradiction), (by intros; contradiction), trivial⟩
   ·exact z16
   ·refine ConvM.map m16 ⟨rfl, fun u h => h, rfl, fun u h => h, rfl, fun u h => h, rfl, fun u h => h, rfl, fun u h => ?_, rfl, fun u h => @VR.handed τ _ _ _ h, rfl, fun u h => @VR.handed τ _ _ _ h, rfl, fun u h => h, rfl, fun u h => @VR.handed τ _ _ _ h, trivial⟩
    revert h; refine aQ fun y hy q1 => ?_; subst q1
    rw [h17] at hy; injection hy with q1; subst q1
    exact ⟨a17, hat 2, rfl⟩
   ·refine ConvM.dr m17 ⟨rfl, fun u h => ?_, rfl, fun u h => h, trivial⟩
    revert h; refine aQ fun y hy q1 => ?_; subst q1
    rw [h21] at hy; injection hy with q1; subst q1
    exact ⟨a21, hat 3, rfl⟩
   ·exact two_list m21 (fun u h => h) fun u h => h
 ·intro i j o o' a e _ hmut
  rw [(evOs_at Wx.mem).1 o (List.mem_of_getElem? e)] at hmut
  injection hmut
theorem eval_hook {τ : Tau} (W : WordsOk P w τ kd) : @wJ τ P w (gy q ne orc) K gT (evalH kd) := by
 intro n fv vs u us σ X s A l Q E r h S hf hv H
 refine iQ (fun h1 h2 => ?_) h
 refine oB (fun p h3 h4 => ?_) h2
 refine iQ (fun h5 h6 => ?_) h4
 refine oB (fun i h7 h8 => ?_) h6
 refine iQ (fun hctx h9 => ?_) h8
 have hk := mkK_ok h7
 rw [twoN_ok h3, nE h5] at hv
 have hfv := isOld_ok (aL h1)
 subst hfv
 have e2 := nL (aR h1)
 refine xvp (fun x Wx => ?_) (W i)
 refine xvvppvpr1 (fun u0 a14 q1 q2 h14 => ?_) (two_of' hv); clear hv; subst q1; revert q2; refine aQ fun x0 hx0 q3 => ?_; subst q3
 cases hf
 refine xvppp (fun ρ S' g5 g8 => ?_) (eval_small S e2 Wx hk hx0 h14 hctx)
 have hev := valR_ok (eJ ev_eval Wx.mem)
 obtain ⟨r', σ'', e1, hr⟩ : ∃ r' σ'', (rcs gq 30).call (.old 967) [.new 5, .new 8] (oS (uQ ++ evOs x)) = .ok r' σ'' ∧ ((kindOf x = true ∧ ∃ j, r' = .new j ∧ σ''.get j = some (.tup [.int (topOf x), .int 1])) ∨ (kindOf x = false ∧ r' = scOf x)) := by
  revert hev; refine orE (xpvvpp fun z1 j σ1 z2 z3 => ?_) (xpvp fun z1 σ1 z2 => ?_)
  ·exact ⟨_, _, z2, .inl ⟨z1, j, rfl, z3⟩⟩
  ·exact ⟨_, _, z2, .inr ⟨z1, rfl⟩⟩
 exact @tJ P w gq K gT 30 l A σ'' s E fQ _ _ _ _ _ (.ref 967) [.ref x0, .ref a14] _ e1 S' rfl ⟨⟨x0, g5, rfl⟩, ⟨a14, g8, rfl⟩, trivial⟩ _ fun Y s' v hY R' hv' => val_up Wx S.rel hY R' hr hv' h9 H
end
set_option tactic.hygienic true in
theorem or_hook {τ : Tau} {P : Program} {w : World} {g : Cx} {K : Frag} {T : List Addr} {H₁ H₂ : Hook} (h1 : @wJ τ P w g K T H₁) (h2 : @wJ τ P w g K T H₂) : @wJ τ P w g K T (orH H₁ H₂) := by
 intro n fv vs u us σ X s A l Q E r h S hf hv H
 unfold orH at h
 split at h
 ·rename_i q e
  injection h with q1; subst q1
  exact h1 n e S hf hv H
 ·exact h2 n h S hf hv H
noncomputable def strOf : V → Str
 | .str x => x
 | _ => sOf "z"
noncomputable def isW (ex : List Nat → V) (i : Nat) : Bool := hasS tQ (strOf (ex [23, i]))
noncomputable def wF (k : Nat) (ex : List Nat → V) (i : Nat) : Str := bif Nat.blt i k && isW ex i then strOf (ex [23, i]) else sOf "x"
noncomputable def patF (k : Nat) (ex : List Nat → V) : List (Option Bool) := (List.range k).map fun i => bif isW ex i then some (kindOf (strOf (ex [23, i]))) else none
noncomputable def partF (k : Nat) (ex : List Nat → V) (j : Nat) : Str := bif Nat.beq j 99 then sOf "z" else textOf (wF k ex j)
noncomputable def exF (k : Nat) (ex : List Nat → V) : List Nat → V
 | [23, i] => .str (wF k ex i)
 | [33, i] => .int (topOf (wF k ex i))
 | [34, i] => scOf (wF k ex i)
 | [35, i] => .str (textOf (wF k ex i))
 | 36 :: l => .str (Builtin.Str.glued Str.empty (l.map (partF k ex)))
 | _ => .int 0
noncomputable def pkF (k : Nat) (ex : List Nat → V) : List Nat → List O
 | [23, i] => packO (wF k ex i)
 | _ => []
theorem x_in : sOf "x" ∈ tQ := by unfold tQ; simp
theorem wF_mem (k : Nat) (ex : List Nat → V) (i : Nat) : wF k ex i ∈ tQ := by
 unfold wF
 refine cZ ((Nat.blt i k && isW ex i)) (fun h => ?_) (fun h => ?_)
 ·rw [cond_true]; exact @hasS_mem fQ _ _ (Bool.and_eq_true_iff.mp h).2
 ·rw [cond_false]; exact x_in
theorem patF_get {k : Nat} {ex : List Nat → V} (i : Nat) : kdOf (patF k ex) i = kindOf (wF k ex i) := by
 have kx : kindOf (sOf "x") = false := by kernel_rfl
 unfold kdOf patF wF
 rw [List.getElem?_map]
 by_cases hi : i < k
 ·rw [List.getElem?_range hi, bI.mpr hi, Bool.true_and, Option.map_some]
  cases isW ex i with
  | true =>
   rw [cond_true, cond_true]
   cases kindOf (strOf (ex [23, i])) <;> rfl
  | false => rw [cond_false, cond_false, kx]
 ·rw [List.getElem?_eq_none_iff.mpr (by rw [List.length_range]; omega), blt_false hi, Bool.false_and, cond_false, kx]; rfl
theorem texts9 : (tQ.all fun x => eqS (strOf ((look textsM x).getD (.str x))) (textOf x) && ((match (look textsM x).getD (.str x) with | .str _ => true | _ => false) && (Nat.ble (textOf x).length 8 && (match scOf x with | .str y => !eqS y (sOf "refused") | _ => true)))) = true := by kernel_rfl
section
variable {P : Program} {w : World} {a b : Int} {ex : List Nat → V} {nn k : Nat} {g : Cx}
theorem wordsF : WordsOk P w (jQ P w a b (exF k ex) nn (pkF k ex)) (kdOf (patF k ex)) := fun i =>
 ⟨wF k ex i, wF_mem k ex i, rfl, rfl, patF_get i, rfl, fun h => by
  show (bif isSc (scOf (wF k ex i)) then scOf (wF k ex i) else V.bool true) = _
  rw [((kind_at (wF_mem k ex i)).2 h).2]; rfl, rfl⟩
set_option tactic.hygienic true in
theorem texts_at {x : Str} (hx : x ∈ tQ) : (look textsM x).getD (.str x) = .str (textOf x) ∧ (textOf x).length ≤ 8 ∧ scOf x ≠ .str (sOf "refused") := by
 refine aN (fun h1 h2 => ?_) (List.all_eq_true.mp texts9 x hx)
 revert h2; refine aN fun h2 h3 => ?_
 revert h3; refine aN fun h3 h4 => ?_
 refine ⟨?_, nL h3, fun e => ?_⟩
 ·split at h2
  ·rename_i y e
   rw [e] at h1 ⊢
   rw [show strOf (V.str y) = y from rfl] at h1
   rw [eI.mp h1]
  ·injection h2
 ·rw [e] at h4
  dsimp only at h4
  rw [eI.mpr rfl] at h4
  injection h4
theorem callNe_ok : ∀ t x, callNe t x = true → (jQ P w a b (exF k ex) nn (pkF k ex)).tau t ≠ .str x := by
 intro t x h
 refine iI (fun i h1 h2 => ?_) h
 rw [symT_ok h1, eI.mp h2]
 show (bif isSc (scOf (wF k ex i)) then scOf (wF k ex i) else V.bool true) ≠ _
 cases isSc (scOf (wF k ex i)) with
 | true => exact (texts_at (wF_mem k ex i)).2.2
 | false => nofun
theorem idxV_ok {v : V} {i : Nat} (h : idxV v = some i) : @dn (jQ P w a b (exF k ex) nn (pkF k ex)) v = V.str (partF k ex i) := by
 cases v with
 | str x =>
  refine iF (fun h1 q1 => ?_) h; subst q1
  rw [eI.mp h1]
  rfl
 | sym t =>
  refine oB (fun j h1 h2 => ?_) h
  refine iF (fun h3 q1 => ?_) h2; clear h2; subst q1
  have e : t = [35, j] := symT_ok h1
  rw [e]
  show V.str (textOf (wF k ex j)) = V.str (partF k ex j)
  unfold partF
  refine qJ (Nat.beq j 99) (fun y => ?_) (fun y => ?_)
  ·rfl
  ·rw [nE y] at h3; injection h3
 | _ => exact nos h
theorem idxs_ok : ∀ {xs : List V} {l : List Nat}, idxs xs = some l → xs.map (@dn (jQ P w a b (exF k ex) nn (pkF k ex))) = l.map fun j => V.str (partF k ex j)
 | [], l, h => by (injection h with q1; subst q1); rfl
 | v :: xs, l, h => by
  refine oB (fun i h1 h2 => ?_) h
  refine oB (fun r h3 h4 => ?_) h2
  injection h4 with q1; clear h h2; subst q1
  rw [List.map_cons, List.map_cons, idxs_ok h3, idxV_ok h1]
theorem allStr_map {f : Nat → Str} : ∀ (l : List Nat), allStr (l.map fun j => V.str (f j)) = some (l.map f)
 | [] => rfl
 | j :: l => by
  show (match allStr (l.map fun j => V.str (f j)) with | some r => some (f j :: r) | none => none) = _
  rw [allStr_map l]; rfl
theorem sumLen_le {f : Nat → Str} (hf : ∀ j, (f j).length ≤ 8) : ∀ (l : List Nat), sumLen (l.map f) ≤ 8 * l.length
 | [] => Nat.le_refl _
 | j :: l => by
  show (f j).length + sumLen (l.map f) ≤ _
  have := hf j
  have := sumLen_le hf l
  rw [List.length_cons]
  omega
theorem callGet_ok {es : List (Str × V)} {x d v : V} (h : callGet es x d = some v) : @OrcD (jQ P w a b (exF k ex) nn (pkF k ex)) g (.get es x d) v := by
 refine oB (fun i h1 h2 => ?_) h
 refine iF (fun h3 q1 => ?_) h2; clear h h2; subst q1
 rw [kZ (aL h3), mEq_ok (aR h3), symI_ok h1]
 have ht := (texts_at (wF_mem k ex i)).1
 refine ⟨wF k ex i, rfl, fun ρ u hu => ?_⟩
 show ∃ t, u = Value.str (textOf (wF k ex i)) t
 refine jZ (look textsM (wF k ex i)) (fun v hl => ?_) (fun hl => ?_)
 ·
  rw [hl] at hu ht
  have ht : v = .str (textOf (wF k ex i)) := ht
  subst ht
  exact hu
 ·
  rw [hl] at hu ht
  have ht : V.str (wF k ex i) = .str (textOf (wF k ex i)) := ht
  injection ht with ht
  rw [← ht]
  exact hu
theorem callJoin_ok {s : Str} {xs : List V} {v : V} (h : callJoin s xs = some v) : @OrcD (jQ P w a b (exF k ex) nn (pkF k ex)) g (.join s xs) v := by
 refine iQ (fun h1 h2 => ?_) h
 refine oB (fun r h3 h4 => ?_) h2
 refine iF (fun h5 q1 => ?_) h4; clear h h2 h4; subst q1
 have h5 := nL h5
 refine ⟨.str (Builtin.Str.glued Str.empty (r.map (partF k ex))), ?_, fun ρ u hu => hu⟩
 rw [eI.mp h1, idxs_ok h3]
 unfold joinV
 rw [allStr_map]
 dsimp only
 have hp : ∀ j, (partF k ex j).length ≤ 8 := fun j => by
  unfold partF
  cases Nat.beq j 99 with
  | true => show (sOf "z").length ≤ 8; decide +kernel
  | false => exact (texts_at (wF_mem k ex j)).2.1
 have := sumLen_le hp r
 rw [show Nat.ble (sumLen (r.map (partF k ex)) + (r.map (partF k ex)).length * Str.empty.length) 1000000 = true from Nat.ble_eq.mpr (by rw [List.length_map, show Str.empty.length = 0 from rfl]; omega)]
 rfl
theorem callO_ok : ∀ q v, callO q = some v → @OrcD (jQ P w a b (exF k ex) nn (pkF k ex)) g q v := by
 intro q v h
 cases q with
 | get es x d => exact callGet_ok h
 | join s xs => exact callJoin_ok h
 | _ => exact nos h
end
noncomputable def tblF (x : Str) (p : List (Option Bool)) : List (List Nat × V) := [([2], .sym [2]), ([3], .sym [3]), ([24], .str x)] ++ (List.range p.length).map fun i => ([23, i], match p[i]? with | some (some _) => V.sym [23, i] | _ => V.str (sOf "z"))
noncomputable def cutVF (nn : Nat) (x : Str) (p : List (Option Bool)) : Cut := ⟨[], [sOf "tree"], fun _ => [6], tmOf (tblF x p), ovNodes nn⟩
theorem evVF (nn : Nat) : (casesF.map fun c => ((cutVF nn c.1 c.2).gc (oS (osF (toks 23 c.2.length) (.sym [24])))).st (oS (osF (toks 23 c.2.length) (.sym [24])))) = casesF.map fun c => some (oS (osF (wsOf 0 c.2) (.str c.1))) := by kernel_rfl
theorem evVF_at {nn : Nat} {x : Str} {p : List (Option Bool)} (h : (x, p) ∈ casesF) : ((cutVF nn x p).gc (oS (osF (toks 23 p.length) (.sym [24])))).st (oS (osF (toks 23 p.length) (.sym [24]))) = some (oS (osF (wsOf 0 p) (.str x))) := by
 have h := eJ (evVF nn) h
 dsimp only at h
 exact h
theorem evF_at {nn : Nat} {x : Str} {p : List (Option Bool)} (h : (x, p) ∈ casesF) : segR (rcsH gF (callH' (kdOf p)) 70) (part 18 19) (cutF nn) (oS (osF (wsOf 0 p) (.str x))) = some (oS osG) := by
 have h := eJ (evF nn) h
 unfold evFl evFr at h
 dsimp only at h
 exact h
theorem mem_pats : ∀ (p : List (Option Bool)), p ∈ pats p.length
 | [] => .head _
 | o :: p => List.mem_flatMap.mpr ⟨p, mem_pats p, by
   rcases o with _ | b
   ·simp
   ·cases b <;> simp⟩
theorem mem_casesF {x : Str} {p : List (Option Bool)} (hx : x ∈ names6) (hp : p.length < 4) : (x, p) ∈ casesF := by
 refine List.mem_flatMap.mpr ⟨x, hx, List.mem_map.mpr ⟨p, List.mem_flatMap.mpr ⟨p.length, ?_, mem_pats p⟩, rfl⟩⟩
 have : p.length = 0 ∨ p.length = 1 ∨ p.length = 2 ∨ p.length = 3 := by omega
 simpa using this
theorem osG_ns : ∃ m, (oS osG).get 5 = some (.ns m) := ⟨_, (nQ (os := osG) (nL rfl) 5).trans rfl⟩
theorem words10_9 : (words10.all fun x => hasS tQ x || eqS x (sOf "z")) = true := by kernel_rfl
section
variable {Z : Fixed} {a b : Int} {ex : List Nat → V} {nn k : Nat} {pk : List Nat → List O} {s : Shared} {rest : List Stmt} {Q : Flow → Shared → Prop} {E : Value → Shared → Prop}
theorem law_F (hk : k < 4) (F : ExF k ex) (L : LawS Z a b ex nn pk (osF (toks 23 k) (.sym [24])) s) (q : ∀ s', LawS Z a b ex0 nn pk osG s' → wpAny (model Z.P Z.w) Z.A (execs rest Z.env) Q E s') :
  wpAny (model Z.P Z.w) Z.A (execs (part 18 19 ++ rest) Z.env) Q E s := by
 refine aQ (fun x hx hxe => ?_) (F.n)
 have hpl : (patF k ex).length = k := by unfold patF; rw [List.length_map, List.length_range]
 have hc : (x, patF k ex) ∈ casesF := mem_casesF hx (by omega)
 have hv := evVF_at (nn := nn) hc
 rw [hpl] at hv
 have L' : LawS Z a b (exF k ex) nn (pkF k ex) (osF (wsOf 0 (patF k ex)) (.str x)) s := by
  refine L.view hv (osF_ns _ _) ⟨aZ.h21, aZ.h22⟩ (hZ ?_) fun X => ovNodes_ok
  intro p hp ρ u hu
  refine orE (fun hp => ?_) (fun hp => ?_) (List.mem_append.mp hp)
  ·simp only [List.mem_cons, List.not_mem_nil, or_false] at hp
   rcases hp with rfl | rfl | rfl
   ·exact hu
   ·exact hu
   ·have : (jQ Z.P Z.w a b ex nn pk).tau [24] = .str x := by
     show (bif isSc (ex [24]) then ex [24] else V.bool true) = _
     rw [hxe]; rfl
    rw [this] at hu
    exact hu
  ·refine aQ (fun i hi q1 => ?_) (List.mem_map.mp hp); subst q1
   rw [hpl] at hi
   have hi := List.mem_range.mp hi
   refine aQ (fun y hy hye => ?_) (F.w i hi)
   have ht : (jQ Z.P Z.w a b ex nn pk).tau [23, i] = .str y := by
    show (bif isSc (ex [23, i]) then ex [23, i] else V.bool true) = _
    rw [hye]; rfl
   rw [ht] at hu
   have hpi : (patF k ex)[i]? = some (bif isW ex i then some (kindOf (strOf (ex [23, i]))) else none) := by
    unfold patF
    rw [List.getElem?_map, List.getElem?_range hi]; rfl
   rw [hpi]
   have hW : isW ex i = hasS tQ y := by unfold isW; rw [hye]; rfl
   refine nJ (hasS tQ y) (fun hw => ?_) (fun hw => ?_)
   ·
    rw [hW, hw, cond_true]
    show ScR (V.str (wF k ex i)) u
    have : wF k ex i = y := by
     unfold wF
     rw [bI.mpr hi, hW, hw, hye]; rfl
    rw [this]
    exact hu
   ·
    rw [hW, hw, cond_false]
    have hz : y = sOf "z" := by
     have := List.all_eq_true.mp words10_9 y hy
     rw [hw, Bool.false_or] at this
     exact eI.mp this
    rw [hz] at hu
    exact hu
 obtain ⟨hE₀, X, I, S, e⟩ := L'
 have cx := @Sit.cx (jQ Z.P Z.w a b (exF k ex) nn (pkF k ex)) _ _ _ _ _ _ _ _ _ _ _ S
 have S₁ : @Sit (jQ Z.P Z.w a b (exF k ex) nn (pkF k ex)) Z.P Z.w gF Z.K gT 70 Z.l Z.A X (oS (osF (wsOf 0 (patF k ex)) (.str x))) s := by
  obtain ⟨s1, s2, s3, s4, s5⟩ := S
  exact @Sit.mk (jQ Z.P Z.w a b (exF k ex) nn (pkF k ex)) _ _ _ _ _ _ _ _ _ _ _ s1 (fun _ => s2 rfl) (aJ.yy s3 callNe_ok callO_ok) s4 s5
 have hH : @wJ (jQ Z.P Z.w a b (exF k ex) nn (pkF k ex)) Z.P Z.w gF Z.K gT (callH' (kdOf (patF k ex))) := or_hook (made_hook wordsF) (or_hook (worth_hook wordsF) (or_hook (eval_hook wordsF) (or_hook (textS_hook wordsF) (textN_hook wordsF))))
 refine seg_go (τ := jQ Z.P Z.w a b (exF k ex) nn (pkF k ex)) (τ' := jQ Z.P Z.w a b ex0 nn pk) (g := gF) (g' := gL noP) (N := 69) (C := cutF nn) hH I S₁ e (evF_at hc) osG_ns (hZ ?_) (fun σ'' Y _ => ovNodes_ok) rfl (fun B hB => aJ.yy (@aJ.keeps (jQ Z.P Z.w a b (exF k ex) nn (pkF k ex)) _ _ _ _ _ cx hB) (by intro t x h; injection h) (lawO_ok (by intro t x h; injection h) aZ.h21 aZ.h22)) fun Y s' I' S' e' => q s' ⟨aZ, Y, I', S', e'⟩
 intro p hp ρ u hu
 simp only [List.mem_cons, List.not_mem_nil, or_false] at hp
 rcases hp with rfl | rfl <;> exact hu
end
open Classical in
noncomputable def bodyR (fK : Fr) (bK : List Stmt) (σK : St) (ans : Res Fl) : Rc where
 ev _ _ _ := .stop ""
 tst _ _ _ := .stop ""
 exs f b σ := if f = fK ∧ b = bK ∧ σ = σK then ans else .stop ""
 call _ _ _ := .stop ""
theorem bodyR_at {fK : Fr} {bK : List Stmt} {σK : St} {ans : Res Fl} : (bodyR fK bK σK ans).exs fK bK σK = ans := if_pos ⟨rfl, rfl, rfl⟩
section
variable {P : Program} {w : World} {g : Cx} {K : Frag} {T : List Addr} {n : Nat} {fK : Fr} {bK : List Stmt} {σK : St} {ans : Res Fl}
theorem snd_body [Tau] (h : ∀ {X : Wl} {s : Shared} {A : Around} {l : List Env} {env : Env} {Q : Flow → Shared → Prop} {E : Value → Shared → Prop}, Sit P w g K T n l A X σK s → bQ l X fK env → OK P w g l X RFl Q E ans → wpAny (model P w) A (execs bK env) Q E s) :
  Snd P w g K T n (bodyR fK bK σK ans) where
 ev := fun _ _ H => H.elim
 tst := fun _ _ H => H.elim
 exs := fun {f b σ X s A l env Q E} S e H => by
  unfold bodyR at H
  dsimp only at H
  split at H
  ·rename_i hc
   revert hc; refine xppp fun q1 q2 q3 => ?_; subst q1; subst q2; subst q3
   exact h S e H
  ·exact H.elim
 call := fun _ _ _ H => H.elim
theorem call_body [Tau] {l : List Env} {A : Around} {X : Wl} {σ σ' : St} {s : Shared} {fv v : V} {vs : List V} {u : Value} {us : List Value} {Q : Value → Shared → Prop} {E : Value → Shared → Prop}
  (hc : ∀ r : Rc, call1 g r fv vs σ = body1 r fK (.stmts bK) σK) (hb : ∀ {X : Wl} {s : Shared} {A : Around} {l : List Env} {env : Env} {Q : Flow → Shared → Prop} {E : Value → Shared → Prop}, Sit P w g K T n l A X σK s → bQ l X fK env → OK P w g l X RFl Q E (.ok (.ret v) σ') → wpAny (model P w) A (execs bK env) Q E s)
  (S : Sit P w g K T (n + 1) l A X σ s) (hf : VR X.ρ fv u) (hv : cQ X.ρ vs us) (H : ∀ Y s' u', X.Le Y → Rel P w Y σ' s' → VR Y.ρ v u' → Q u' s') : wpAny (model P w) A (PySem.call u us) Q E s := by
 refine call_ok (snd_body (ans := .ok (.ret v) σ') hb) S hf hv ?_
 rw [hc]
 unfold body1
 dsimp only
 rw [bodyR_at]
 exact H
end
noncomputable def osE : List O := tabs5 ++ [ns9 .any .any, .cell (some .any), .cell (some .any), .cell (some .any), .cell (some .any), .cell (some .any)]
noncomputable def cutEnd : Cut := ⟨[sOf "script", sOf "word", sOf "some", sOf "rows", sOf "place", sOf "node", sOf "words", sOf "name", sOf "held"], [], fun _ => [6, 7, 8, 9, 10], tmOf [], fun _ => []⟩
noncomputable def LawEnd (Z : Fixed) (s' : Shared) : Prop := ∀ τ' : Tau, ∃ X, LawI Z.X₀ X ∧ X.ρ.length = 11 ∧ @Rel τ' Z.P Z.w X (oS osE) s'
noncomputable def LastOk : Prop := ∀ (Z : Fixed) (a b : Int) (ex : List Nat → V) (nn : Nat) (pk : List Nat → List O) (m r : Nat) (s : Shared) (Q : Flow → Shared → Prop) (E : Value → Shared → Prop), m < 7 → r < 3 → ExI m r ex → LawS Z a b ex nn pk (osI m r) s →
 (∀ s', LawEnd Z s' → Q (.ret (.bool true)) s') → wpAny (model Z.P Z.w) Z.A (execs (part 21 22) Z.env) Q E s
theorem lawB_eq : lawB = part 0 10 ++ (part 10 11 ++ (part 11 15 ++ (part 15 16 ++ (part 16 18 ++ (part 18 19 ++ (part 19 20 ++ (part 20 21 ++ part 21 22))))))) := by kernel_rfl
theorem law_body {Z : Fixed} {xs : List Int} {s : Shared} {Q : Flow → Shared → Prop} {E : Value → Shared → Prop} (hI : LastOk) (hl : xs.length ≤ 63) (L : LawP Z xs os0 s) (q : ∀ s', LawEnd Z s' → Q (.ret (.bool true)) s') : wpAny (model Z.P Z.w) Z.A (execs lawB Z.env) Q E s := by
 rw [lawB_eq]
 refine law_A L fun s L => ?_
 refine law_P (nn := (dig (poolA xs) (poolB (xs.getD 0 0)) [4]).toNat + 3) (pk := fun _ => []) hl rfl L fun s L => ?_
 refine law_B rfl L fun a' b' ex' n s h3 h6 hD L => ?_
 refine law_D hD L fun a' b' s L => ?_
 refine law_E L fun a' b' ex' k s hk hF L => ?_
 refine law_F hk hF L fun s L => ?_
 refine law_G h3 h6 L fun a' b' ex' m s hm he L => ?_
 refine law_H hm he L fun a' b' ex' r s hr hX L => ?_
 exact hI _ _ _ _ _ _ m r s Q E hm hr hX L q
noncomputable def osS : List O := [.tab [], .tab [], .tab [], .tab [], .tab []]
theorem law_call1 (n : Nat) (c : Bool) : ∀ r : Rc, call1 (gP n c) r (.old gLaw) [.old dJ] (oS osS) = body1 r f0 (.stmts lawB) (oS os0) := by intro r; kernel_rfl
theorem os0_ns {k : Nat} {m : List (Str × V)} (h : (oS os0).get k = some (.ns m)) : k = 5 := by
 rw [nQ (os := os0) (nL rfl)] at h
 match k with
 | 5 => rfl
 | 0 | 1 | 2 | 3 | 4 | 6 | 7 | 8 | 9 | 10 => injection h with q1; injection q1
 | k + 11 => injection h
theorem osE_ns : ∃ m, (oS osE).get 5 = some (.ns m) := ⟨_, (nQ (os := osE) (nL rfl) 5).trans rfl⟩
theorem law_enter {P : Program} {w : World} {K : Frag} {l : List Env} {A : Around} {X : Wl} {s : Shared} {xs : List Int} {Q : Value → Shared → Prop} {E : Value → Shared → Prop} (hI : LastOk) (hl : xs.length ≤ 63) (S : @Sit (bJ xs) P w (gP xs.length (big xs)) K gT 71 l A X (oS osS) s)
  (H : ∀ Y s', X.Le Y → @Rel (bJ xs) P w Y (oS osE) s' → Q (.bool true) s') : wpAny (model P w) A (PySem.call (.ref gLaw) [.ref dJ]) Q E s := by
 refine @call_body P w (gP xs.length (big xs)) K gT 70 f0 lawB (oS os0) (bJ xs) l A X (oS osS) (oS osE) s (.old gLaw) (.bool true) [.old dJ] (.ref gLaw) [.ref dJ] Q E (law_call1 _ _) ?_ S rfl ⟨rfl, trivial⟩ fun Y s' u' hY hR hu => ?_
 ·intro X s A l env Q E S e H
  have hfr5 : ∀ k ∈ X.fr, k = 5 := fun k hk => by
   refine xvp (fun m hm => ?_) (@Rel.frs (bJ xs) _ _ _ _ _ (@Sit.rel (bJ xs) _ _ _ _ _ _ _ _ _ _ _ S) k hk)
   exact os0_ns hm
  have hlen : X.ρ.length = 11 := (@Rel.len (bJ xs) _ _ _ _ _ (@Sit.rel (bJ xs) _ _ _ _ _ _ _ _ _ _ _ S)).trans (sQ (os := os0) (nL rfl))
  have L : LawP ⟨P, w, K, l, A, X.refr [5], env⟩ xs os0 s := by
   obtain ⟨s1, s2, s3, s4, s5⟩ := S
   refine ⟨X.refr [5], ⟨fun _ _ h => h, rfl, rfl, rfl, fun _ _ => rfl, by show 11 ≤ X.ρ.length; omega⟩, @Sit.mk (bJ xs) _ _ _ _ _ _ _ _ _ _ _ s1 (fun h env he => ?_) s3 s4 (@Rel.refr (bJ xs) P w X (oS os0) s [5] s5 fun k hk => ?_), ⟨e.frm, e.scope, e.kind, e.loc, e.glob, e.blt, e.cells, e.qual, e.tab⟩⟩
   ·refine xpvvppp (fun z1 L k z2 z3 z4 => ?_) (s2 h env he)
    exact ⟨z1, L, 5, z2, .head _, by rw [← hfr5 k z3]; exact z4⟩
   ·rw [List.mem_singleton.mp hk]
    exact ⟨_, (nQ (os := os0) (nL rfl) 5).trans rfl⟩
  refine law_body (Z := ⟨P, w, K, l, A, X.refr [5], env⟩) hI hl L fun s' hend => ?_
  refine xvppp (fun X2 I2 l2 R2 => ?_) (hend (bJ xs))
  have hρ : X2.ρ = X.ρ := List.ext_getElem? fun i => by
   by_cases hi : i < 11
   ·exact I2.r i hi
   ·rw [List.getElem?_eq_none_iff.mpr (by omega), List.getElem?_eq_none_iff.mpr (by omega)]
  refine H (X2.refr X.fr) s' (.ret (.bool true)) ⟨I2.b, ?_, rfl, I2.g, I2.o⟩ (@Rel.refr (bJ xs) P w X2 (oS osE) s' X.fr R2 fun k hk => ?_) ⟨_, rfl, rfl⟩
  ·show X.ρ <+: X2.ρ
   rw [hρ]
   exact List.prefix_rfl
  ·rw [hfr5 k hk]; exact osE_ns
 ·have hu : u' = Value.bool true := hu
  subst hu
  exact H Y s' hY hR
end Mine
end
section
open PySem PySem.W PySem.W.X PySem.Calls PyProof.Rows PySem.SeqAt
namespace Mine
noncomputable def dLaw : DefRec := match defOf qv rw0.name with | some x => x.1 | none => ⟨Str.empty, ⟨[], [], none, [], [], none, []⟩, [], default, default⟩
noncomputable abbrev WalkL {α : Type} (Yf : Shared → α) (Ya : World → α) : Prop := WalkX qv looseV (fun _ _ => True) Yf Ya rw0.row.toRowW dLaw [] fun f vs => PySem.call f vs
theorem dLaw_name : dLaw.name = sOf "law" := by kernel_rfl
theorem law_glob : look gGl (sOf "law") = some (.old 1304) := by kernel_rfl
theorem toksP_all {zs : List Int} (vs : List Value) (ns : List Int) (k : Nat) (h : IntsAre vs ns) (hz : ∀ i, i < ns.length → zs.getD (k + i) 0 = ns.getD i 0) : @cQ (bJ zs) [] ((List.range' k ns.length).map fun i => V.sym [0, i]) vs := by
 induction h generalizing k with
 | nil => trivial
 | cons n t h ih =>
  refine ⟨?_, ih (k + 1) fun i hi => ?_⟩
  ·have := hz 0 (Nat.succ_pos _)
   rw [Nat.add_zero] at this
   show ScR (V.int (zs.getD k 0)) _
   rw [this]
   exact ⟨t, rfl⟩
  ·rw [Nat.add_assoc, Nat.add_comm 1 i]
   exact hz (i + 1) (Nat.succ_lt_succ hi)
theorem tabs_nodup {i j : Nat} {a : Addr} (h1 : gT[i]? = some a) (h2 : gT[j]? = some a) : i = j := nodupN_ok (l := gT) rfl h1 h2
theorem osS_tab {i : Nat} {o : O} (h : osS[i]? = some o) : o = .tab [] ∧ i < 5 := by
 match i with
 | 0 | 1 | 2 | 3 | 4 => injection h with q1; subst q1; exact ⟨rfl, by decide⟩
 | i + 5 => injection h
theorem tab_new {P : Program} {w : World} {τ : Tau} {X : Wl} : @pQ τ P w X ⟨.none, none, .fields #[], #[]⟩ (.tab []) := ⟨#[], rfl, ⟨trivial, fun p => rfl⟩⟩
set_option tactic.hygienic true in
theorem gTabs_code {τ : Tau} {g : Cx} {K : Frag} {B h : Heap} (c : @aJ τ g K gT B) (ho : ∀ a o, lk gOlds a = some o → lk g.olds a = some o) (hB : ∀ b o, B.get? b = some o → h.get? b = some o) : ∀ P ∈ gT, isCodeTable h P := by
 have key : ∀ (a k : Nat) ps b sc q ds, lk gOlds a = some (.fn ps b sc q ds (some k)) → ∀ P, gT[k]? = some P → isCodeTable h P := fun a k ps b sc q ds e P hP => by
  obtain ⟨od, fd, sl, _, _, _, _, _, _, _, _, _, _, _, _, h13⟩ := @aJ.olds τ _ _ _ _ c a _ (ho a _ e)
  refine xvvdpvvvvvvvvvppppd (fun cc P' e2 o vs _ _ _ _ _ _ _ f1 f2 f3 f4 => ?_) (h13 k rfl)
  rw [hP] at e2; injection e2 with q1; subst q1
  exact ⟨cc, o, vs, hB _ _ f1, f2, f3, f4⟩
 have at' : ∀ (a : Nat) (k : Nat), (match lk gOlds a with | some (.fn _ _ _ _ _ (some j)) => Nat.beq j k | _ => false) = true → ∀ P, gT[k]? = some P → isCodeTable h P := fun a k e P hP => by
  split at e
  ·rename_i ps b sc q ds j e'
   have := nE e
   subst this
   exact key a j ps b sc q ds e' P hP
  ·injection e
 intro P hP
 refine xvp (fun k hk => ?_) (List.getElem?_of_mem hP)
 match k with
 | 0 => exact at' 1284 0 (by kernel_rfl) P hk
 | 1 => exact at' 1289 1 (by kernel_rfl) P hk
 | 2 => exact at' 1299 2 (by kernel_rfl) P hk
 | 3 => exact at' 934 3 (by kernel_rfl) P hk
 | 4 => exact at' 1256 4 (by kernel_rfl) P hk
 | k + 5 => injection hk
theorem osE_tab {i : Nat} (hi : i < 5) : ∃ made, osE[i]? = some (.tab made) := by
 match i, hi with
 | 0, _ | 1, _ | 2, _ | 3, _ | 4, _ => exact ⟨_, rfl⟩
set_option tactic.hygienic true in
theorem walk (hI : LastOk) : WalkL ctxObs ctxVal := by
 intro w s₀ s₁ mg mb G y fa o pm cd doc dV kV ho hd hcd hD hmg hg args vals as L hpre hlay hrd hwl hlo
 wrow_args hpre hlay hrd hwl hlo
 rename_i xs hs0 hl0 hL1 hr1 hl2 as1 as2 l us as3 hL ra w1 r0 hIA hr' hc1 hc2
 have hlen : xs.length ≤ 63 := by omega
 letI iτ : Tau := bJ xs
 have y1 : ctxB s₀ = true := congrArg (fun z => z.1) y
 have y2 : fnObs s₀ = fnVal := congrArg (fun z => z.2.1) y
 have y3 : s₀.heap.objs.size = 1305 := congrArg (fun z => z.2.2.1) y
 have F : gZ s₀ s₁.heap := gZ.of L.keeps y1 y2
 refine xpp (fun hat hsz => ?_) (script_at L)
 rw [y3] at hat
 subst hat
 have hobj := script_obj L hL
 have hu : @cQ (bJ xs) [] (toksP xs.length) us.toArray.toList := by
  unfold toksP
  rw [List.range_eq_range', List.toList_toArray]
  exact toksP_all us xs 0 hIA fun i hi => by rw [Nat.zero_add]
 have cx : @aJ (bJ xs) (gP xs.length (big xs)) (iJ s₀.heap gAs) gT (hideAll s₁.heap gT) :=
  @ctx_of (bJ xs) s₀ s₁.heap mg mb F (toksP xs.length) false noNe (poolO (big xs)) (by intro t x h; injection h) poolO_ok G.T.g G.T.b G.T.nolimit G.T.bmain us.toArray 0 hobj hu
 have hfa : fa = 1304 := by
  refine oQ (fun mg' mb' n1 n2 n3 => ?_) (cx.ns)
  have n1' : s₁.heap.Ns mainGlobals mg' := n1.keeps fun b o e => of_hideAll _ e
  have hmm : mg' = mg := n1'.eq_nsMap.trans G.T.g.eq_nsMap.symm
  refine xdp (fun z => ?_) (n3 _ _ law_glob)
  rw [dLaw_name] at hmg
  rw [hmm, hmg] at z
  revert z; refine orE (aQ fun u e1 e2 => ?_) (xpd fun e1 => ?_)
  ·injection e1 with q1; subst q1
   have e2 : Value.ref fa = .ref 1304 := e2
   injection e2
  ·injection e1
 subst hfa
 have R : @Rel (bJ xs) rw0.row.prog w (mQ s₁ gT gT) (oS osS) s₁ := by
  refine small_rel rfl (by decide) (fun i o e _ => ?_) (fun i o a _ _ ha => List.mem_of_getElem? ha) (fun i j o o' a _ _ _ _ ha ha' => tabs_nodup ha ha') (fun i o a e _ => ?_)
  ·refine xpp (fun q1 hi => ?_) (osS_tab e); subst q1
   have hP : gT[i]? = some (gT[i]'hi) := List.getElem?_eq_getElem hi
   exact ⟨_, _, hP, F.keep _ _ (F.tabs _ (List.mem_of_getElem? hP)), tab_new⟩
  ·cases (osS_tab e).1
 have S : @Sit (bJ xs) rw0.row.prog w (gP xs.length (big xs)) (iJ s₀.heap gAs) gT 71 [] callerA (mQ s₁ gT gT) (oS osS) s₁ :=
  @Sit.mk (bJ xs) _ _ _ _ _ _ _ _ _ _ _ ⟨rfl, rfl, by show 1 + claimMargin + 3 * 71 ≤ 999; decide, by show 4 + 10 * 71 ≤ 9000; decide⟩ (fun _ env he => by cases he) cx List.prefix_rfl R
 refine law_enter hI hlen S fun Y s' hY R' => ?_
 have hgens : s'.gens = #[] := ((@Rel.gens (bJ xs) _ _ _ _ _ R').trans hY.g).trans hg
 have hos : s'.os = s₁.os := (@Rel.os (bJ xs) _ _ _ _ _ R').trans hY.o
 have hkeep : ∀ b o, (hideAll s₁.heap gT).get? b = some o → s'.heap.get? b = some o := fun b o e => @Rel.keep (bJ xs) _ _ _ _ _ R' b o (hY.b b o e)
 have htab : ∀ b ∈ gT, ∃ ps, s'.heap.get? b = some (tabObj ps) := fun b hb => by
  refine xvp (fun i hi => ?_) (List.getElem?_of_mem hb)
  have hlt : i < 5 := (List.getElem?_eq_some_iff.mp hi).1
  refine xvp (fun made hm => ?_) (osE_tab hlt)
  have hge : (oS osE).get i = some (.tab made) := (nQ (os := osE) (nL rfl) i).trans hm
  refine xvpvr0d (fun ps h1 => ?_) (@Rel.at (bJ xs) _ _ _ _ _ R' i _ hge b (pG hY.r hi) (fun h => by injection h))
  exact ⟨ps, h1⟩
 refine ⟨.inl ⟨.bool true, .bool true, [], rfl, raisesW_false (by intro ct h; cases h), .bool true, ?_, fun _ => ⟨List.nodup_nil, by (intros; contradiction)⟩⟩, ⟨fun b o e => ?_, fun b o e => ?_⟩, hos, .of_eq hgens⟩
 ·kernel_rfl
 ·by_cases hb : b ∈ gT
  ·refine xvp (fun ps hps => ?_) (htab b hb)
   have h0 := F.keep _ _ (F.tabs b hb)
   rw [e] at h0
   injection h0 with q1; subst q1
   refine .inr (.inl ⟨gTabs_code cx (fun a o e => lk_left' e) (fun b o e => of_hideAll _ e) b hb, rfl, #[], ps, rfl, ?_⟩)
   rw [Array.empty_append]
   exact hps
  ·exact .inl (hkeep b o (hideAll_get _ e hb))
 ·by_cases hb : b ∈ gT
  ·refine xvp (fun ps hps => ?_) (htab b hb)
   exact ⟨_, hps⟩
  ·exact ⟨o, hkeep b o (hideAll_get _ e hb)⟩
end Mine
end
section
open PySem PySem.W PySem.Calls PyProof.Rows PySem.SeqAt
namespace Mine
structure Grow (X₀ X : Wl) : Prop where
 b : X₀.B.StaysIn X.B
 g : X.gens = X₀.gens
 o : X.os = X₀.os
theorem Grow.trans_le {X₀ X Y : Wl} (h : Grow X₀ X) (k : X.Le Y) : Grow X₀ Y := ⟨fun b o e => k.b b o (h.b b o e), k.g.trans h.g, k.o.trans h.o⟩
theorem Grow.gc {X₀ X : Wl} {G : Gc} {fr : List Nat} (h : Grow X₀ X) : Grow X₀ (X.gc G fr) := ⟨h.b, h.g, h.o⟩
structure Stage (P : Program) (w : World) (g : Cx) (K : Frag) (n : Nat) (l : List Env) (A : Around) (X₀ : Wl) (env : Env) (f : Fr) (c : Nat) (a : Addr) (τ : Tau) (σ : St) (s : Shared) : Prop where
 st : ∃ X, Grow X₀ X ∧ @Sit τ P w g K gT n l A X σ s ∧ bQ l X f env ∧ X.ρ[c]? = some a
section
variable {P : Program} {w : World} {g : Cx} {K : Frag} {T : List Addr} {n : Nat} {l : List Env} {A : Around} {X X₀ : Wl} {σ σ₁ σ₂ σ₃ : St} {env : Env} {f : Fr} {c : Nat} {a : Addr} {s : Shared} {t : PySem.Expr} {b : List Stmt}
theorem turn_end [Tau] (S : Sit P w g K T n l A X σ s) (ha : X.ρ[c]? = some a) (hn : fZ g t σ c = .ok none σ₁) {Q : Option Value → Shared → Prop} {E : Value → Shared → Prop} (q : ∀ s', Rel P w X σ₁ s' → Q none s') : wpAny (model P w) A (pyNext (.ref a)) Q E s :=
 next_ok S ha hn (fun _ s' hr => q s' hr) fun x h1 => by injection h1
theorem turn_go [Tau] (S : Sit P w g K T n l A X σ s) (e : bQ l X f env) (ha : X.ρ[c]? = some a) {x : V} (hn : fZ g t σ c = .ok (some x) σ₁) (hb : bindT g f t x σ₁ = some σ₂) {R : Result → Shared → Prop} {I : Nat → Shared → Prop} {k : Nat} {E : Value → Shared → Prop}
  (q : ∀ Y s₃, X.Le Y → Sit P w g K T n l A Y σ₂ s₃ → bQ l Y f env → wpAny (model P w) A (execs b env) (fun f s₃ => match f with
      | .next | .cont => ∃ m, m < k ∧ I m s₃
      | .brk => R (.ok .next) s₃
      | .ret v => R (.ok (.ret v)) s₃) E s₃) : wpAny (model P w) A (pyNext (.ref a)) (fun r s₁ => match r with
   | none => wpAny (model P w) A (execs [] env) (fun f s₃ => R (.ok f) s₃) E s₁
   | some v => wpAny (model P w) A (letOwnedTupleGo t (.ref a) v) (fun _ s₁' =>
     wpAny (model P w) A (assign t env v) (fun _ s₂ => wpAny (model P w) A (execs b env) (fun f s₃ => match f with
      | .next | .cont => ∃ m, m < k ∧ I m s₃
      | .brk => R (.ok .next) s₃
      | .ret v => R (.ok (.ret v)) s₃) E s₂) E s₁') E s₁) E s := by
 refine next_ok S ha hn (fun h0 => by injection h0) fun x' h1 s₁ u hgo => ?_
 injection h1 with q1; subst q1
 refine hgo _ _ fun Y s₂ hy hr hu => ?_
 refine bindT_ok (S.next hy hr) (e.mono hy) hu hb fun s₃ hr₃ => ?_
 exact q Y s₃ hy ((S.next hy hr).rel' hr₃) (e.mono hy)
end
section
variable {P : Program} {w : World} {g : Cx} {K : Frag} {n : Nat} {l : List Env} {A : Around} {X₀ : Wl} {env : Env} {f : Fr} {c : Nat} {a : Addr} {s : Shared} {t : PySem.Expr} {b : List Stmt}
structure Round (P : Program) (w : World) (g : Cx) (K : Frag) (n : Nat) (f : Fr) (t : PySem.Expr) (b : List Stmt) (c : Nat) (τ τ' : Tau) (σ σ' : St) : Prop where
 go : ∃ (H : Hook) (x : V) (σ₁ σ₂ σ₂' σ₃ : St) (G₁ G : Gc) (τ₁ : Tau), @wJ τ₁ P w g K gT H ∧ fZ g t σ c = .ok (some x) σ₁ ∧ bindT g f t x σ₁ = some σ₂ ∧ ((σ₂' = σ₂ ∧ τ₁ = τ) ∨ (G₁.st σ₂ = some σ₂' ∧ TmOk τ τ₁ G₁.tm ∧ (∀ X : Wl, OvOk P w τ τ₁ X σ₂ G₁.ov) ∧ G₁.e[c]? = some c ∧ G₁.fr f = some f ∧ preN 0 (G₁.e.take 5) = true ∧ 5 ≤ G₁.e.length)) ∧
  (rcsH g H n).exs f b σ₂' = .ok .next σ₃ ∧ G.st σ₃ = some σ' ∧ TmOk τ₁ τ' G.tm ∧ (∀ X : Wl, OvOk P w τ₁ τ' X σ₃ G.ov) ∧ G.e[c]? = some c ∧ G.fr f = some f ∧ preN 0 (G.e.take 5) = true ∧ 5 ≤ G.e.length
theorem loop_rows {R : Nat} {τs : Nat → Tau} {σs : Nat → St} (hq : g.quiet = true) (hc : ∀ (τ τ' : Tau) (B : Heap), @aJ τ g K gT B → @aJ τ' g K gT B) (rounds : ∀ i, i < R → Round P w g K n f t b c (τs i) (τs (i + 1)) (σs i) (σs (i + 1)))
  {σE : St} (hend : fZ g t (σs R) c = .ok none σE) {Q : Result → Shared → Prop} (q : ∀ X s', Grow X₀ X → @Sit (τs R) P w g K gT n l A X σE s' → bQ l X f env → Q (.ok .next) s')
  (h0 : Stage P w g K n l A X₀ env f c a (τs 0) (σs 0) s) : codeAny (model P w) A (.forLoop t (.ref a) b [] env) Q s := by
 refine codeAny_forLoop_any (fun k s => ∃ i, i + k = R ∧ Stage P w g K n l A X₀ env f c a (τs i) (σs i) s) (fun k s hI => ?_) R ⟨0, by omega, h0⟩
 revert hI; refine aQ fun i hi q1 => ?_; obtain ⟨X, J, S, e, ha⟩ := q1
 letI iτ : Tau := τs i
 cases k with
 | zero =>
  have : i = R := by omega
  subst this
  exact @turn_end P w g K gT n l A X (σs i) σE c a s t (τs i) S ha hend _ _ fun s' hr => wpAny_execs_nil (q X s' J (@Sit.next (τs i) P w g K gT n l A X X (σs i) σE s s' S (Wl.Le.refl X) hr) e)
 | succ k =>
  refine xvvvvvvvvvpppppppppppp (fun H x σ₁ σ₂ σ₂' σ₃ G₁ G τ₁ hH h1 h2 hG h3 h4 h5 h6 h7 h8 h9 h10 => ?_) ((rounds i (by omega)).go)
  refine @turn_go P w g K gT n l A X (σs i) σ₁ σ₂ env f c a s t b (τs i) S e ha x h1 h2 Q _ _ _ fun Y s₃ hy S₃ e₃ => ?_
  obtain ⟨Y', J', S₄, e₄, ha'⟩ : ∃ Y', Grow X₀ Y' ∧ @Sit τ₁ P w g K gT n l A Y' σ₂' s₃ ∧ bQ l Y' f env ∧ Y'.ρ[c]? = some a := by
   rcases hG with ⟨rfl, rfl⟩ | ⟨k4, k5, k6, k7, k8, k9, k10⟩
   ·exact ⟨Y, J.trans_le hy, S₃, e₃, pG hy.r ha⟩
   ·have kX : ∀ m ∈ G₁.e, m < Y.ρ.length := fun m hm => by rw [@Rel.len (τs i) _ _ _ _ _ (@Sit.rel (τs i) _ _ _ _ _ _ _ _ _ _ _ S₃)]; exact (Gc.st_some k4).2.1 m hm
    exact ⟨Y.gc G₁ [], (J.trans_le hy).gc, Sit.gc (fr := []) S₃ k4 k5 (k6 Y) (by intros; contradiction) k9 k10 (fun z => by rw [hq] at z; injection z) (hc _ _ _ (@Sit.cx (τs i) _ _ _ _ _ _ _ _ _ _ _ S₃)), bQ.gc kX e₃ k8, by rw [Wl.gc_get kX k7]; exact pG hy.r ha⟩
  refine @Snd.exs τ₁ P w g K gT n (rcsH g H n) (@sndH τ₁ P w g K gT H hH n) f b σ₂' Y' s₃ A l env _ _ S₄ e₄ ?_
  rw [h3]
  intro Z s₄ u hz hr hu
  cases hu
  have S₅ := @Sit.next τ₁ P w g K gT n l A Y' Z σ₂' σ₃ s₃ s₄ S₄ hz hr
  have hX : ∀ m ∈ G.e, m < Z.ρ.length := fun m hm => by rw [@Rel.len τ₁ _ _ _ _ _ hr]; exact (Gc.st_some h4).2.1 m hm
  have S₆ : @Sit (τs (i + 1)) P w g K gT n l A (Z.gc G []) (σs (i + 1)) s₄ := Sit.gc (fr := []) S₅ h4 h5 (h6 Z) (by intros; contradiction) h9 h10 (fun z => by rw [hq] at z; injection z) (hc _ _ _ (@Sit.cx τ₁ _ _ _ _ _ _ _ _ _ _ _ S₅))
  refine ⟨k, Nat.lt_succ_self k, i + 1, by omega, ⟨Z.gc G [], (J'.trans_le hz).gc, S₆, bQ.gc hX (e₄.mono hz) h8, ?_⟩⟩
  rw [Wl.gc_get hX h7]
  exact pG hz.r ha'
end
section
variable {P : Program} {w : World} {g : Cx} {K : Frag} {n : Nat} {l : List Env} {A : Around} {X : Wl} {σ σ₁ σ₂ σ₃ : St} {env : Env} {f : Fr} {c : Nat} {s : Shared} {t it : PySem.Expr} {b pre : List Stmt} {iv : V}
theorem pre_loop [Tau] {pos : Pos} {post : List Stmt} (S : Sit P w g K gT (n + 1) l A X σ s) (e : bQ l X f env) (h1 : (rcs g (n + 1)).exs f pre σ = .ok .next σ₁) (hs : isSetE it = false) (h2 : (rcs g n).ev f it σ₁ = .ok iv σ₂) (h3 : iterOf g σ₂ iv = .ok c σ₃)
  {Q : Flow → Shared → Prop} {E : Value → Shared → Prop} (q : ∀ Y s' a, X.Le Y → Rel P w Y σ₃ s' → Y.ρ[c]? = some a → codeAny (model P w) A (.forLoop t (.ref a) b [] env) (fun r s' => match r with | .ok f => (match f with | .next => wpAny (model P w) A (execs post env) Q E s' | fl => Q fl s') | .error e => cameBackBy (model P w) A env E e s') s') :
  wpAny (model P w) A (execs (pre ++ (.For t it b [] pos :: post)) env) Q E s := by
 refine exs_then (rest := .For t it b [] pos :: post) (fun S e H => ex_ok (snd P w g K gT n) S e H) pre S e ?_
 have h1' : exs1 g (rcs g n) f pre σ = .ok .next σ₁ := (exsN_eq g (rcs g n) f pre σ).symm.trans h1
 rw [h1']
 intro Y s₁ u hy hr hu
 cases hu
 show wpAny (model P w) A (execs (.For t it b [] pos :: post) env) Q E s₁
 have S₁ := S.next hy hr
 refine wpAny_execs_cons (wpAny_For ((snd P w g K gT n).ev S₁.less (e.mono hy) ?_) (noSet_fold hs))
 rw [h2]
 intro Z s₂ u₂ hz hr₂ hu₂
 have S₂ := S₁.less.next hz hr₂
 refine iter_ok S₂ hu₂ (F := g) (l := l) ?_
 rw [h3]
 intro W s₃ u₃ hw hr₃ hu₃
 revert hu₃; refine aQ fun a ha q1 => ?_; subst q1
 exact q W s₃ a ((hy.trans hz).trans hw) hr₃ ha
end
section
variable {P : Program} {w : World} {g : Cx} {K : Frag} {n : Nat} {l : List Env} {A : Around} {X : Wl} {σ σ₁ σ₂ σ₃ σE σF : St} {env : Env} {f : Fr} {c : Nat} {s : Shared} {t it : PySem.Expr} {b pre post : List Stmt} {iv v : V} {τ : Tau}
theorem body_loop {f' : Fr} {c' : Nat} {pos : Pos} {R : Nat} {τs : Nat → Tau} {σs : Nat → St} {G : Gc} (hq : g.quiet = true) (hc : ∀ (τ τ' : Tau) (B : Heap), @aJ τ g K gT B → @aJ τ' g K gT B) (S : @Sit τ P w g K gT (n + 1) l A X σ s) (e : bQ l X f env)
  (h1 : (rcs g (n + 1)).exs f pre σ = .ok .next σ₁) (hs : isSetE it = false) (h2 : (rcs g n).ev f it σ₁ = .ok iv σ₂) (h3 : iterOf g σ₂ iv = .ok c σ₃) (h4 : G.st σ₃ = some (σs 0)) (h5 : TmOk τ (τs 0) G.tm) (h6 : ∀ X : Wl, OvOk P w τ (τs 0) X σ₃ G.ov)
  (h7 : G.e[c']? = some c) (h8 : G.fr f = some f') (h9 : preN 0 (G.e.take 5) = true) (h10 : 5 ≤ G.e.length) (rounds : ∀ i, i < R → Round P w g K n f' t b c' (τs i) (τs (i + 1)) (σs i) (σs (i + 1))) (hend : fZ g t (σs R) c' = .ok none σE)
  (h11 : (rcs g n).exs f' post σE = .ok (.ret v) σF) {Q : Flow → Shared → Prop} {E : Value → Shared → Prop} (q : ∀ X' s' u, Grow X X' → @Rel (τs R) P w X' σF s' → bQ l X' f' env → @VR (τs R) X'.ρ v u → Q (.ret u) s') :
  wpAny (model P w) A (execs (pre ++ (.For t it b [] pos :: post)) env) Q E s := by
 letI iτ : Tau := τ
 refine pre_loop S e h1 hs h2 h3 fun Y s' a hy hr ha => ?_
 have S₁ := S.less.next hy hr
 have hX : ∀ m ∈ G.e, m < Y.ρ.length := fun m hm => by rw [@Rel.len τ _ _ _ _ _ hr]; exact (Gc.st_some h4).2.1 m hm
 have S₂ : @Sit (τs 0) P w g K gT n l A (Y.gc G []) (σs 0) s' := Sit.gc (fr := []) S₁ h4 h5 (h6 Y) (by intros; contradiction) h9 h10 (fun z => by rw [hq] at z; injection z) (hc _ _ _ S₁.cx)
 refine loop_rows (X₀ := X) hq hc rounds hend (fun X' s₂ J S₃ e₃ => ?_) ⟨Y.gc G [], (Grow.trans_le ⟨fun _ _ h => h, rfl, rfl⟩ hy).gc, S₂, bQ.gc hX (e.mono hy) h8, by rw [Wl.gc_get hX h7]; exact ha⟩
 refine @Snd.exs (τs R) P w g K gT n (rcs g n) (@snd (τs R) P w g K gT n) f' post σE X' s₂ A l env Q E S₃ e₃ ?_
 rw [h11]
 intro Z s₃ u hz hr₃ hu
 revert hu; refine aQ fun u' q1 hv => ?_; subst q1
 exact q Z s₃ u' (J.trans_le hz) hr₃ (e₃.mono hz) hv
end
noncomputable def lQ : List (Str × Option Nat) := [(sOf "position", none), (sOf "last", none), (sOf "v", none), (sOf "number", some 1), (sOf "number", some 2), (sOf "number", some 3), (sOf "number", some 4), (sOf "true", none), (sOf "false", none), (sOf "w", none), (sOf "", none), (sOf "x", none)]
noncomputable def keepB (κ : Str × Option Nat) (m at' : Nat) : Bool := match κ.2 with
 | some d => Nat.beq (at' + 1) d
 | none => bif eqS κ.1 (sOf "last") then Nat.beq (at' + 1) m else bif eqS κ.1 (sOf "v") then Nat.beq (at' + 1) 2 else bif eqS κ.1 (sOf "false") then false else bif eqS κ.1 (sOf "") then false else true
noncomputable def selL (κ : Str × Option Nat) (m : Nat) : List Nat := (List.range m).filter (keepB κ m)
noncomputable def fnParts (i : Nat) : Arguments × List Stmt × Scope := match defAt i none with
 | some (.FunctionDef _ ps b _ _ _ sc _ _ _) => (ps, b, sc)
 | _ => (⟨[], [], none, [], [], none, []⟩, [], default)
noncomputable def forParts : Stmt → PySem.Expr × PySem.Expr × List Stmt × Pos
 | .For t it b _ p => (t, it, b, p)
 | _ => (default, default, [], default)
noncomputable def lkB : List Stmt := (fnParts 158).2.1
noncomputable def lkFor : PySem.Expr × PySem.Expr × List Stmt × Pos := forParts (lkB.getD 1 default)
theorem lkB_eq : lkB = lkB.take 1 ++ (.For lkFor.1 lkFor.2.1 lkFor.2.2.1 [] lkFor.2.2.2 :: lkB.drop 2) := by kernel_rfl
noncomputable def lkF : Fr := ⟨8, (fnParts 158).2.2, [(sOf "left", 9)], sOf "_law_kept.<locals>.", none⟩
noncomputable def toks0 (m : Nat) : List V := (List.range m).map fun i => V.sym [0, i]
noncomputable def rowsL (r : Nat) : List V := (List.range r).map fun i => V.new (6 + i)
noncomputable def tupS (r i j : Nat) : O := bif Nat.blt j r then (bif Nat.blt j i then .tup [.any, .any] else .tup [.sym [1, j], .sym [2, j]]) else .junk
noncomputable def lkNs (i : Nat) (fl : Bool) : List (Str × V) := [(sOf "nodes", .any), (sOf "words", .any)] ++ (bif Nat.blt 0 i then [(sOf "word", .any), (sOf "number", .any), (sOf "places", .any)] else []) ++ (bif fl then [(sOf "at", .any), (sOf "value", .any), (sOf "is_so", .any)] else [])
noncomputable def lkSt (r i m : Nat) (fl : Bool) : List O := uQ ++ [.ro (.list (rowsL r)), tupS r i 0, tupS r i 1, .ns (lkNs i fl), .cell (some (.new 10)), .list (toks0 m), .iter true (.new 5) i]
noncomputable def tmK (tb : List (List Nat × V)) : V → V
 | .sym t => (match lkT tb t with | some v => v | none => .any)
 | _ => .any
noncomputable def rowToks (i r : Nat) : List (List Nat × V) := ((List.range r).filter fun j => Nat.blt i j).flatMap fun j => [([1, j], V.sym [1, j]), ([2, j], V.sym [2, j])]
noncomputable def lkNames : List Str := [sOf "nodes", sOf "words", sOf "word", sOf "number", sOf "places", sOf "at", sOf "value", sOf "is_so"]
noncomputable def lkG1 (κ : Str × Option Nat) (r i m : Nat) : Gc := ⟨[0, 1, 2, 3, 4, 5, 6, 7, 8, 9, 10, 11], tmK (((List.range m).map fun j => ([0, j], V.sym [0, j])) ++ ([([1, i], .str κ.1), ([2, i], match κ.2 with | some d => .int (d : Nat) | none => .sym [2, i])] ++ rowToks i r)), [sOf "nodes", sOf "words"], [], [], []⟩
noncomputable def numAt (l : List Nat) : Nat → List (List Nat × V) := fun k => (List.range' k l.length).zip l |>.map fun p => ([0, p.2], V.sym [0, p.1])
noncomputable def lkG2 (κ : Str × Option Nat) (r i m : Nat) (σ : St) : Gc := ⟨[0, 1, 2, 3, 4, 5, 6, 7, 8, 9] ++ inCell σ 9 ++ [11], tmK (numAt (selL κ m) 0 ++ rowToks i r), lkNames, [], [], []⟩
noncomputable def lkRound (κ : Str × Option Nat) (r i m : Nat) (fl : Bool) : Option St := match fZ gq lkFor.1 (oS (lkSt r i m fl)) 11 with
 | .ok (some x) σ₁ => (match bindT gq lkF lkFor.1 x σ₁ with
  | some σ₂ => (match (lkG1 κ r i m).st σ₂ with
   | some σ₂' => (match (rcs gq 30).exs lkF lkFor.2.2.1 σ₂' with
    | .ok .next σ₃ => (lkG2 κ r i m σ₃).st σ₃
    | _ => none)
   | none => none)
  | none => none)
 | _ => none
noncomputable def kJ : List ((Str × Option Nat) × Nat × Nat × Nat × Bool) := lQ.flatMap fun κ => (((List.range 7).flatMap fun m => [(κ, 1, 0, m, false), (κ, 2, 0, m, false), (κ, 2, 1, m, true)]) ++ [(κ, 2, 1, 0, false)])
noncomputable def evKl (c : (Str × Option Nat) × Nat × Nat × Nat × Bool) : Option St := lkRound c.1 c.2.1 c.2.2.1 c.2.2.2.1 c.2.2.2.2
noncomputable def evKr (c : (Str × Option Nat) × Nat × Nat × Nat × Bool) : Option St := some (oS (lkSt c.2.1 (c.2.2.1 + 1) (selL c.1 c.2.2.2.1).length (c.2.2.2.2 || Nat.blt 0 c.2.2.2.1)))
theorem evK1 : (kJ.take 66).map (evKl) = (kJ.take 66).map evKr := by kernel_rfl
theorem evK2 : ((kJ.drop 66).take 66).map (evKl) = ((kJ.drop 66).take 66).map evKr := by kernel_rfl
theorem evK3 : (((kJ.drop 66).drop 66).take 66).map (evKl) = (((kJ.drop 66).drop 66).take 66).map evKr := by kernel_rfl
theorem evK4 : (((kJ.drop 66).drop 66).drop 66).map (evKl) = (((kJ.drop 66).drop 66).drop 66).map evKr := by kernel_rfl
theorem evK : kJ.map (evKl) = kJ.map evKr := mapHalf 66 evK1 (mapHalf 66 evK2 (mapHalf 66 evK3 evK4))
set_option tactic.hygienic true in
theorem tmK_ok {τ τ' : Tau} {tb : List (List Nat × V)} (h : ∀ p ∈ tb, ∀ ρ u, ScR (τ.tau p.1) u → @VR τ' ρ p.2 u) : TmOk τ τ' (tmK tb) := by
 intro v ρ ρ' u hv e
 cases v with
 | sym t =>
  unfold tmK
  dsimp only
  split
  ·rename_i v' hl
   exact h _ (lkT_mem hl) ρ' u e
  ·exact @VR.handed τ _ _ _ e
 | bool b => exact @VR.handed τ _ _ _ e
 | int i => exact @VR.handed τ _ _ _ e
 | str s => exact @VR.handed τ _ _ _ e
 | _ => revert hv; refine orE (fun hv => ?_) (xvp fun t hv => ?_) <;> injection hv
noncomputable def rowT (nv : Nat → Int) (ks : Nat → Str) (ns : Nat → Int) : List Nat → V
 | [0, j] => .int (nv j)
 | [1, j] => .str (ks j)
 | [2, j] => .int (ns j)
 | _ => .int 0
@[reducible] noncomputable def xJ (nv : Nat → Int) (ks : Nat → Str) (ns : Nat → Int) : Tau := tauOf (rowT nv ks ns) (mono := fun _ h => h)
noncomputable def nextV (nv : Nat → Int) (l : List Nat) (j : Nat) : Int := nv (l.getD j 0)
theorem numAt_mem : ∀ (l : List Nat) (k : Nat) {p : List Nat × V}, p ∈ numAt l k → ∃ j, j < l.length ∧ p = ([0, l.getD j 0], V.sym [0, k + j])
 | [], k, p, h => by unfold numAt at h; simp at h
 | a :: l, k, p, h => by
  have e : numAt (a :: l) k = ([0, a], V.sym [0, k]) :: numAt l (k + 1) := rfl
  rw [e] at h
  rcases List.mem_cons.mp h with rfl | h
  ·exact ⟨0, by simp, rfl⟩
  ·refine aQ (fun j hj q1 => ?_) (numAt_mem l (k + 1) h); subst q1
   refine ⟨j + 1, by simpa using hj, ?_⟩
   rw [show k + 1 + j = k + (j + 1) by omega]
   rfl
set_option tactic.hygienic true in
theorem lkRound_ok {κ : Str × Option Nat} {r i m : Nat} {fl : Bool} {σ' : St} (h : lkRound κ r i m fl = some σ') : ∃ x σ₁ σ₂ σ₂' σ₃, fZ gq lkFor.1 (oS (lkSt r i m fl)) 11 = .ok (some x) σ₁ ∧ bindT gq lkF lkFor.1 x σ₁ = some σ₂ ∧ (lkG1 κ r i m).st σ₂ = some σ₂' ∧ (rcs gq 30).exs lkF lkFor.2.2.1 σ₂' = .ok .next σ₃ ∧ (lkG2 κ r i m σ₃).st σ₃ = some σ' := by
 unfold lkRound at h
 split at h
 ·rename_i x σ₁ h1
  split at h
  ·rename_i σ₂ h2
   split at h
   ·rename_i σ₂' h3
    split at h
    ·rename_i σ₃ h4
     exact ⟨x, σ₁, σ₂, σ₂', σ₃, h1, h2, h3, h4, h⟩
    ·injection h
   ·injection h
  ·injection h
 ·injection h
theorem rowToks_mem {i r : Nat} {p : List Nat × V} (h : p ∈ rowToks i r) : ∃ j, p = ([1, j], V.sym [1, j]) ∨ p = ([2, j], V.sym [2, j]) := by
 unfold rowToks at h
 refine xvdp (fun j hj => ?_) (List.mem_flatMap.mp h)
 simp only [List.mem_cons, List.not_mem_nil, or_false] at hj
 exact ⟨j, hj⟩
set_option tactic.hygienic true in
theorem lk_round {P : Program} {w : World} {K : Frag} {κ : Str × Option Nat} {r i m : Nat} {fl : Bool} {σ' : St} {nv : Nat → Int} {ks : Nat → Str} {ns : Nat → Int} (h : lkRound κ r i m fl = some σ') (hz : σ'.size = 12) (hk : ks i = κ.1) (hn : ∀ d, κ.2 = some d → ns i = (d : Nat)) :
  Round P w gq K 30 lkF lkFor.1 lkFor.2.2.1 11 (xJ nv ks ns) (xJ (nextV nv (selL κ m)) ks ns) (oS (lkSt r i m fl)) σ' := by
 refine xvvvvvppppp (fun x σ₁ σ₂ σ₂' σ₃ h1 h2 h3 h4 h5 => ?_) (lkRound_ok h)
 obtain ⟨L, hL⟩ : ∃ L, inCell σ₃ 9 = [L] := by
  have hs := (Gc.st_some h5).2.2.1
  rw [hz] at hs
  have he : (lkG2 κ r i m σ₃).e = [0, 1, 2, 3, 4, 5, 6, 7, 8, 9] ++ inCell σ₃ 9 ++ [11] := rfl
  rw [he, List.length_append, List.length_append] at hs
  have hs : 12 = 10 + (inCell σ₃ 9).length + 1 := hs
  unfold inCell at hs ⊢
  split
  ·exact ⟨_, rfl⟩
  ·rename_i hno
   split at hs
   ·rename_i h' e'; exact (hno h' e').elim
   ·simp at hs
 have he : (lkG2 κ r i m σ₃).e = [0, 1, 2, 3, 4, 5, 6, 7, 8, 9, L, 11] := by
  show [0, 1, 2, 3, 4, 5, 6, 7, 8, 9] ++ inCell σ₃ 9 ++ [11] = _
  rw [hL]; rfl
 refine ⟨noHook, x, σ₁, σ₂, σ₂', σ₃, lkG1 κ r i m, lkG2 κ r i m σ₃, xJ nv ks ns, no_hook, h1, h2, .inr ⟨h3, tmK_ok ?_, fun X => ov_nil, rfl, by kernel_rfl, rfl, by show 5 ≤ 12; decide⟩, h4, h5, tmK_ok ?_, fun X => ov_nil, ?_, ?_, ?_, ?_⟩
 ·intro p hp ρ u hu
  refine orE (fun hp => ?_) (fun hp => ?_) (List.mem_append.mp hp)
  ·refine xvdp (fun j q1 => ?_) (List.mem_map.mp hp); subst q1
   exact hu
  ·refine orE (fun hp => ?_) (fun hp => ?_) (List.mem_append.mp hp)
   ·simp only [List.mem_cons, List.not_mem_nil, or_false] at hp
    rcases hp with rfl | rfl
    ·have hu : ScR (V.str (ks i)) u := hu
     rw [hk] at hu
     exact hu
    ·have hu : ScR (V.int (ns i)) u := hu
     refine gE (κ.2) (fun hd => ?_) (fun d hd => ?_)
     ·exact hu
     ·rw [hn d hd] at hu; exact hu
   ·obtain ⟨j, rfl | rfl⟩ := rowToks_mem hp <;> exact hu
 ·intro p hp ρ u hu
  refine orE (fun hp => ?_) (fun hp => ?_) (List.mem_append.mp hp)
  ·refine aQ (fun j hj q1 => ?_) (numAt_mem _ _ hp); subst q1
   show ScR (V.int (nextV nv (selL κ m) (0 + j))) u
   rw [Nat.zero_add]
   exact hu
  ·obtain ⟨j, rfl | rfl⟩ := rowToks_mem hp <;> exact hu
 ·rw [he]; rfl
 ·have i8 : idxN (lkG2 κ r i m σ₃).e 8 = some 8 := by rw [he]; rfl
  have i9 : idxN (lkG2 κ r i m σ₃).e 9 = some 9 := by rw [he]; rfl
  have hcl : (lkG2 κ r i m σ₃).cl [(sOf "left", 9)] = some [(sOf "left", 9)] := by
   show (idxN (lkG2 κ r i m σ₃).e 9).bind _ = _
   rw [i9]
   rfl
  unfold Gc.fr
  rw [show lkF.loc = 8 from rfl, i8, show lkF.cells = [(sOf "left", 9)] from rfl, hcl]
  rfl
 ·rw [he]; rfl
 ·rw [he]; show 5 ≤ 12; decide
noncomputable def lkOs (rr m : Nat) : List O := [.ro (.list (rowsL rr)), tupS rr 0 0, tupS rr 0 1, .ro (.list (toks0 m))]
noncomputable def lkK : Fr := ⟨9, (fnParts 158).2.2, [(sOf "left", 10)], sOf "_law_kept.<locals>.", none⟩
noncomputable def lkK0 (rr m : Nat) : St := oS (uQ ++ lkOs rr m ++ [.ns [(sOf "nodes", .new 8), (sOf "words", .new 5)], .cell none])
noncomputable def lkG0 (rr m : Nat) : Gc := ⟨[0, 1, 2, 3, 4, 5, 6, 7, 9, 10, 11, 12], tmK (((List.range m).map fun j => ([0, j], V.sym [0, j])) ++ (List.range rr).flatMap fun j => [([1, j], V.sym [1, j]), ([2, j], V.sym [2, j])]), lkNames, [], [], []⟩
noncomputable def lkStart (rr m : Nat) : Option St := match (rcs gq 31).exs lkK (lkB.take 1) (lkK0 rr m) with
 | .ok .next σ₁ => (match (rcs gq 30).ev lkK lkFor.2.1 σ₁ with
  | .ok iv σ₂ => (match iterOf gq σ₂ iv with
   | .ok c σ₃ => bif Nat.beq c 12 then (lkG0 rr m).st σ₃ else none
   | _ => none)
  | _ => none)
 | _ => none
noncomputable def lkEnd (rr m : Nat) (fl : Bool) : Option (V × Option O × Option O) := match fZ gq lkFor.1 (oS (lkSt rr rr m fl)) 11 with
 | .ok none σ => takeRes10 ((rcs gq 30).exs lkF (lkB.drop 2) σ)
 | _ => none
where takeRes10 : Res Fl → Option (V × Option O × Option O)
 | .ok (.ret v) σ => some (v, σ.get 10, σ.get 8)
 | _ => none
noncomputable def casesE : List (Nat × Nat × Bool) := (List.range 3).flatMap fun rr => (List.range 7).flatMap fun m => [(rr, m, false), (rr, m, true)]
noncomputable def cases0 : List (Nat × Nat) := (List.range 3).flatMap fun rr => (List.range 7).map fun m => (rr, m)
theorem evK0 : (cases0.map fun c => lkStart c.1 c.2) = cases0.map fun c => some (oS (lkSt c.1 0 c.2 false)) := by kernel_rfl
theorem evKE : (casesE.map fun c => lkEnd c.1 c.2.1 c.2.2) = casesE.map fun c => some (.new 10, some (.list (toks0 c.2.1)), some (.ns (lkNs c.1 c.2.2))) := by kernel_rfl
theorem lk_call1 (rr m : Nat) (h : rr = 0 ∨ rr = 1 ∨ rr = 2) : ∀ r : Rc, call1 gq r (.old 1294) [.new 8, .new 5] (oS (uQ ++ lkOs rr m)) = body1 r lkK (.stmts lkB) (lkK0 rr m) := by
 intro r
 rcases h with rfl | rfl | rfl <;> kernel_rfl
section
variable (κs : Nat → Str × Option Nat) (m : Nat) (nv : Nat → Int)
noncomputable def mS : Nat → Nat
 | 0 => m
 | i + 1 => (selL (κs i) (mS i)).length
noncomputable def nvS : Nat → Nat → Int
 | 0 => nv
 | i + 1 => nextV (nvS i) (selL (κs i) (mS κs m i))
noncomputable def flS : Nat → Bool
 | 0 => false
 | i + 1 => flS i || Nat.blt 0 (mS κs m i)
noncomputable def pickS : Nat → Nat → Nat
 | 0, j => j
 | i + 1, j => pickS i ((selL (κs i) (mS κs m i)).getD j 0)
end
theorem nvS_pick {κs : Nat → Str × Option Nat} {m : Nat} {nv : Nat → Int} : ∀ i j, nvS κs m nv i j = nv (pickS κs m i j)
 | 0, _ => rfl
 | i + 1, j => by
  show nvS κs m nv i _ = _
  rw [nvS_pick i]; rfl
theorem selL_le (κ : Str × Option Nat) (m : Nat) : (selL κ m).length ≤ m := by
 unfold selL
 have := List.length_filter_le (keepB κ m) (List.range m)
 rwa [List.length_range] at this
theorem mS_le {κs : Nat → Str × Option Nat} {m : Nat} : ∀ i, mS κs m i ≤ m
 | 0 => Nat.le_refl _
 | i + 1 => Nat.le_trans (selL_le _ _) (mS_le i)
theorem evK_at {κ : Str × Option Nat} {r i m : Nat} {fl : Bool} (h : (κ, r, i, m, fl) ∈ kJ) : lkRound κ r i m fl = some (oS (lkSt r (i + 1) (selL κ m).length (fl || Nat.blt 0 m))) := by
 have h := eJ evK h
 unfold evKl evKr at h
 dsimp only at h
 exact h
theorem evK0_at {r m : Nat} (h : (r, m) ∈ cases0) : lkStart r m = some (oS (lkSt r 0 m false)) := by
 have h := eJ evK0 h
 dsimp only at h
 exact h
theorem evKE_at {r m : Nat} {fl : Bool} (h : (r, m, fl) ∈ casesE) : lkEnd r m fl = some (.new 10, some (.list (toks0 m)), some (.ns (lkNs r fl))) := by
 have h := eJ evKE h
 dsimp only at h
 exact h
theorem lkSt_size (r i m : Nat) (fl : Bool) : (oS (lkSt r i m fl)).size = 12 := sQ (os := lkSt r i m fl) (nL rfl)
theorem lk_rounds {P : Program} {w : World} {K : Frag} {κs : Nat → Str × Option Nat} {m rr : Nat} {nv : Nat → Int} {ks : Nat → Str} {ns : Nat → Int} (hr : rr < 3) (hm : m < 7) (hk : ∀ i, i < rr → κs i ∈ lQ ∧ ks i = (κs i).1 ∧ ∀ d, (κs i).2 = some d → ns i = (d : Nat)) :
  ∀ i, i < rr → Round P w gq K 30 lkF lkFor.1 lkFor.2.2.1 11 (xJ (nvS κs m nv i) ks ns) (xJ (nvS κs m nv (i + 1)) ks ns) (oS (lkSt rr i (mS κs m i) (flS κs m i))) (oS (lkSt rr (i + 1) (mS κs m (i + 1)) (flS κs m (i + 1)))) := by
 intro i hi
 refine xppp (fun k1 k2 k3 => ?_) (hk i hi)
 refine lk_round (evK_at ?_) (lkSt_size _ _ _ _) k2 k3
 refine List.mem_flatMap.mpr ⟨κs i, k1, ?_⟩
 have hmi : mS κs m i ∈ List.range 7 := List.mem_range.mpr (Nat.lt_of_le_of_lt (mS_le i) hm)
 have hcase : (rr = 1 ∧ i = 0) ∨ (rr = 2 ∧ i = 0) ∨ (rr = 2 ∧ i = 1) := by omega
 rcases hcase with ⟨rfl, rfl⟩ | ⟨rfl, rfl⟩ | ⟨rfl, rfl⟩
 ·exact List.mem_append_left _ (List.mem_flatMap.mpr ⟨_, hmi, .head _⟩)
 ·exact List.mem_append_left _ (List.mem_flatMap.mpr ⟨_, hmi, .tail _ (.head _)⟩)
 ·by_cases hz : m = 0
  ·have h0 : mS κs m 1 = 0 := by
    have := mS_le (κs := κs) (m := m) 1
    omega
   have hf : flS κs m 1 = false := by
    show (false || Nat.blt 0 (mS κs m 0)) = false
    show (false || Nat.blt 0 m) = false
    rw [hz]; rfl
   rw [h0, hf]
   exact List.mem_append_right _ (.head _)
  ·have hf : flS κs m 1 = true := by
    show (false || Nat.blt 0 m) = true
    rw [bI.mpr (by omega)]; rfl
   rw [hf]
   exact List.mem_append_left _ (List.mem_flatMap.mpr ⟨_, hmi, .tail _ (.tail _ (.head _))⟩)
set_option tactic.hygienic true in
theorem lkEnd_ok {rr m : Nat} {fl : Bool} {v : V} {o o' : Option O} (h : lkEnd rr m fl = some (v, o, o')) : ∃ σE σF, fZ gq lkFor.1 (oS (lkSt rr rr m fl)) 11 = .ok none σE ∧ (rcs gq 30).exs lkF (lkB.drop 2) σE = .ok (.ret v) σF ∧ σF.get 10 = o ∧ σF.get 8 = o' := by
 unfold lkEnd at h
 split at h
 ·rename_i σE h1
  unfold lkEnd.takeRes10 at h
  split at h
  ·rename_i v' σF h2
   injection h with q1; injection q1 with q2 q3; subst q2; injection q3 with q4 q5; subst q4; subst q5
   exact ⟨σE, σF, h1, h2, rfl, rfl⟩
  ·injection h
 ·injection h
set_option tactic.hygienic true in
theorem lkStart_ok {rr m : Nat} {σ' : St} (h : lkStart rr m = some σ') : ∃ σ₁ iv σ₂ σ₃, (rcs gq 31).exs lkK (lkB.take 1) (lkK0 rr m) = .ok .next σ₁ ∧ (rcs gq 30).ev lkK lkFor.2.1 σ₁ = .ok iv σ₂ ∧ iterOf gq σ₂ iv = .ok 12 σ₃ ∧ (lkG0 rr m).st σ₃ = some σ' := by
 unfold lkStart at h
 split at h
 ·rename_i σ₁ h1
  split at h
  ·rename_i iv σ₂ h2
   split at h
   ·rename_i c σ₃ h3
    refine bE (Nat.beq c 12) (fun hc => ?_) (fun hc => ?_)
    ·rw [hc] at h; injection h
    ·
     rw [hc] at h
     rw [nE hc] at h3
     exact ⟨σ₁, iv, σ₂, σ₃, h1, h2, h3, h⟩
   ·injection h
  ·injection h
 ·injection h
theorem gq_re {K : Frag} (τ τ' : Tau) (B : Heap) (h : @aJ τ gq K gT B) : @aJ τ' gq K gT B := aJ.yy h (by intro t x h; injection h) (by intro z v h; injection h)
theorem lkSet : isSetE lkFor.2.1 = false := by kernel_rfl
theorem lk_body {P : Program} {w : World} {K : Frag} {l : List Env} {A : Around} {X : Wl} {env : Env} {s : Shared} {κs : Nat → Str × Option Nat} {m rr : Nat} {nv : Nat → Int} {ks : Nat → Str} {ns : Nat → Int} (hr : rr < 3) (hm : m < 7) (hk : ∀ i, i < rr → κs i ∈ lQ ∧ ks i = (κs i).1 ∧ ∀ d, (κs i).2 = some d → ns i = (d : Nat))
  (S : @Sit (xJ nv ks ns) P w gq K gT 31 l A X (lkK0 rr m) s) (e : bQ l X lkK env) {Q : Flow → Shared → Prop} {E : Value → Shared → Prop}
  (q : ∀ X' s' u σF, Grow X X' → @Rel (xJ (nvS κs m nv rr) ks ns) P w X' σF s' → bQ l X' lkF env → σF.get 10 = some (.list (toks0 (mS κs m rr))) → σF.get 8 = some (.ns (lkNs rr (flS κs m rr))) → @VR (xJ (nvS κs m nv rr) ks ns) X'.ρ (.new 10) u → Q (.ret u) s') : wpAny (model P w) A (execs lkB env) Q E s := by
 refine xvvvvpppp (fun σ₁ iv σ₂ σ₃ h1 h2 h3 h4 => ?_) (lkStart_ok (evK0_at (r := rr) (m := m) (List.mem_flatMap.mpr ⟨rr, List.mem_range.mpr hr, List.mem_map.mpr ⟨m, List.mem_range.mpr hm, rfl⟩⟩)))
 have hmE : (rr, mS κs m rr, flS κs m rr) ∈ casesE := by
  refine List.mem_flatMap.mpr ⟨rr, List.mem_range.mpr hr, List.mem_flatMap.mpr ⟨mS κs m rr, List.mem_range.mpr (Nat.lt_of_le_of_lt (mS_le rr) hm), ?_⟩⟩
  cases flS κs m rr
  ·exact .head _
  ·exact .tail _ (.head _)
 refine xvvpppp (fun σE σF h5 h6 h7 h8 => ?_) (lkEnd_ok (evKE_at hmE))
 rw [lkB_eq]
 refine body_loop (f := lkK) (f' := lkF) (c := 12) (c' := 11) (G := lkG0 rr m) (R := rr) (τs := fun i => xJ (nvS κs m nv i) ks ns) (σs := fun i => oS (lkSt rr i (mS κs m i) (flS κs m i))) rfl gq_re S e h1 lkSet h2 h3 h4 (tmK_ok ?_) (fun _ => ov_nil) rfl (by kernel_rfl) rfl (by show 5 ≤ 12; decide) (lk_rounds hr hm hk) h5 h6 fun X' s' u J R' e' hv => q X' s' u σF J R' e' h7 h8 hv
 intro p hp ρ u hu
 refine orE (fun hp => ?_) (fun hp => ?_) (List.mem_append.mp hp)
 ·refine xvdp (fun j q1 => ?_) (List.mem_map.mp hp); subst q1
  exact hu
 ·refine xvdp (fun j hj => ?_) (List.mem_flatMap.mp hp)
  simp only [List.mem_cons, List.not_mem_nil, or_false] at hj
  rcases hj with rfl | rfl <;> exact hu
noncomputable def pickL (κs : Nat → Str × Option Nat) (m rr : Nat) : List V := (List.range (mS κs m rr)).map fun j => V.sym [0, pickS κs m rr j]
noncomputable def lkOut (κs : Nat → Str × Option Nat) (m rr : Nat) : List O := [.junk, .junk, .junk, .junk, .junk, .junk, .junk, .junk, .junk, .ns (lkNs rr (flS κs m rr)), .junk, .list (pickL κs m rr)]
theorem picks_all {τ τ' : Tau} {ρ ρ' : List Addr} {f : Nat → V} {h : Nat → V} (hf : ∀ j, ∀ u, @VR τ ρ (f j) u → @VR τ' ρ' (h j) u) (l : List Nat) : ∀ {us : List Value}, @cQ τ ρ (l.map f) us → @cQ τ' ρ' (l.map h) us := by
 induction l with
 | nil => exact id
 | cons j l ih => exact fun a => a.un fun u us e h1 h2 => by rw [e]; exact ⟨hf j u h1, ih h2⟩
theorem lkK0_ns {rr m k : Nat} {z : List (Str × V)} (h : (lkK0 rr m).get k = some (.ns z)) : k = 9 := by
 unfold lkK0 at h
 rw [nQ (nL rfl)] at h
 match k with
 | 9 => rfl
 | 0 | 1 | 2 | 3 | 4 | 5 | 8 | 10 => injection h with q1; injection q1
 | 6 | 7 =>
  exfalso
  revert h
  show some (tupS rr 0 _) = _ → False
  unfold tupS
  cases Nat.blt _ rr <;> intro h <;> (injection h with q1; injection q1)
 | k + 11 => injection h
theorem any_map {τ τ' : Tau} {ρ ρ' : List Addr} {m : List (Str × V)} {f : Str → Option Value} (hm : ∀ p ∈ m, p.2 = V.any) (h : @MapR τ ρ m f) : @MapR τ' ρ' m f := by
 intro x
 have := h x
 revert this
 refine gE (look m x) (fun hl => ?_) (fun v hl => ?_)
 ·cases f x <;> exact id
 ·
  have hv := hm _ (@look_mem fQ _ _ _ _ hl)
  have hv : v = V.any := hv
  subst hv
  cases f x <;> exact id
theorem lkNs_any {i : Nat} {fl : Bool} : ∀ p ∈ lkNs i fl, p.2 = V.any := by
 intro p hp
 unfold lkNs at hp
 refine orE (fun hp => ?_) (fun hp => ?_) (List.mem_append.mp hp)
 ·refine orE (fun hp => ?_) (fun hp => ?_) (List.mem_append.mp hp)
  ·simp only [List.mem_cons, List.not_mem_nil, or_false] at hp
   rcases hp with rfl | rfl <;> rfl
  ·refine bE (Nat.blt 0 i) (fun hb => ?_) (fun hb => ?_)
   ·rw [hb] at hp; cases hp
   ·
    rw [hb] at hp
    simp only [cond_true, List.mem_cons, List.not_mem_nil, or_false] at hp
    rcases hp with rfl | rfl | rfl <;> rfl
 ·cases fl with
  | false => cases hp
  | true =>
   simp only [cond_true, List.mem_cons, List.not_mem_nil, or_false] at hp
   rcases hp with rfl | rfl | rfl <;> rfl
theorem lk_call {P : Program} {w : World} {K : Frag} {l : List Env} {A : Around} {X : Wl} {s : Shared} {κs : Nat → Str × Option Nat} {m rr : Nat} {nv : Nat → Int} {ks : Nat → Str} {ns : Nat → Int} (hr : rr < 3) (hm : m < 7) (hk : ∀ i, i < rr → κs i ∈ lQ ∧ ks i = (κs i).1 ∧ ∀ d, (κs i).2 = some d → ns i = (d : Nat))
  (S : @Sit (xJ nv ks ns) P w gq K gT 32 l A X (oS (uQ ++ lkOs rr m)) s) {us : List Value} (hv : @cQ (xJ nv ks ns) X.ρ [.new 8, .new 5] us) {Q : Value → Shared → Prop} {E : Value → Shared → Prop}
  (q : ∀ Y s' u', X.Le Y → @Rel (xJ nv ks ns) P w Y (oS (lkOut κs m rr)) s' → @VR (xJ nv ks ns) Y.ρ (.new 11) u' → Q u' s') : wpAny (model P w) A (PySem.call (.ref 1294) us) Q E s := by
 refine @call_body P w gq K gT 31 lkK lkB (lkK0 rr m) (xJ nv ks ns) l A X (oS (uQ ++ lkOs rr m)) (oS (lkOut κs m rr)) s (.old 1294) (.new 11) [.new 8, .new 5] (.ref 1294) us Q E (lk_call1 rr m (by omega)) ?_ S rfl hv q
 intro X s A l env Q E S e H
 have hlen : X.ρ.length = 11 := (@Rel.len (xJ nv ks ns) _ _ _ _ _ (@Sit.rel (xJ nv ks ns) _ _ _ _ _ _ _ _ _ _ _ S)).trans (sQ (nL rfl))
 have hfr9 : ∀ k ∈ X.fr, k = 9 := fun k hk => by
  refine xvp (fun z hz => ?_) (@Rel.frs (xJ nv ks ns) _ _ _ _ _ (@Sit.rel (xJ nv ks ns) _ _ _ _ _ _ _ _ _ _ _ S) k hk)
  exact lkK0_ns hz
 have hloc : X.ρ[9]? = some env.locals := e.loc
 refine xvp (fun osys hsys => ?_) (@aJ.sysm (xJ nv ks ns) _ _ _ _ (@Sit.cx (xJ nv ks ns) _ _ _ _ _ _ _ _ _ _ _ S))
 refine lk_body hr hm hk S e fun X' s' u σF J R' e' h10 h8 hu => ?_
 revert hu; refine aQ fun a ha q1 => ?_; subst q1
 have hloc' : X'.ρ[8]? = some env.locals := e'.loc
 have hget : ∀ i, (oS (lkOut κs m rr)).get i = (lkOut κs m rr)[i]? := fun i => nQ (nL rfl) i
 have live : ∀ {i : Nat} {o : O}, (lkOut κs m rr)[i]? = some o → o ≠ .junk → (i = 9 ∧ o = .ns (lkNs rr (flS κs m rr))) ∨ (i = 11 ∧ o = .list (pickL κs m rr)) := fun {i o} h hj => by
  match i with
  | 9 => injection h with q1; subst q1; exact .inl ⟨rfl, rfl⟩
  | 11 => injection h with q1; subst q1; exact .inr ⟨rfl, rfl⟩
  | 0 | 1 | 2 | 3 | 4 | 5 | 6 | 7 | 8 | 10 => injection h with q1; subst q1; exact (hj rfl).elim
  | i + 12 => injection h
 have hρ9 : (X.ρ ++ [a])[9]? = some env.locals := by rw [List.getElem?_append_left (by omega)]; exact hloc
 have hρ11 : (X.ρ ++ [a])[11]? = some a := by rw [List.getElem?_append_right (by omega), hlen]; rfl
 refine aQ (fun obn n1 n2 => ?_) (@Rel.at (xJ (nvS κs m nv rr) ks ns) P w X' σF s' R' 8 _ h8 _ hloc' (fun h => by injection h))
 refine kQ (fun us' nn l1 l2 => ?_) (@Rel.at (xJ (nvS κs m nv rr) ks ns) P w X' σF s' R' 10 _ h10 _ ha (fun h => by injection h))
 have fl9 := @Rel.fresh (xJ (nvS κs m nv rr) ks ns) P w X' σF s' R' 8 _ _ h8 rfl hloc'
 have fl11 := @Rel.fresh (xJ (nvS κs m nv rr) ks ns) P w X' σF s' R' 10 _ _ h10 rfl ha
 have hne : a ≠ env.locals := fun z => by
  subst z
  have := @Rel.nodup (xJ (nvS κs m nv rr) ks ns) P w X' σF s' R' 8 10 _ _ _ h8 h10 rfl (fun h => by injection h) hloc' ha
  omega
 refine H ⟨X'.B, X.ρ ++ [a], X.fr, X.gens, X.os⟩ s' (.ret (.ref a)) ⟨J.b, List.prefix_append _ _, rfl, rfl, rfl⟩ ?_ ⟨.ref a, rfl, a, hρ11, rfl⟩
 refine @Rel.mk (xJ nv ks ns) P w _ _ s' (@Rel.keep (xJ (nvS κs m nv rr) ks ns) P w X' σF s' R') ?_ ?_ ?_ ?_ ?_ ?_ ?_ ((@Rel.gens (xJ (nvS κs m nv rr) ks ns) P w X' σF s' R').trans J.g) ((@Rel.os (xJ (nvS κs m nv rr) ks ns) P w X' σF s' R').trans J.o) ?_
 ·intro i o b ei hmut hb
  rw [hget] at ei
  rcases live ei (@O.mut_ne fQ _ hmut) with ⟨rfl, rfl⟩ | ⟨rfl, rfl⟩
  ·rw [show (X.ρ ++ [a])[9]? = some env.locals from hρ9] at hb; injection hb with q1; subst q1
   exact fl9
  ·rw [show (X.ρ ++ [a])[11]? = some a from hρ11] at hb; injection hb with q1; subst q1
   exact fl11
 ·intro i j o o' b ei ej hmut hj hbi hbj
  rw [hget] at ei ej
  rcases live ei (@O.mut_ne fQ _ hmut) with ⟨rfl, rfl⟩ | ⟨rfl, rfl⟩
  ·rcases live ej hj with ⟨rfl, rfl⟩ | ⟨rfl, rfl⟩
   ·rfl
   ·rw [show (X.ρ ++ [a])[9]? = some env.locals from hρ9] at hbi; injection hbi with q1; subst q1
    rw [show (X.ρ ++ [a])[11]? = some a from hρ11] at hbj; injection hbj with q1; subst q1
    exact (hne rfl).elim
  ·rcases live ej hj with ⟨rfl, rfl⟩ | ⟨rfl, rfl⟩
   ·rw [show (X.ρ ++ [a])[9]? = some env.locals from hρ9] at hbj; injection hbj with q1; subst q1
    rw [show (X.ρ ++ [a])[11]? = some a from hρ11] at hbi; injection hbi with q1; subst q1
    exact (hne rfl).elim
   ·rfl
 ·show (X.ρ ++ [a]).length = _
  rw [List.length_append, hlen, sQ (nL rfl)]; rfl
 ·rw [sQ (nL rfl)]; show 12 ≤ 4096; decide
 ·intro i o ei hj
  rw [hget] at ei
  rcases live ei hj with ⟨rfl, rfl⟩ | ⟨rfl, rfl⟩
  ·refine ⟨env.locals, obn, hρ9, n1, ?_⟩
   revert n2; refine oQ fun es ep d1 d2 d3 => ?_
   exact ⟨es, ep, d1, d2, any_map lkNs_any d3⟩
  ·refine ⟨a, _, hρ11, l1, us', nn, rfl, ?_⟩
   refine picks_all (τ := xJ (nvS κs m nv rr) ks ns) (ρ := X'.ρ) (f := fun j => V.sym [0, j]) (h := fun j => V.sym [0, pickS κs m rr j]) (fun j u hu => ?_) (List.range (mS κs m rr)) l2
   have hu : ScR (V.int (nvS κs m nv rr j)) u := hu
   rw [nvS_pick] at hu
   exact hu
 ·intro i hi
  rw [hget]
  rw [sQ (nL rfl)] at hi
  rw [List.getElem?_eq_getElem hi]; rfl
 ·intro k hk
  rw [hfr9 k hk]
  exact ⟨_, hget 9⟩
 ·intro i z b ei hb
  rw [hget] at ei
  rcases live ei (fun h => by injection h) with ⟨rfl, h⟩ | ⟨rfl, h⟩
  ·injection h
  ·injection h
noncomputable def symsB : List V → Bool
 | [] => true
 | v :: l => sJ (symI 25 v) (fun _ => true) && symsB l
theorem symsB_ok {v : V} {l : List V} (h : symsB (v :: l) = true) : (∃ p, v = .sym [25, p]) ∧ symsB l = true := by
 refine iI (fun p h1 _ => ?_) (aL h)
 exact ⟨⟨p, symI_ok h1⟩, aR h⟩
noncomputable def rowB (σ : St) (i : Nat) (v : V) : Bool := sJ (newI v) fun r => isTup [.sym [26, i], .sym [27, i]] (σ.get r)
noncomputable def rowsB (σ : St) : Nat → Nat → List V → Bool
 | _, 0, [] => true
 | i, rr + 1, v :: rs => rowB σ i v && rowsB σ (i + 1) rr rs
 | _, 0, _ :: _ => false
 | _, _ + 1, [] => false
theorem rowB_ok {σ : St} {i : Nat} {v : V} (h : rowB σ i v = true) : ∃ r, v = .new r ∧ σ.get r = some (.tup [.sym [26, i], .sym [27, i]]) := by
 refine iI (fun r h1 h2 => ?_) h
 exact ⟨r, iZ h1, isTup_ok h2⟩
noncomputable def picks (κs : Nat → Str × Option Nat) (m rr : Nat) : List Nat := (List.range (mS κs m rr)).map (pickS κs m rr)
noncomputable def lkeptP (L : List Nat) (m rr : Nat) : Hook := fun n fv vs σ => bif isOld 1294 fv && Nat.ble 40 n then (twoN vs).bind fun p => (listI (σ.get p.1)).bind fun xs => (listI (σ.get p.2)).bind fun rs => bif Nat.beq xs.length m && (symsB xs && rowsB σ 0 rr rs) then pushH σ (.ro (.list (L.map fun j => xs.getD j .any))) else none else none
theorem Rel.aliasR [Tau] {P : Program} {w : World} {X : Wl} {σ : St} {s : Shared} {a : Addr} {ob : Obj} {o : O} (R : Rel P w X σ s) (hz : σ.size < 4096) (hs : a ≠ sysModules) (ha : s.heap.get? a = some ob) (hd : pQ P w (X.add a) ob o) (hn : a ∉ mutAddrs X σ) : Rel P w (X.add a) (σ.push (.ro o)) s where
 keep := R.keep
 fresh := fun n o' b e j h => by
  rw [St.get_push hz] at e
  by_cases q : n = σ.size
  ·rw [if_pos q] at e; injection e with q1; subst q1; injection j
  ·rw [if_neg q] at e
   rw [Wl.add_lt (R.len ▸ St.get_lt e)] at h
   exact R.fresh n o' b e j h
 nodup := fun n m o₁ o₂ b e₁ e₂ j₁ j₂ h₁ h₂ => by
  rw [St.get_push hz] at e₁ e₂
  by_cases q₁ : n = σ.size
  ·rw [if_pos q₁] at e₁; injection e₁ with q1; subst q1; injection j₁
  ·rw [if_neg q₁] at e₁
   rw [Wl.add_lt (R.len ▸ St.get_lt e₁)] at h₁
   by_cases q₂ : m = σ.size
   ·rw [q₂, Wl.add_get R.len] at h₂
    injection h₂ with q1; subst q1
    exact (hn (mem_muts e₁ j₁ h₁)).elim
   ·rw [if_neg q₂] at e₂
    rw [Wl.add_lt (R.len ▸ St.get_lt e₂)] at h₂
    exact R.nodup n m o₁ o₂ b e₁ e₂ j₁ j₂ h₁ h₂
 len := by show (X.ρ ++ [a]).length = _; rw [List.length_append, R.len]; rfl
 room := by rw [St.size_push]; omega
 objs := fun n o' e j => by
  rw [St.get_push hz] at e
  by_cases q : n = σ.size
  ·rw [if_pos q] at e
   injection e with q1; subst q1
   exact ⟨a, ob, Wl.add_get (by rw [R.len, q]), ha, hd⟩
  ·rw [if_neg q] at e
   refine oQ (fun b ob' h1 h2 h3 => ?_) (R.objs n o' e j)
   exact ⟨b, ob', pG (X.le_add a).r h1, h2, h3.mono (X.le_add a)⟩
 all := fun n h => by
  rw [St.get_push hz]
  split
  ·rfl
  ·exact R.all n (by rw [St.size_push] at h; omega)
 frs := fun k hk => by
  refine xvp (fun m h2 => ?_) (R.frs k hk)
  refine ⟨m, ?_⟩
  rw [St.get_push hz, if_neg (Nat.ne_of_lt (St.get_lt h2))]; exact h2
 gens := R.gens
 os := R.os
 sys := fun n o' b e h => by
  rw [St.get_push hz] at e
  by_cases q : n = σ.size
  ·rw [q, Wl.add_get R.len] at h; injection h with q1; subst q1; exact hs
  ·rw [if_neg q] at e
   rw [Wl.add_lt (R.len ▸ St.get_lt e)] at h
   exact R.sys n o' b e h
theorem nodes_all' {τ τ' : Tau} {ρ ρ' : List Addr} {nv : Nat → Int} (h0 : ∀ j, τ'.tau [0, j] = .int (nv j)) : ∀ (xs : List V) (k : Nat) {us : List Value}, (∀ j, j < xs.length → @dn τ (xs.getD j .any) = .int (nv (k + j))) → @cQ τ ρ xs us → @cQ τ' ρ' ((List.range' k xs.length).map fun i => V.sym [0, i]) us
 | [], _, [], _, _ => trivial
 | v :: xs, k, u :: us, hj, ⟨e, r⟩ => by
  refine ⟨?_, nodes_all' h0 xs (k + 1) (fun j hlt => by
   have := hj (j + 1) (Nat.succ_lt_succ hlt)
   rw [show k + 1 + j = k + (j + 1) by omega, ← this]
   rfl) r⟩
  have hz : @dn τ v = .int (nv k) := hj 0 (Nat.succ_pos _)
  have e' := (@VR_dn τ ρ v u).mpr e
  rw [hz] at e'
  exact (cJ (h0 k)).mpr e'
theorem syms_get : ∀ (l : List V), symsB l = true → ∀ j, (∃ p, l.getD j .any = .sym [25, p]) ∨ l.getD j .any = .any
 | [], _, j => .inr rfl
 | v :: l, h, 0 => .inl (symsB_ok h).1
 | v :: l, h, j + 1 => syms_get l (symsB_ok h).2 j
theorem syms_at : ∀ (l : List V), symsB l = true → ∀ j, j < l.length → ∃ p, l.getD j .any = .sym [25, p]
 | v :: l, h, 0, _ => (symsB_ok h).1
 | v :: l, h, j + 1, hj => syms_at l (symsB_ok h).2 j (Nat.lt_of_succ_lt_succ hj)
theorem syms_int {τ : Tau} (hv : ∀ p, ∃ i, τ.tau [25, p] = .int i) {xs : List V} (hs : symsB xs = true) {j : Nat} (hj : j < xs.length) : @dn τ (xs.getD j .any) = .int (dQ (@dn τ (xs.getD j .any))) := by
 refine xvp (fun p hp => ?_) (syms_at xs hs j hj)
 rw [hp]
 refine xvp (fun i hi => ?_) (hv p)
 show τ.tau [25, p] = .int (dQ (τ.tau [25, p]))
 rw [hi]; rfl
structure RowsOk (τ : Tau) (κs : Nat → Str × Option Nat) (rr : Nat) : Prop where
 v : ∀ p, ∃ i, τ.tau [25, p] = .int i
 w : ∀ i, i < rr → τ.tau [26, i] = .str (κs i).1
 n : ∀ i, i < rr → ∃ z : Int, τ.tau [27, i] = .int z ∧ ∀ d : Nat, (κs i).2 = some d → z = (d : Int)
 k : ∀ i, i < rr → κs i ∈ lQ
section
variable {P : Program} {w : World} {K : Frag} {q : Bool} {ne : List Nat → Str → Bool} {orc : Qn → Option V}
theorem picks_up {τ : Tau} {τ' : Unit → Tau} {κs : Nat → Str × Option Nat} {m rr i n : Nat} {l : List Env} {A : Around} {X Y : Wl} {σ σ' : St} {s s' : Shared} {xs : List V} {ρ : List Addr} {g : Cx} {u' : Value} {Q : Value → Shared → Prop} {E : Value → Shared → Prop} (hvs : ∀ p, ∃ i, τ.tau [25, p] = .int i) (hs : symsB xs = true) (h0 : ∀ j, (τ' ()).tau [0, j] = .int (dQ (@dn τ (xs.getD j .any)))) (S : @Sit τ P w g K gT n l A X σ s) (hz : σ.size < 4000)
  (hY : (mQ s [] ρ).Le Y) (R' : @Rel (τ' ()) P w Y σ' s') (hi : σ'.get i = some (.list (pickL κs m rr))) (hu' : @VR (τ' ()) Y.ρ (.new i) u') (H : @OK τ P w g l X _ _ (@RV τ) Q E (.ok (.new σ.size) (σ.push (.ro (.list ((picks κs m rr).map fun j => xs.getD j .any)))))) : Q u' s' := by
 revert hu'; refine aQ fun a ha q1 => ?_; subst q1
 have R := S.rel
 refine kQ (fun us' nn h1 hu => ?_) (@Rel.at (τ' ()) P w Y _ s' R' i _ hi a ha (fun h => by injection h))
 have hfr := @Rel.fresh (τ' ()) P w Y _ s' R' i _ _ hi rfl ha
 have hkeep : ∀ b o, s.heap.get? b = some o → s'.heap.get? b = some o := fun b o e => @mJ P w Y _ s s' (τ' ()) _ _ hY R' b (by nofun) o e
 have hnone : s.heap.get? a = none := by
  refine gE (s.heap.get? a) (fun z => ?_) (fun o z => ?_)
  ·rfl
  ·rw [hY.b a o (hideAll_get _ z (by nofun))] at hfr; injection hfr
 have hsys : a ≠ sysModules := by
  rintro rfl
  refine xvp (fun o ho => ?_) (S.cx.sysm)
  rw [R.keep _ _ ho] at hnone; injection hnone
 have R1 := R.up hkeep ((@Rel.gens (τ' ()) P w Y _ s' R').trans hY.g) ((@Rel.os (τ' ()) P w Y _ s' R').trans hY.o)
 refine H ((X.up σ s').add a) s' (.ref a) ((Wl.le_up R hkeep).trans (Wl.le_add _ _)) (R1.aliasR (Nat.lt_of_lt_of_le hz (by decide)) hsys h1 ⟨us', nn, rfl, ?_⟩ (R.not_muts hkeep h1 (.inr hnone))) ⟨a, Wl.add_get R.len, rfl⟩
 unfold picks
 rw [List.map_map]
 refine picks_all (τ := τ' ()) (ρ := Y.ρ) (f := fun j => V.sym [0, pickS κs m rr j]) (h := (fun j => xs.getD j .any) ∘ pickS κs m rr) (fun j u hu => ?_) _ hu
 have hu := (cJ (h0 (pickS κs m rr j))).mp hu
 show @VR τ _ (xs.getD (pickS κs m rr j) .any) u
 refine orE (xvp fun p hp => ?_) (fun hp => ?_) (syms_get xs hs (pickS κs m rr j))
 ·rw [hp] at hu ⊢
  refine xvp (fun i hi => ?_) (hvs p)
  have e : @dn τ (.sym [25, p]) = .int i := hi
  rw [e] at hu
  exact (cJ hi).mpr hu
 ·rw [hp] at hu ⊢
  revert hu; refine xvp fun t q1 => ?_; clear hu; subst q1
  rfl
theorem tup_small {τ : Tau} {κs : Nat → Str × Option Nat} {rr i : Nat} {X Y : Wl} {σ : St} {s : Shared} {nv : Nat → Int} (W : RowsOk τ κs rr) (hi : i < rr) (R : @Rel τ P w X σ s) {r : Nat} {a : Addr} (e : σ.get r = some (.tup [.sym [26, i], .sym [27, i]])) (ha : X.ρ[r]? = some a) :
  ∃ ob, s.heap.get? a = some ob ∧ @pQ (xJ nv (fun i => (κs i).1) (fun i => dQ (τ.tau [27, i]))) P w Y ob (.tup [.sym [1, i], .sym [2, i]]) := by
 refine kQ (fun us n h1 hu => ?_) (@Rel.at τ P w X σ s R r _ e a ha (fun h => by injection h))
 refine ⟨_, h1, us, n, rfl, two_list hu (fun u hu => ?_) fun u hu => ?_⟩
 ·have hu : ScR (τ.tau [26, i]) u := hu
  rw [W.w i hi] at hu
  exact hu
 ·have hu : ScR (τ.tau [27, i]) u := hu
  refine xvpd (fun z hz => ?_) (W.n i hi)
  show ScR (V.int (dQ (τ.tau [27, i]))) u
  rw [hz] at hu ⊢
  exact hu
theorem lkept_small {τ : Tau} {κs : Nat → Str × Option Nat} {m rr : Nat} {n : Nat} {l : List Env} {A : Around} {X : Wl} {σ : St} {s : Shared} {k j : Nat} {xs rs : List V} {ak aj : Addr} (W : RowsOk τ κs rr) (hr : rr < 3) (hm : m < 7) (S : @Sit τ P w (gy q ne orc) K gT (n + 1) l A X σ s) (hn : 40 ≤ n)
  (hk : σ.get k = some (.list xs)) (hj : σ.get j = some (.list rs)) (hak : X.ρ[k]? = some ak) (haj : X.ρ[j]? = some aj) (hl : xs.length = m) (hs : symsB xs = true) (hrs : rowsB σ 0 rr rs = true) :
  ∃ ρ, @Sit (xJ (fun j => dQ (@dn τ (xs.getD j .any))) (fun i => (κs i).1) (fun i => dQ (τ.tau [27, i]))) P w gq K gT 32 l A (mQ s [] (gT ++ ρ)) (oS (uQ ++ lkOs rr m)) s ∧ (gT ++ ρ)[8]? = some ak ∧ (gT ++ ρ)[5]? = some aj := by
 have R := S.rel
 refine kQ (fun usk nk ok huk => ?_) (R.at hk hak)
 refine kQ (fun usj nj oj huj => ?_) (R.at hj haj)
 refine xvp (fun osys hsys => ?_) (S.cx.sysm)
 have nsk : ak ≠ sysModules := by rintro rfl; rw [R.fresh _ _ _ hk rfl hak] at hsys; injection hsys
 have nsj : aj ≠ sysModules := by rintro rfl; rw [R.fresh _ _ _ hj rfl haj] at hsys; injection hsys
 have hnode : ∀ ρ', @cQ (xJ (fun j => dQ (@dn τ (xs.getD j .any))) (fun i => (κs i).1) (fun i => dQ (τ.tau [27, i]))) ρ' (toks0 m) usk.toList := fun ρ' => by
  unfold toks0
  rw [List.range_eq_range', ← hl]
  exact nodes_all' (fun j => rfl) xs 0 (fun j hj => by rw [Nat.zero_add]; exact syms_int W.v hs hj) huk
 have fin : ∀ (t0 t1 : Addr), (∀ X' : Wl, ((tupS rr 0 0) ≠ .junk → ∃ ob, s.heap.get? t0 = some ob ∧ @pQ (xJ (fun j => dQ (@dn τ (xs.getD j .any))) (fun i => (κs i).1) (fun i => dQ (τ.tau [27, i]))) P w X' ob (tupS rr 0 0)) ∧ ((tupS rr 0 1) ≠ .junk → ∃ ob, s.heap.get? t1 = some ob ∧ @pQ (xJ (fun j => dQ (@dn τ (xs.getD j .any))) (fun i => (κs i).1) (fun i => dQ (τ.tau [27, i]))) P w X' ob (tupS rr 0 1))) →
   @cQ (xJ (fun j => dQ (@dn τ (xs.getD j .any))) (fun i => (κs i).1) (fun i => dQ (τ.tau [27, i]))) (gT ++ [aj, t0, t1, ak]) (rowsL rr) usj.toList → (tupS rr 0 0).mut = false → (tupS rr 0 1).mut = false → (∀ z, tupS rr 0 0 ≠ .ro z) → (∀ z, tupS rr 0 1 ≠ .ro z) →
   @Sit (xJ (fun j => dQ (@dn τ (xs.getD j .any))) (fun i => (κs i).1) (fun i => dQ (τ.tau [27, i]))) P w gq K gT 32 l A (mQ s [] (gT ++ [aj, t0, t1, ak])) (oS (uQ ++ lkOs rr m)) s := fun t0 t1 ht hrow m0 m1 r0 r1 => by
  refine small5 (S.down (n := 32) (by omega)) (by show 4 ≤ 3000; decide) ⟨fun _ => ⟨_, oj, usj, nj, rfl, hrow⟩, (by intros; contradiction), fun _ _ => nsj, (ht _).1, (fun z => (by rw [m0] at z; injection z)), fun z hz => (r0 z hz).elim, (ht _).2, (fun z => (by rw [m1] at z; injection z)), fun z hz => (r1 z hz).elim, fun _ => ⟨_, ok, usk, nk, rfl, hnode _⟩, (by intros; contradiction), fun _ _ => nsk, trivial⟩ rfl (aJ.yy S.cx (by intro t x h; injection h) (by intro z v h; injection h)) (by intros; contradiction) ?_
  intro i i' o o' a e _ hmut
  exfalso
  match i with
  | 0 => injection e with q1; subst q1; injection hmut
  | 1 => injection e with q1; subst q1; rw [m0] at hmut; injection hmut
  | 2 => injection e with q1; subst q1; rw [m1] at hmut; injection hmut
  | 3 => injection e with q1; subst q1; injection hmut
  | i + 4 => injection e
 have hcase : rr = 0 ∨ rr = 1 ∨ rr = 2 := by omega
 rcases hcase with rfl | rfl | rfl
 ·have hr0 : rs = [] := by cases rs with | nil => rfl | cons => injection hrs
  clear hj; subst hr0
  refine ⟨[aj, aj, aj, ak], fin aj aj (fun X' => ⟨fun h => (h rfl).elim, fun h => (h rfl).elim⟩) ?_ rfl rfl (fun _ h => by injection h) (fun _ h => by injection h), rfl, rfl⟩
  cases husj : usj.toList with
  | nil => exact trivial
  | cons => rw [husj] at huj; exact huj.elim
 ·obtain ⟨v0, rfl⟩ : ∃ v, rs = [v] := by
   cases rs with
   | nil => injection hrs
   | cons v l => cases l with
    | nil => exact ⟨v, rfl⟩
    | cons => refine aN (fun _ h2 => ?_) hrs; injection h2
  refine aN (fun h1 _ => ?_) hrs
  refine aQ (fun r0 q1 e0 => ?_) (rowB_ok h1); clear hj; subst q1
  refine xvp (fun a0 ha0 => ?_) (R.isin e0)
  refine ⟨[aj, a0, aj, ak], fin a0 aj (fun X' => ⟨fun _ => ?_, fun h => (h rfl).elim⟩) ?_ rfl rfl (fun _ h => by injection h) (fun _ h => by injection h), rfl, rfl⟩
  ·exact tup_small W (by decide) R e0 ha0
  ·match hus : usj.toList with
   | [u] =>
    rw [hus] at huj
    refine aQ (fun x hx q1 => ?_) (huj.1); subst q1
    rw [ha0] at hx; injection hx with q1; subst q1
    exact ⟨⟨a0, rfl, rfl⟩, trivial⟩
   | [] => rw [hus] at huj; exact huj.elim
   | _ :: _ :: _ => rw [hus] at huj; exact huj.2.elim
 ·obtain ⟨v0, v1, rfl⟩ : ∃ v v', rs = [v, v'] := by
   cases rs with
   | nil => injection hrs
   | cons v l => cases l with
    | nil => refine aN (fun _ h2 => ?_) hrs; injection h2
    | cons v' l => cases l with
     | nil => exact ⟨v, v', rfl⟩
     | cons => refine aN (fun _ h2 => ?_) hrs; refine aN (fun _ h3 => ?_) h2; injection h3
  refine aN (fun h1 h2 => ?_) hrs
  revert h2; refine aN fun h2 _ => ?_
  refine aQ (fun r0 q1 e0 => ?_) (rowB_ok h1); subst q1
  refine aQ (fun r1 q1 e1 => ?_) (rowB_ok h2); clear h2 hj hrs; subst q1
  refine xvp (fun a0 ha0 => ?_) (R.isin e0)
  refine xvp (fun a1 ha1 => ?_) (R.isin e1)
  refine ⟨[aj, a0, a1, ak], fin a0 a1 (fun X' => ⟨fun _ => ?_, fun _ => ?_⟩) ?_ rfl rfl (fun _ h => by injection h) (fun _ h => by injection h), rfl, rfl⟩
  ·exact tup_small W (by decide) R e0 ha0
  ·exact tup_small W (by decide) R e1 ha1
  ·refine xvvppvpr1 (fun u0 y hus q1 hy => ?_) (two_of' huj); revert q1; refine aQ fun x hx q2 => ?_; subst q2
   rw [ha0] at hx; injection hx with q1; subst q1
   rw [ha1] at hy; injection hy with q1; subst q1
   rw [hus]
   exact ⟨⟨a0, rfl, rfl⟩, ⟨a1, rfl, rfl⟩, trivial⟩
end
section
variable {P : Program} {w : World} {K : Frag} {q : Bool} {ne : List Nat → Str → Bool} {orc : Qn → Option V}
theorem lkept_hook {τ : Tau} {κs : Nat → Str × Option Nat} {m rr : Nat} (W : RowsOk τ κs rr) (hr : rr < 3) (hm : m < 7) : @wJ τ P w (gy q ne orc) K gT (lkeptP (picks κs m rr) m rr) := by
 intro n fv vs u us σ X s A l Q E res h S hf hv H
 revert h; refine iQ fun h1 h => ?_
 revert h; refine oB fun p h2 h => ?_
 revert h; refine oB fun xs h3 h => ?_
 revert h; refine oB fun rs h4 h => ?_
 refine iQ (fun h5 h6 => ?_) h
 refine xpp (fun hz hres => ?_) (pushH_ok h6)
 subst hres
 clear h h6
 rw [twoN_ok h2] at hv
 have hfv := isOld_ok (aL h1)
 subst hfv
 have d3 := aL (aR h5)
 refine xvvppvpr1 (fun u0 aj q1 q2 haj => ?_) (two_of' hv); clear hv; subst q1; revert q2; refine aQ fun ak hak q3 => ?_; subst q3
 cases hf
 refine xvppp (fun ρ S' g8 g5 => ?_) (lkept_small W hr hm S (nL (aR h1)) (listI_ok h3) (listI_ok h4) hak haj (nE (aL h5)) d3 (aR (aR h5)))
 refine lk_call (us := [.ref ak, .ref aj]) (nv := fun j => dQ (@dn τ (xs.getD j .any))) (ks := fun i => (κs i).1) (ns := fun i => dQ (τ.tau [27, i])) (κs := κs) hr hm (fun i hi => ⟨W.k i hi, rfl, fun d hd => ?_⟩) S' ⟨⟨ak, g8, rfl⟩, ⟨aj, g5, rfl⟩, trivial⟩ fun Y s' u' hY R' hu' => ?_
 ·refine aQ (fun z hz1 hz2 => ?_) (W.n i hi)
  show dQ (τ.tau [27, i]) = _
  rw [hz1]
  exact hz2 d hd
 ·exact picks_up (τ' := fun _ => xJ (fun j => dQ (@dn τ (xs.getD j .any))) (fun i => (κs i).1) (fun i => dQ (τ.tau [27, i]))) (i := 11) W.v d3 (fun j => rfl) S hz hY R' ((nQ (os := lkOut κs m rr) (nL rfl) 11).trans rfl) hu' H
end
noncomputable def numV (κ : Str × Option Nat) : V := match κ.2 with
 | some d => .int (d : Int)
 | none => .any
noncomputable def zJ (κ : Str × Option Nat) : List O := match κ.2 with
 | some d => [.inst 735 6, .at [(sOf "value", .new 7)], .tup [.int (d : Int), .int 1]]
 | none => plain κ.1
noncomputable def madeH2 : Hook := fun n fv vs σ => bif isOld 1263 fv && Nat.ble 30 n then (headI 26 vs).bind fun p => bif vsEq p.2 [.sym [27, p.1]] && Nat.blt p.1 2 then pushH σ (.mk [28, p.1]) else none else none
theorem ev_made2 : (lQ.map fun κ => packR ((rcs gq 30).call (.old 1263) [.str κ.1, numV κ] (oS (uQ ++ [])))) = lQ.map fun κ => some (oS (uQ ++ zJ κ)) := by kernel_rfl
theorem plainK_ok : (lQ.all fun κ => (zJ κ).all plainO && (Nat.ble (zJ κ).length 3 && (match (zJ κ)[0]? with | some (O.inst _ _) => true | _ => false))) = true := by kernel_rfl
theorem plainK_at {κ : Str × Option Nat} (hx : κ ∈ lQ) : (zJ κ).all plainO = true ∧ (zJ κ).length ≤ 3 ∧ ∃ C d, (zJ κ)[0]? = some (.inst C d) := by
 have := List.all_eq_true.mp plainK_ok κ hx
 refine aN (fun h1 h2 => ?_) this
 revert h2; refine aN fun h2 h3 => ?_
 refine ⟨h1, nL h2, ?_⟩
 split at h3
 ·exact ⟨_, _, by assumption⟩
 ·injection h3
section
variable {P : Program} {w : World} {K : Frag} {q : Bool} {ne : List Nat → Str → Bool} {orc : Qn → Option V}
structure RowsMk (P : Program) (w : World) (τ : Tau) (κs : Nat → Str × Option Nat) : Prop where
 k : ∀ i, i < 2 → κs i ∈ lQ
 wd : ∀ i, i < 2 → τ.tau [26, i] = .str (κs i).1
 n : ∀ i, i < 2 → ∃ z : Int, τ.tau [27, i] = .int z ∧ ∀ d : Nat, (κs i).2 = some d → z = (d : Int)
 p : ∀ i, i < 2 → τ.mkD [28, i] = packD P w ((zJ (κs i)).map wrapO)
set_option tactic.hygienic true in
theorem made_hook2 {τ : Tau} {κs : Nat → Str × Option Nat} (W : RowsMk P w τ κs) : @wJ τ P w (gy q ne orc) K gT madeH2 := by
 intro n fv vs u us σ X s A l Q E r h S hf hv H
 revert h; refine iQ fun c1 h => ?_
 revert h; refine oB fun p c2 h => ?_
 refine iQ (fun c3 h4 => ?_) h
 refine xpp (fun hz hr => ?_) (pushH_ok h4)
 subst hr
 clear h h4
 obtain ⟨i, rs⟩ := p
 have hvs := headI_ok c2
 rw [vsEq_ok (aL c3)] at hvs
 rw [hvs] at hv
 have hfv := isOld_ok (aL c1)
 subst hfv
 have hi : i < 2 := bI.mp (aR c3)
 refine oQ (fun u0 u1 q1 h0 h1 => ?_) (two_of' hv); clear hv; subst q1
 cases hf
 have R := S.rel
 have h0 := (VR_symS (W.wd i hi)).mp h0
 have h1' : @VR fQ (gT ++ []) (numV (κs i)) u1 := by
  refine aQ (fun z hz1 hz2 => ?_) (W.n i hi)
  unfold numV
  split
  ·rename_i d hd
   have := (cJ hz1).mp h1
   rw [hz2 d hd] at this
   exact this
  ·exact @VR.handed τ _ _ _ h1
 refine xvvvvvpppp (fun j σ'' C d m e1 e3 e4 e5 => ?_) (packR_ok (eJ ev_made2 (W.k i hi)))
 refine @tJ P w gq K gT 30 l A σ'' s E fQ _ _ _ _ _ (.ref 1263) [u0, u1] _ e1 (small0 S (nL (aR c1))) rfl ⟨h0, h1', trivial⟩ _ fun Y s' v hY R' hv' => ?_
 revert hv'; refine aQ fun addr ha q1 => ?_; subst q1
 refine xppp (fun p1 p2 p3 => ?_) (plainK_at (W.k i hi))
 refine xvppp (fun ob g1 g2 g3 => ?_) (pack_up (C := C) R hY R' (sys_in S) e5 ha p1 p2 p3)
 have hd : @pQ τ P w ((X.up σ s').add addr) ob (.mk [28, i]) := by
  show τ.mkD [28, i] (X.up σ s').B ob
  rw [W.p i hi]; exact g3
 refine xppp (fun z1 z2 z3 => ?_) (up_push R (fun b o e => @mJ P w Y σ'' s s' fQ _ _ hY R' b (by nofun) o e) ((@Rel.gens fQ _ _ _ _ _ R').trans hY.g) ((@Rel.os fQ _ _ _ _ _ R').trans hY.o) (Nat.lt_of_lt_of_le hz (by decide)) rfl (by intro z h; cases h) g1 g2 hd)
 exact H _ _ _ z1 z2 ⟨addr, z3, rfl⟩
end
noncomputable def topK (κ : Str × Option Nat) (p z : V) : Option V := match κ.2 with
 | some d => some (.int (d : Int))
 | none => bif eqS κ.1 (sOf "position") then some p else bif eqS κ.1 (sOf "last") then some z else bif eqS κ.1 (sOf "v") then some (.int 2) else none
noncomputable def valK (κ : Str × Option Nat) (p z : V) (σ : St) : Option (Res V) := match topK κ p z with
 | some v => pushH σ (.tup [v, .int 1])
 | none => some (.ok (scOf κ.1) σ)
noncomputable def askK (κ : Str × Option Nat) (p z : Int) : Int := bif eqS κ.1 (sOf "position") then p else bif eqS κ.1 (sOf "last") then z else 1
noncomputable def rangeK (κ : Str × Option Nat) : List Nat := bif eqS κ.1 (sOf "position") || eqS κ.1 (sOf "last") then [1, 2, 3, 4, 5, 6] else [1]
noncomputable def casesA : List ((Str × Option Nat) × Nat) := lQ.flatMap fun κ => (rangeK κ).map fun j => (κ, j)
noncomputable def valEK (κ : Str × Option Nat) (t : Int) : Bool × V := match topK κ (.int t) (.int t) with
 | some v => (true, v)
 | none => (false, scOf κ.1)
noncomputable def ctxE (v1 : V) (p z : Int) (cv : V) : List (Str × V) := [(sOf "tree", .any), (sOf "node", v1), (sOf "position", .int p), (sOf "size", .int z), (sOf "variables", .new 13), (sOf "names", .new 15), (sOf "calls", .new 16), (sOf "current", cv), (sOf "ids", .new 17)]
noncomputable def varK : List (Str × V) := [(sOf "s", .any), (sOf "v", .new 14), (sOf "w", .str (sOf "t"))]
noncomputable def ctxF (σ : St) (c : Nat) : Option (Int × Int) := (instI 1006 (σ.get c)).bind fun d => (atI (σ.get d)).bind fun m => (valAt m 1).bind fun v1 => (intAt m 2).bind fun p => (intAt m 3).bind fun z => (valAt m 7).bind fun cv =>
 bif mEq m (ctxE v1 p z cv) && (isRoDict varK (σ.get 13) && isTup [.int 2, .int 1] (σ.get 14)) then some (p, z) else none
theorem ctxF_ok {σ : St} {c : Nat} {p z : Int} (h : ctxF σ c = some (p, z)) : ∃ d v1 cv, σ.get c = some (.inst 1006 d) ∧ σ.get d = some (.at (ctxE v1 p z cv)) ∧ σ.get 13 = some (.ro (.dict varK)) ∧ σ.get 14 = some (.tup [.int 2, .int 1]) := by
 revert h; refine oB fun d g1 h => ?_
 revert h; refine oB fun m g2 h => ?_
 revert h; refine oB fun v1 _ h => ?_
 revert h; refine oB fun p' _ h => ?_
 revert h; refine oB fun z' _ h => ?_
 revert h; refine oB fun cv _ h => ?_
 refine iF (fun g3 g4 => ?_) h
 injection g4 with q1 q2; clear h; subst q1; subst q2
 exact ⟨d, v1, cv, instI_ok g1, mEq_ok (aL g3) ▸ atI_ok g2, isRoDict_ok (aL (aR g3)), isTup_ok (aR (aR g3))⟩
noncomputable def evalK (i : Nat) (κ : Str × Option Nat) : Hook := fun n fv vs σ => bif isOld 967 fv && Nat.ble 30 n then (twoN vs).bind fun q => bif sJ (mkK 28 (σ.get q.1)) (fun j => Nat.beq j i) then (ctxF σ q.2).bind fun pz => bif (rangeK κ).any fun j => decide ((j : Int) = askK κ pz.1 pz.2) then valK κ (.int pz.1) (.int pz.2) σ else none else none else none
noncomputable def packK (κ : Str × Option Nat) : List O := (zJ κ).map wrapO
noncomputable def ctxSK (κ : Str × Option Nat) (t : Int) : List (Str × V) := [(sOf "tree", .any), (sOf "node", .any), (sOf "position", bif eqS κ.1 (sOf "position") then .int t else .any), (sOf "size", bif eqS κ.1 (sOf "last") then .int t else .any), (sOf "variables", .new 10), (sOf "names", .any), (sOf "calls", .any), (sOf "current", .any), (sOf "ids", .any)]
noncomputable def varSK : List (Str × V) := [(sOf "s", .any), (sOf "v", .new 11), (sOf "w", .str (sOf "t"))]
noncomputable def ctx4K (κ : Str × Option Nat) (t : Int) : List O := [.inst 1006 9, .ro (.at (ctxSK κ t)), .ro (.dict varSK), .tup [.int 2, .int 1]]
noncomputable def evOsK (κ : Str × Option Nat) (t : Int) : List O := packK κ ++ (List.replicate (3 - (zJ κ).length) .junk ++ ctx4K κ t)
theorem ev_evalK : (casesA.map fun c => valR ((rcs gq 30).call (.old 967) [.new 5, .new 8] (oS (uQ ++ evOsK c.1 (c.2 : Nat))))) = casesA.map fun c => some (valEK c.1 (c.2 : Nat)) := by kernel_rfl
theorem plain5K : (lQ.all fun κ => (packK κ).all no5O) = true := by kernel_rfl
theorem evOsK_ok : (casesA.all fun c => (evOsK c.1 (c.2 : Nat)).all (fun o => !o.mut) && (Nat.beq (evOsK c.1 (c.2 : Nat)).length 7 && (match topK c.1 (.int (c.2 : Nat)) (.int (c.2 : Nat)) with | some _ => true | none => isSc (scOf c.1.1)))) = true := by kernel_rfl
theorem evOsK_at {κ : Str × Option Nat} {t : Nat} (hx : (κ, t) ∈ casesA) : (∀ o ∈ evOsK κ t, o.mut = false) ∧ (evOsK κ t).length = 7 ∧ (topK κ (.int t) (.int t) = none → isSc (scOf κ.1) = true) := by
 refine aN (fun h1 h2 => ?_) (List.all_eq_true.mp evOsK_ok _ hx)
 revert h2; refine aN fun h2 h3 => ?_
 refine ⟨fun o ho => by simpa using List.all_eq_true.mp h1 o ho, nE h2, fun e => ?_⟩
 dsimp only at h3
 rw [e] at h3
 exact h3
theorem topK_ask {κ : Str × Option Nat} {p z : Int} : topK κ (.int (askK κ p z)) (.int (askK κ p z)) = topK κ (.int p) (.int z) := by
 unfold topK askK
 cases κ.2 with
 | some d => rfl
 | none =>
  dsimp only
  cases eqS κ.1 (sOf "position") with
  | true => rfl
  | false =>
   rw [cond_false, cond_false, cond_false]
   cases eqS κ.1 (sOf "last") with
   | true => rfl
   | false => rfl
theorem mem_casesA {κ : Str × Option Nat} {p z : Int} (hk : κ ∈ lQ) (h : ((rangeK κ).any fun j => decide ((j : Int) = askK κ p z)) = true) : ∃ t : Nat, (κ, t) ∈ casesA ∧ askK κ p z = (t : Int) := by
 refine aQ (fun j hj h => ?_) (List.any_eq_true.mp h)
 exact ⟨j, List.mem_flatMap.mpr ⟨κ, hk, List.mem_map.mpr ⟨j, hj, rfl⟩⟩, (of_decide_eq_true h).symm⟩
theorem pos_conv {κ : Str × Option Nat} {p z : Int} {τ : Tau} {ρ ρ' : List Addr} {u : Value} (h : @VR τ ρ (.int p) u) : @VR fQ ρ' (bif eqS κ.1 (sOf "position") then .int (askK κ p z) else .any) u := by
 unfold askK
 cases eqS κ.1 (sOf "position") with
 | true => exact h
 | false => exact @VR.handed τ _ _ _ h
theorem last_conv {κ : Str × Option Nat} {p z : Int} {τ : Tau} {ρ ρ' : List Addr} {u : Value} (h : @VR τ ρ (.int z) u) : @VR fQ ρ' (bif eqS κ.1 (sOf "last") then .int (askK κ p z) else .any) u := by
 unfold askK
 refine cZ (eqS κ.1 (sOf "last")) (fun hl => ?_) (fun hl => ?_)
 ·
  have hp : eqS κ.1 (sOf "position") = false := by
   rw [eI.mp hl]; kernel_rfl
  rw [hp, cond_true, cond_false]
  exact h
 ·exact @VR.handed τ _ _ _ h
structure PredOk (P : Program) (w : World) (τ : Tau) (i : Nat) (κ : Str × Option Nat) : Prop where
 k : κ ∈ lQ
 p : τ.mkD [28, i] = packD P w ((zJ κ).map wrapO)
section
variable {P : Program} {w : World} {K : Frag} {q : Bool} {ne : List Nat → Str → Bool} {orc : Qn → Option V}
theorem eval_smallK {τ : Tau} {X : Wl} {σ : St} {s : Shared} {i k c : Nat} {κ : Str × Option Nat} {x0 a14 : Addr} {p z : Int} {n : Nat} {l : List Env} {A : Around} (S : @Sit τ P w (gy q ne orc) K gT (n + 1) l A X σ s) (hn : 30 ≤ n) (Wx : PredOk P w τ i κ) {t : Nat} (ht : (κ, t) ∈ casesA) (hta : askK κ p z = (t : Int)) (hk : σ.get k = some (.mk [28, i])) (hx0 : X.ρ[k]? = some x0)
  (h14 : X.ρ[c]? = some a14) (hc : ctxF σ c = some (p, z)) : ∃ ρ, @Sit (fQ) P w gq K gT 30 l A (mQ s [] (gT ++ ρ)) (oS (uQ ++ evOsK κ t)) s ∧ (gT ++ ρ)[5]? = some x0 ∧ (gT ++ ρ)[8]? = some a14 := by
 have R := S.rel
 refine xvvvpppp (fun d v1 cv e14 e16 e17 e21 => ?_) (ctxF_ok hc)
 refine aQ (fun ob ho hm => ?_) (R.at hk hx0)
 have hm : τ.mkD [28, i] X.B ob := hm
 rw [Wx.p] at hm
 revert hm; refine xvpvpppp fun X1 hB1 ρ1 hρ1 hl1 q1 hall => ?_; revert q1; refine aQ fun a0 g1 g2 => ?_
 obtain ⟨r1, rfl⟩ : ∃ r1, ρ1 = a0 :: r1 := by
  cases ρ1 with
  | nil => injection g1
  | cons b r => injection g1 with q1; subst q1; exact ⟨r, rfl⟩
 refine xppvvp (fun p1 p2 C0 d0 p3 => ?_) (plainK_at Wx.k)
 have hL : (zJ κ).length = r1.length + 1 := by rw [List.length_map] at hl1; exact hl1.symm
 refine xvpvpr0 (fun dx o14 h16 => ?_) (R.at e14 h14)
 refine xvpvvpppp (fun ob16 o16 es ep d16 k16 z16 m16 => ?_) (R.at e16 h16)
 refine xvp (fun a17 h17 => ?_) (R.isin e17)
 refine xvpvpp (fun ob17 o17 kvs d17 m17 => ?_) (R.at e17 h17)
 refine xvp (fun a21 h21 => ?_) (R.isin e21)
 refine kQ (fun us nn o21 m21 => ?_) (R.at e21 h21)
 refine xvp (fun osys hsys => ?_) (S.cx.sysm)
 have ns16 : dx ≠ sysModules := by rintro rfl; rw [R.fresh _ _ _ e16 rfl h16] at hsys; injection hsys
 have ns17 : a17 ≠ sysModules := R.sys _ _ _ e17 h17
 have hp5 : ∀ o ∈ packK κ, no5O o = true := fun o ho => List.all_eq_true.mp (List.all_eq_true.mp plain5K κ Wx.k) o ho
 let ρt : List Addr := (x0 :: r1) ++ (List.replicate (3 - (zJ κ).length) x0 ++ [a14, dx, a17, a21])
 have hat : ∀ j, (gT ++ ρt)[8 + j]? = [a14, dx, a17, a21][j]? := fun j => by
  rw [show 8 + j = 5 + (3 + j) by omega, yJ]
  show ((x0 :: r1) ++ (List.replicate (3 - (zJ κ).length) x0 ++ [a14, dx, a17, a21]))[3 + j]? = _
  rw [List.getElem?_append_right (by rw [List.length_cons]; omega), List.getElem?_append_right (by rw [List.length_replicate, List.length_cons]; omega)]
  congr 1
  rw [List.length_replicate, List.length_cons]
  omega
 refine ⟨ρt, ?_, by rw [show (5 : Nat) = 5 + 0 from rfl, yJ]; rfl, (hat 0)⟩
 refine small5 (S.down (n := 30) (by omega)) (by rw [(evOsK_at ht).2.1]; decide) ?_ rfl (aJ.yy S.cx (by intro t x h; injection h) (by intro z v h; injection h)) (by intros; contradiction) ?_
 ·refine ObjsD.append ?_ (ObjsD.append (junks_ok _) ?_)
  ·refine ObjsD.of_get (by rw [List.length_cons, ← hL]; exact (List.length_map ..).symm) fun j o e => ?_
   refine xvvpppp (fun a ob' b1 b2 b3 b4 => ?_) (hall j o e)
   have hsw := hp5 o (List.mem_of_getElem? e)
   have key : @pQ (fQ) P w (mQ s [] (gT ++ ρt)) ob' o := by
    have e1 : @pQ (fQ) P w (mQ s [] (gT ++ x0 :: r1)) ob' o := ObjD_swap (X' := mQ s [] (gT ++ x0 :: r1)) hsw hρ1 rfl b3
    refine @pQ.mono (fQ) P w (mQ s [] (gT ++ x0 :: r1)) (mQ s [] (gT ++ ρt)) ⟨fun _ _ h => h, ?_, rfl, rfl, rfl⟩ ob' o e1
    exact (List.prefix_append_right_inj gT).mpr (List.prefix_append _ _)
   cases j with
   | zero =>
    injection b1 with q1; subst q1
    rw [g2] at b2
    injection b2 with q1; subst q1
    have ho0 : o = .inst C0 d0 := by
     have : (packK κ)[0]? = some (wrapO (.inst C0 d0)) := by unfold packK; rw [List.getElem?_map, p3]; rfl
     exact Option.some.inj (e.symm.trans this)
    subst ho0
    exact ⟨x0, rfl, fun _ => ⟨ob, ho, key⟩, (by intros; contradiction), (by intros; contradiction)⟩
   | succ j =>
    refine ⟨a, b1, fun _ => ⟨ob', R.keep _ _ b2, key⟩, fun hmut => ?_, b4⟩
    rw [(evOsK_at ht).1 o (List.mem_append_left _ (List.mem_of_getElem? e))] at hmut
    injection hmut
  ·refine ⟨fun _ => ⟨_, o14, dx, hat 1, rfl⟩, (by intros; contradiction), (by intros; contradiction), fun _ => ⟨ob16, o16, es, ep, d16, k16, ?_, ?_⟩, (by intros; contradiction), fun _ _ => ns16, fun _ => ⟨ob17, o17, kvs, d17, ?_⟩, (by intros; contradiction), fun _ _ => ns17, fun _ => ⟨_, o21, us, nn, rfl, ?_⟩, (by intros; contradiction), (by intros; contradiction), trivial⟩
   ·exact z16
   ·refine ConvM.map m16 ⟨rfl, fun u h => h, rfl, fun u h => @VR.handed τ _ _ _ h, rfl, fun u h => hta ▸ pos_conv h, rfl, fun u h => hta ▸ last_conv h, rfl, fun u h => ?_, rfl, fun u h => @VR.handed τ _ _ _ h, rfl, fun u h => @VR.handed τ _ _ _ h, rfl, fun u h => @VR.handed τ _ _ _ h, rfl, fun u h => @VR.handed τ _ _ _ h, trivial⟩
    revert h; refine aQ fun y hy q1 => ?_; subst q1
    rw [h17] at hy; injection hy with q1; subst q1
    exact ⟨a17, hat 2, rfl⟩
   ·refine ConvM.dr m17 ⟨rfl, fun u h => h, rfl, fun u h => ?_, rfl, fun u h => h, trivial⟩
    revert h; refine aQ fun y hy q1 => ?_; subst q1
    rw [h21] at hy; injection hy with q1; subst q1
    exact ⟨a21, hat 3, rfl⟩
   ·exact two_list m21 (fun u h => h) fun u h => h
 ·intro i j o o' a e _ hmut
  rw [(evOsK_at ht).1 o (List.mem_of_getElem? e)] at hmut
  injection hmut
theorem top_conv {κ : Str × Option Nat} {p z : Int} {v : V} {τ : Tau} {ρ ρ' : List Addr} {u : Value} (h : topK κ (.int p) (.int z) = some v) (hu : @VR fQ ρ v u) : @VR τ ρ' v u := by
 have : ∃ i : Int, v = .int i := by
  unfold topK at h
  refine jZ (κ.2) (fun d hk => ?_) (fun hk => ?_)
  ·rw [hk] at h; injection h with q1; subst q1; exact ⟨_, rfl⟩
  ·
   rw [hk] at h
   dsimp only at h
   refine nJ (eqS κ.1 (sOf "position")) (fun h1 => ?_) (fun h1 => ?_)
   ·rw [h1] at h; injection h with q1; subst q1; exact ⟨_, rfl⟩
   ·
    rw [h1, cond_false] at h
    refine nJ (eqS κ.1 (sOf "last")) (fun h2 => ?_) (fun h2 => ?_)
    ·rw [h2] at h; injection h with q1; subst q1; exact ⟨_, rfl⟩
    ·
     rw [h2, cond_false] at h
     refine nJ (eqS κ.1 (sOf "v")) (fun h3 => ?_) (fun h3 => ?_)
     ·rw [h3] at h; injection h with q1; subst q1; exact ⟨_, rfl⟩
     ·rw [h3] at h; injection h
 revert this; refine xvp fun i q1 => ?_; clear h; subst q1
 exact hu
set_option tactic.hygienic true in
theorem valR_get {r : Res V} {b : Bool} {v : V} (h : valR r = some (b, v)) : (b = true ∧ ∃ j σ, r = .ok (.new j) σ ∧ σ.get j = some (.tup [v, .int 1])) ∨ (b = false ∧ ∃ σ, r = .ok v σ) := by
 unfold valR at h
 split at h
 ·rename_i j σ
  split at h
  ·rename_i v hj
   injection h with q1; injection q1 with q2 q3; subst q2; subst q3
   exact .inl ⟨rfl, j, σ, rfl, hj⟩
  ·injection h
 ·rename_i v σ _
  injection h with q1; injection q1 with q2 q3; subst q2; subst q3
  exact .inr ⟨rfl, σ, rfl⟩
 ·injection h
theorem valK_up {τ : Tau} {X : Wl} {σ : St} {s : Shared} {κ : Str × Option Nat} {p z : Int} {r : Res V} {res : Res V} {l : List Env} {A : Around} {ρ : List Addr} {u0 u1 : Value} {v0 v1 : V} {g : Cx} {Q : Value → Shared → Prop} {E : Value → Shared → Prop} {t : Nat} (ht : (κ, t) ∈ casesA) (hta : askK κ p z = (t : Int)) (R : @Rel τ P w X σ s) (hr : (rcs gq 30).call (.old 967) [v0, v1] (oS (uQ ++ evOsK κ t)) = r) (hev : valR r = some (valEK κ (t : Nat)))
  (S' : @Sit fQ P w gq K gT 30 l A (mQ s [] (gT ++ ρ)) (oS (uQ ++ evOsK κ t)) s) (h0 : @VR fQ (gT ++ ρ) v0 u0) (h1 : @VR fQ (gT ++ ρ) v1 u1) (h : valK κ (.int p) (.int z) σ = some res) (H : @OK τ P w g l X _ _ (@RV τ) Q E res) : wpAny (model P w) A (PySem.call (.ref 967) [u0, u1]) Q E s := by
 have hk : ∀ {Y : Wl} {σ'' : St} {s' : Shared}, (mQ s [] (gT ++ ρ)).Le Y → @Rel (fQ) P w Y σ'' s' → ∀ b o, s.heap.get? b = some o → s'.heap.get? b = some o := fun {Y σ'' s'} hY R' b o e => @mJ P w Y σ'' s s' (fQ) _ _ hY R' b (by nofun) o e
 have htk : topK κ (.int (t : Nat)) (.int (t : Nat)) = topK κ (.int p) (.int z) := by rw [← hta]; exact topK_ask
 unfold valEK at hev
 unfold valK at h
 rw [htk] at hev
 refine oE (topK κ (.int p) (.int z)) (fun t2 => ?_) (fun v' t2 => ?_)
 ·
  rw [t2] at hev h
  refine orE (xpd fun hb => ?_) (xdvp fun σ'' e1 => ?_) (valR_get hev)
  ·injection hb
  ·injection h with q1; subst q1
   refine @tJ P w gq K gT 30 l A σ'' s E (fQ) _ _ _ _ _ (.ref 967) [u0, u1] _ (hr.trans e1) S' rfl ⟨h0, h1, trivial⟩ _ fun Y s' v hY R' hv' => ?_
   refine H X s' v (Wl.Le.refl X) (@Rel.keeps τ P w X σ s s' R (hk hY R') ((@Rel.gens (fQ) _ _ _ _ _ R').trans hY.g) ((@Rel.os (fQ) _ _ _ _ _ R').trans hY.o)) ?_
   have hsc := (evOsK_at ht).2.2 (htk.trans t2)
   exact (@VR_sc τ _ _ _ hsc).mpr ((@VR_sc (fQ) _ _ _ hsc).mp hv')
 ·
  rw [t2] at hev h
  refine orE (xdvvpp fun jj σ'' e1 e3 => ?_) (xpd fun hb => ?_) (valR_get hev)
  ·refine xpp (fun hz q1 => ?_) (pushH_ok h); subst q1
   refine @tJ P w gq K gT 30 l A σ'' s E (fQ) _ _ _ _ _ (.ref 967) [u0, u1] _ (hr.trans e1) S' rfl ⟨h0, h1, trivial⟩ _ fun Y s' vv hY R' hv' => ?_
   revert hv'; refine aQ fun addr ha q1 => ?_; subst q1
   refine kQ (fun us n h1 hu => ?_) (@Rel.at (fQ) P w Y σ'' s' R' jj _ e3 addr ha (fun h => by injection h))
   have hd : @pQ τ P w ((@Wl.up X σ s').add addr) { cls := .type "tuple", dict := none, data := .seq us n, slots := #[] } (.tup [v', .int 1]) :=
    ⟨us, n, rfl, two_list hu (fun u hu => top_conv t2 hu) fun u hu => hu⟩
   refine xppp (fun z1 z2 z3 => ?_) (@up_push P w X σ s s' τ addr _ _ R (hk hY R') ((@Rel.gens (fQ) _ _ _ _ _ R').trans hY.g) ((@Rel.os (fQ) _ _ _ _ _ R').trans hY.o) (Nat.lt_of_lt_of_le hz (by decide)) rfl (by intro z h; cases h) h1 (@tup_notMut P w τ us n) hd)
   exact H _ _ _ z1 z2 ⟨addr, z3, rfl⟩
  ·injection hb
theorem evalK_hook {τ : Tau} {i : Nat} {κ : Str × Option Nat} (W : PredOk P w τ i κ) : @wJ τ P w (gy q ne orc) K gT (evalK i κ) := by
 intro n fv vs u us σ X s A l Q E r h S hf hv H
 revert h; refine iQ fun h1 h => ?_
 revert h; refine oB fun p h2 h => ?_
 revert h; refine iQ fun h3 h => ?_
 revert h; refine oB fun pz h4 h => ?_
 refine iQ (fun h5 h6 => ?_) h
 clear h
 refine iI (fun j h7 h8 => ?_) h3
 have hk := mkK_ok h7
 rw [nE h8] at hk
 rw [twoN_ok h2] at hv
 have hfv := isOld_ok (aL h1)
 subst hfv
 refine xvvppvpr1 (fun u0 a14 q1 q2 h14 => ?_) (two_of' hv); clear hv; subst q1; revert q2; refine aQ fun x0 hx0 q3 => ?_; subst q3
 cases hf
 refine aQ (fun t ht hta => ?_) (mem_casesA W.k h5)
 refine xvppp (fun ρ S' g5 g8 => ?_) (eval_smallK S (nL (aR h1)) W ht hta hk hx0 h14 h4)
 have hev := eJ ev_evalK ht
 exact valK_up ht hta S.rel rfl hev S' ⟨x0, g5, rfl⟩ ⟨a14, g8, rfl⟩ h6 H
end
noncomputable def valF (c : Nat) : Fn := match (fnParts 135).2.1 with
 | .FunctionDef _ ps b _ _ _ sc _ _ _ :: _ => ⟨ps, .stmts b, sc, [(sOf "context", c)], none, sOf "asker.<locals>.value_of"⟩
 | _ => default
noncomputable def keB : List Stmt := (fnParts 115).2.1
noncomputable def keFor : PySem.Expr × PySem.Expr × List Stmt × Pos := forParts (keB.getD 0 default)
theorem keB_eq : keB = [] ++ (.For keFor.1 keFor.2.1 keFor.2.2.1 [] keFor.2.2.2 :: keB.drop 1) := by kernel_rfl
noncomputable def keF : Fr := ⟨18, (fnParts 115).2.2, [], sOf "kept.<locals>.", none⟩
noncomputable def mksL (rr : Nat) : List V := (List.range rr).map fun i => V.new (7 + i)
noncomputable def keCtx : List (Str × V) := [(sOf "tree", .any), (sOf "node", .any), (sOf "position", .any), (sOf "size", .any), (sOf "variables", .new 13), (sOf "names", .new 15), (sOf "calls", .new 16), (sOf "current", .sym [9]), (sOf "ids", .new 17)]
noncomputable def keOs (rr : Nat) : List O := [.tup (mksL rr), .mk [28, 0], bif Nat.blt 1 rr then .mk [28, 1] else .junk, .fn (valF 10), .ro (.cell (some (.new 11))), .inst 1006 12, .ro (.at keCtx), .ro (.dict varK), .tup [.int 2, .int 1], .junk, .junk, .junk]
noncomputable def keNs (i : Nat) (fl : Bool) : List (Str × V) := [(sOf "value_of", .new 9), (sOf "predicates", .any), (sOf "nodes", .new 5)] ++ (bif Nat.blt 0 i then [(sOf "predicate", .any), (sOf "size", .any), (sOf "found", .any)] else []) ++ (bif fl then [(sOf "at", .any), (sOf "node", .any)] else [])
noncomputable def keO (i m : Nat) : O := bif Nat.beq i 0 then .ro (.list (toks0 m)) else .list (toks0 m)
noncomputable def keSt (rr i m : Nat) (fl : Bool) : List O := uQ ++ [keO i m] ++ keOs rr ++ [.ns (keNs i fl), .iter false (.new 6) i]
noncomputable def keDead : List Str := [sOf "predicates", sOf "predicate", sOf "size", sOf "found", sOf "at", sOf "node"]
noncomputable def mkAt (σ : St) (k : Nat) : List (Nat × O) := match σ.get k with
 | some (.mk t) => [(k, .mk t)]
 | _ => []
noncomputable def ovMk (σ : St) : List (Nat × O) := mkAt σ 7 ++ mkAt σ 8
noncomputable def inName (σ : St) (f : Nat) (x : Str) : List Nat := match σ.get f with
 | some (.ns m) => (match look m x with | some (.new h) => [h] | _ => [])
 | _ => []
noncomputable def keG2 (κ : Str × Option Nat) (m : Nat) (σ : St) : Gc := ⟨[0, 1, 2, 3, 4] ++ inName σ 18 (sOf "nodes") ++ [6, 7, 8, 9, 10, 11, 12, 13, 14, 15, 16, 17, 18, 19], tmOf (numAt (selL κ m) 0 ++ [([9], .sym [9])]), keDead, [], [], ovMk σ⟩
noncomputable def keRound (κ : Str × Option Nat) (rr i m : Nat) (fl : Bool) : Option St := match fZ gq keFor.1 (oS (keSt rr i m fl)) 19 with
 | .ok (some x) σ₁ => (match bindT gq keF keFor.1 x σ₁ with
  | some σ₂ => (match (rcsH gq (evalK i κ) 40).exs keF keFor.2.2.1 σ₂ with
    | .ok .next σ₃ => (keG2 κ m σ₃).st σ₃
    | _ => none)
  | none => none)
 | _ => none
noncomputable def keK0 (rr m : Nat) : St := oS (uQ ++ [.ro (.list (toks0 m))] ++ keOs rr ++ [.ns [(sOf "value_of", .new 9), (sOf "predicates", .new 6), (sOf "nodes", .new 5)]])
noncomputable def keG0 (m : Nat) (σ : St) : Gc := ⟨[0, 1, 2, 3, 4, 5, 6, 7, 8, 9, 10, 11, 12, 13, 14, 15, 16, 17, 18, 19], tmOf ((List.range m).map (fun j => ([0, j], V.sym [0, j])) ++ [([9], .sym [9])]), keDead, [], [], ovMk σ⟩
noncomputable def keStart (rr m : Nat) : Option St := match (rcs gq 40).ev keF keFor.2.1 (keK0 rr m) with
 | .ok iv σ₂ => (match iterOf gq σ₂ iv with
  | .ok c σ₃ => bif Nat.beq c 19 then (keG0 m σ₃).st σ₃ else none
  | _ => none)
 | _ => none
noncomputable def keEnd (rr m : Nat) (fl : Bool) : Option (V × Option O × Option O) := match fZ gq keFor.1 (oS (keSt rr rr m fl)) 19 with
 | .ok none σ => take5 ((rcs gq 40).exs keF (keB.drop 1) σ)
 | _ => none
where take5 : Res Fl → Option (V × Option O × Option O)
 | .ok (.ret v) σ => some (v, σ.get 5, σ.get 18)
 | _ => none
noncomputable def evKel (c : (Str × Option Nat) × Nat × Nat × Nat × Bool) : Option St := keRound c.1 c.2.1 c.2.2.1 c.2.2.2.1 c.2.2.2.2
noncomputable def evKer (c : (Str × Option Nat) × Nat × Nat × Nat × Bool) : Option St := some (oS (keSt c.2.1 (c.2.2.1 + 1) (selL c.1 c.2.2.2.1).length (c.2.2.2.2 || Nat.blt 0 c.2.2.2.1)))
theorem evKe1 : (kJ.take 66).map (evKel) = (kJ.take 66).map evKer := by kernel_rfl
theorem evKe2 : ((kJ.drop 66).take 66).map (evKel) = ((kJ.drop 66).take 66).map evKer := by kernel_rfl
theorem evKe3 : (((kJ.drop 66).drop 66).take 66).map (evKel) = (((kJ.drop 66).drop 66).take 66).map evKer := by kernel_rfl
theorem evKe4 : (((kJ.drop 66).drop 66).drop 66).map (evKel) = (((kJ.drop 66).drop 66).drop 66).map evKer := by kernel_rfl
theorem evKe : kJ.map (evKel) = kJ.map evKer := mapHalf 66 evKe1 (mapHalf 66 evKe2 (mapHalf 66 evKe3 evKe4))
noncomputable def keT (nv : Nat → Int) (cu : Int) : List Nat → V
 | [0, j] => .int (nv j)
 | [9] => .int cu
 | _ => .int 0
noncomputable def keMk (P : Program) (w : World) (κs : Nat → Str × Option Nat) (t : List Nat) (B : Heap) (ob : Obj) : Prop := match t with
 | [28, i] => packD P w ((zJ (κs i)).map wrapO) B ob
 | _ => False
set_option tactic.hygienic true in
theorem keMk.mono {P : Program} {w : World} {κs : Nat → Str × Option Nat} {t : List Nat} {B B' : Heap} {ob : Obj} (h : ∀ b o, B.get? b = some o → B'.get? b = some o) (e : keMk P w κs t B ob) : keMk P w κs t B' ob := by
 unfold keMk at e ⊢
 split
 ·exact packD.mono h e
 ·split at e
  ·rename_i q; exact (q _ rfl).elim
  ·exact e
@[reducible] noncomputable def keτ (P : Program) (w : World) (κs : Nat → Str × Option Nat) (nv : Nat → Int) (cu : Int) : Tau := tauOf (keT nv cu) (keMk P w κs) (fun h e => keMk.mono h e)
theorem keτ_mk {P : Program} {w : World} {κs : Nat → Str × Option Nat} {nv : Nat → Int} {cu : Int} (i : Nat) : (keτ P w κs nv cu).mkD [28, i] = packD P w ((zJ (κs i)).map wrapO) := rfl
set_option tactic.hygienic true in
theorem mkAt_ok {τ τ' : Tau} {P : Program} {w : World} (hm : ∀ t B ob, τ.mkD t B ob → τ'.mkD t B ob) {X : Wl} {σ : St} {k : Nat} : OvOk P w τ τ' X σ (mkAt σ k) := by
 intro n o' h
 unfold mkAt at h
 split at h
 ·rename_i t hk
  have h : (if Nat.beq k n then some (O.mk t) else none) = some o' := h
  split at h
  ·rename_i hkn
   injection h with q1; subst q1
   rw [← nE hkn]
   exact ⟨_, hk, .inr (.inr ⟨⟨t, rfl⟩, t, rfl⟩), (fun h => by injection h), fun X' hB ob hob => by
    show τ'.mkD t X'.B ob
    rw [hB]
    exact hm _ _ _ hob⟩
  ·injection h
 ·injection h
theorem ovMk_ok {τ τ' : Tau} {P : Program} {w : World} (hm : ∀ t B ob, τ.mkD t B ob → τ'.mkD t B ob) {X : Wl} {σ : St} : OvOk P w τ τ' X σ (ovMk σ) := by
 intro n o' h
 unfold ovMk at h
 refine orE (fun h => ?_) (fun h => ?_) (@lk_app fQ _ _ _ _ _ h)
 ·exact mkAt_ok hm n o' h
 ·exact mkAt_ok hm n o' h
set_option tactic.hygienic true in
theorem keRound_ok {κ : Str × Option Nat} {rr i m : Nat} {fl : Bool} {σ' : St} (h : keRound κ rr i m fl = some σ') : ∃ x σ₁ σ₂ σ₃, fZ gq keFor.1 (oS (keSt rr i m fl)) 19 = .ok (some x) σ₁ ∧ bindT gq keF keFor.1 x σ₁ = some σ₂ ∧ (rcsH gq (evalK i κ) 40).exs keF keFor.2.2.1 σ₂ = .ok .next σ₃ ∧ (keG2 κ m σ₃).st σ₃ = some σ' := by
 unfold keRound at h
 split at h
 ·rename_i x σ₁ h1
  split at h
  ·rename_i σ₂ h2
   split at h
   ·rename_i σ₃ h4
    exact ⟨x, σ₁, σ₂, σ₃, h1, h2, h4, h⟩
   ·injection h
  ·injection h
 ·injection h
theorem ke_round {P : Program} {w : World} {K : Frag} {κs : Nat → Str × Option Nat} {rr i m : Nat} {fl : Bool} {σ' : St} {nv : Nat → Int} {cu : Int} (h : keRound (κs i) rr i m fl = some σ') (hz : σ'.size = 20) (hk : κs i ∈ lQ) :
  Round P w gq K 40 keF keFor.1 keFor.2.2.1 19 (keτ P w κs nv cu) (keτ P w κs (nextV nv (selL (κs i) m)) cu) (oS (keSt rr i m fl)) σ' := by
 refine xvvvvpppp (fun x σ₁ σ₂ σ₃ h1 h2 h4 h5 => ?_) (keRound_ok h)
 obtain ⟨L, hL⟩ : ∃ L, inName σ₃ 18 (sOf "nodes") = [L] := by
  have hs := (Gc.st_some h5).2.2.1
  rw [hz] at hs
  have he : (keG2 (κs i) m σ₃).e = [0, 1, 2, 3, 4] ++ inName σ₃ 18 (sOf "nodes") ++ [6, 7, 8, 9, 10, 11, 12, 13, 14, 15, 16, 17, 18, 19] := rfl
  rw [he, List.length_append, List.length_append] at hs
  have hs : 20 = 5 + (inName σ₃ 18 (sOf "nodes")).length + 14 := hs
  have h1 : (inName σ₃ 18 (sOf "nodes")).length = 1 := by omega
  match hq : inName σ₃ 18 (sOf "nodes") with
  | [L] => exact ⟨L, rfl⟩
  | [] => rw [hq] at h1; injection h1
  | _ :: _ :: _ => rw [hq] at h1; simp at h1
 have he : (keG2 (κs i) m σ₃).e = [0, 1, 2, 3, 4, L, 6, 7, 8, 9, 10, 11, 12, 13, 14, 15, 16, 17, 18, 19] := by
  show [0, 1, 2, 3, 4] ++ inName σ₃ 18 (sOf "nodes") ++ [6, 7, 8, 9, 10, 11, 12, 13, 14, 15, 16, 17, 18, 19] = _
  rw [hL]; rfl
 have hnd := (Gc.st_some h5).1
 rw [he] at hnd
 have hL18 : Nat.beq L 18 = false := by
  refine qJ (Nat.beq L 18) (fun q => ?_) (fun q => ?_)
  ·rfl
  ·rw [nE q] at hnd; exact absurd hnd (by decide)
 refine ⟨evalK i (κs i), x, σ₁, σ₂, σ₂, σ₃, keG2 (κs i) m σ₃, keG2 (κs i) m σ₃, keτ P w κs nv cu, evalK_hook ⟨hk, keτ_mk i⟩, h1, h2, .inl ⟨rfl, rfl⟩, h4, h5, hZ ?_, fun X => ovMk_ok (τ := keτ P w κs nv cu) (τ' := keτ P w κs (nextV nv (selL (κs i) m)) cu) (fun _ _ _ h => h), ?_, ?_, ?_, ?_⟩
 ·intro p hp ρ u hu
  refine orE (fun hp => ?_) (fun hp => ?_) (List.mem_append.mp hp)
  ·refine aQ (fun j hj q1 => ?_) (numAt_mem _ _ hp); subst q1
   show ScR (V.int (nextV nv (selL (κs i) m) (0 + j))) u
   rw [Nat.zero_add]
   exact hu
  ·simp only [List.mem_cons, List.not_mem_nil, or_false] at hp
   subst hp
   exact hu
 ·rw [he]; rfl
 ·have i18 : idxN (keG2 (κs i) m σ₃).e 18 = some 18 := by
   rw [he]
   show idxN [0, 1, 2, 3, 4, L, 6, 7, 8, 9, 10, 11, 12, 13, 14, 15, 16, 17, 18, 19] 18 = some 18
   simp only [idxN, hL18, cond_false]
   rfl
  unfold Gc.fr
  rw [show keF.loc = 18 from rfl, i18]
  rfl
 ·rw [he]; rfl
 ·rw [he]; show 5 ≤ 20; decide
noncomputable def caseE : List (Nat × Nat × Bool) := [1, 2].flatMap fun rr => (List.range 7).flatMap fun m => [(rr, m, false), (rr, m, true)]
noncomputable def caseS : List (Nat × Nat) := [1, 2].flatMap fun rr => (List.range 7).map fun m => (rr, m)
theorem evKe0 : (caseS.map fun c => keStart c.1 c.2) = caseS.map fun c => some (oS (keSt c.1 0 c.2 false)) := by kernel_rfl
theorem evKeE : (caseE.map fun c => keEnd c.1 c.2.1 c.2.2) = caseE.map fun c => some (.new 5, some (.list (toks0 c.2.1)), some (.ns (keNs c.1 c.2.2))) := by kernel_rfl
noncomputable def keIn (rr m : Nat) : List O := uQ ++ ([.ro (.list (toks0 m))] ++ keOs rr)
theorem ke_call1 (rr m : Nat) (h : rr = 1 ∨ rr = 2) : ∀ r : Rc, call1 gq r (.old 652) [.new 5, .new 6, .new 9] (oS (keIn rr m)) = body1 r keF (.stmts keB) (keK0 rr m) := by
 intro r
 rcases h with rfl | rfl <;> kernel_rfl
theorem evKe_at {κ : Str × Option Nat} {r i m : Nat} {fl : Bool} (h : (κ, r, i, m, fl) ∈ kJ) : keRound κ r i m fl = some (oS (keSt r (i + 1) (selL κ m).length (fl || Nat.blt 0 m))) := by
 have h := eJ evKe h
 unfold evKel evKer at h
 dsimp only at h
 exact h
theorem evKe0_at {r m : Nat} (h : (r, m) ∈ caseS) : keStart r m = some (oS (keSt r 0 m false)) := by
 have h := eJ evKe0 h
 dsimp only at h
 exact h
theorem evKeE_at {r m : Nat} {fl : Bool} (h : (r, m, fl) ∈ caseE) : keEnd r m fl = some (.new 5, some (.list (toks0 m)), some (.ns (keNs r fl))) := by
 have h := eJ evKeE h
 dsimp only at h
 exact h
theorem keSt_size (r i m : Nat) (fl : Bool) : (oS (keSt r i m fl)).size = 20 := sQ (os := keSt r i m fl) (nL rfl)
theorem mem_casesK {κs : Nat → Str × Option Nat} {m rr i : Nat} (hr : rr < 3) (hm : m < 7) (hi : i < rr) (k1 : κs i ∈ lQ) : (κs i, rr, i, mS κs m i, flS κs m i) ∈ kJ := by
 refine List.mem_flatMap.mpr ⟨κs i, k1, ?_⟩
 have hmi : mS κs m i ∈ List.range 7 := List.mem_range.mpr (Nat.lt_of_le_of_lt (mS_le i) hm)
 have hcase : (rr = 1 ∧ i = 0) ∨ (rr = 2 ∧ i = 0) ∨ (rr = 2 ∧ i = 1) := by omega
 rcases hcase with ⟨rfl, rfl⟩ | ⟨rfl, rfl⟩ | ⟨rfl, rfl⟩
 ·exact List.mem_append_left _ (List.mem_flatMap.mpr ⟨_, hmi, .head _⟩)
 ·exact List.mem_append_left _ (List.mem_flatMap.mpr ⟨_, hmi, .tail _ (.head _)⟩)
 ·by_cases hz : m = 0
  ·have h0 : mS κs m 1 = 0 := by
    have := mS_le (κs := κs) (m := m) 1
    omega
   have hf : flS κs m 1 = false := by
    show (false || Nat.blt 0 (mS κs m 0)) = false
    show (false || Nat.blt 0 m) = false
    rw [hz]; rfl
   rw [h0, hf]
   exact List.mem_append_right _ (.head _)
  ·have hf : flS κs m 1 = true := by
    show (false || Nat.blt 0 m) = true
    rw [bI.mpr (by omega)]; rfl
   rw [hf]
   exact List.mem_append_left _ (List.mem_flatMap.mpr ⟨_, hmi, .tail _ (.tail _ (.head _))⟩)
theorem ke_rounds {P : Program} {w : World} {K : Frag} {κs : Nat → Str × Option Nat} {m rr : Nat} {nv : Nat → Int} {cu : Int} (hr : rr < 3) (hm : m < 7) (hk : ∀ i, i < rr → κs i ∈ lQ) :
  ∀ i, i < rr → Round P w gq K 40 keF keFor.1 keFor.2.2.1 19 (keτ P w κs (nvS κs m nv i) cu) (keτ P w κs (nvS κs m nv (i + 1)) cu) (oS (keSt rr i (mS κs m i) (flS κs m i))) (oS (keSt rr (i + 1) (mS κs m (i + 1)) (flS κs m (i + 1)))) :=
 fun i hi => ke_round (evKe_at (mem_casesK hr hm hi (hk i hi))) (keSt_size _ _ _ _) (hk i hi)
set_option tactic.hygienic true in
theorem keEnd_ok {rr m : Nat} {fl : Bool} {v : V} {o o' : Option O} (h : keEnd rr m fl = some (v, o, o')) : ∃ σE σF, fZ gq keFor.1 (oS (keSt rr rr m fl)) 19 = .ok none σE ∧ (rcs gq 40).exs keF (keB.drop 1) σE = .ok (.ret v) σF ∧ σF.get 5 = o ∧ σF.get 18 = o' := by
 unfold keEnd at h
 split at h
 ·rename_i σE h1
  unfold keEnd.take5 at h
  split at h
  ·rename_i v' σF h2
   injection h with q1; injection q1 with q2 q3; subst q2; injection q3 with q4 q5; subst q4; subst q5
   exact ⟨σE, σF, h1, h2, rfl, rfl⟩
  ·injection h
 ·injection h
set_option tactic.hygienic true in
theorem keStart_ok {rr m : Nat} {σ' : St} (h : keStart rr m = some σ') : ∃ iv σ₂ σ₃, (rcs gq 40).ev keF keFor.2.1 (keK0 rr m) = .ok iv σ₂ ∧ iterOf gq σ₂ iv = .ok 19 σ₃ ∧ (keG0 m σ₃).st σ₃ = some σ' := by
 unfold keStart at h
 split at h
 ·rename_i iv σ₂ h2
  split at h
  ·rename_i c σ₃ h3
   refine bE (Nat.beq c 19) (fun hc => ?_) (fun hc => ?_)
   ·rw [hc] at h; injection h
   ·
    rw [hc] at h
    rw [nE hc] at h3
    exact ⟨iv, σ₂, σ₃, h2, h3, h⟩
  ·injection h
 ·injection h
theorem keSet : isSetE keFor.2.1 = false := by kernel_rfl
theorem keG0_fr (m : Nat) (σ : St) : (keG0 m σ).fr keF = some keF := by rfl
theorem ke_body {P : Program} {w : World} {K : Frag} {l : List Env} {A : Around} {X : Wl} {env : Env} {s : Shared} {κs : Nat → Str × Option Nat} {m rr : Nat} {nv : Nat → Int} {cu : Int} (h0 : 0 < rr) (hr : rr < 3) (hm : m < 7) (hk : ∀ i, i < rr → κs i ∈ lQ)
  (S : @Sit (keτ P w κs nv cu) P w gq K gT 41 l A X (keK0 rr m) s) (e : bQ l X keF env) {Q : Flow → Shared → Prop} {E : Value → Shared → Prop}
  (q : ∀ X' s' u σF, Grow X X' → @Rel (keτ P w κs (nvS κs m nv rr) cu) P w X' σF s' → bQ l X' keF env → σF.get 5 = some (.list (toks0 (mS κs m rr))) → σF.get 18 = some (.ns (keNs rr (flS κs m rr))) → @VR (keτ P w κs (nvS κs m nv rr) cu) X'.ρ (.new 5) u → Q (.ret u) s') : wpAny (model P w) A (execs keB env) Q E s := by
 have hrr : rr = 1 ∨ rr = 2 := by omega
 have hmem : rr ∈ [1, 2] := by rcases hrr with rfl | rfl <;> simp
 refine xQ (fun iv σ₂ σ₃ h2 h3 h4 => ?_) (keStart_ok (evKe0_at (r := rr) (m := m) (List.mem_flatMap.mpr ⟨rr, hmem, List.mem_map.mpr ⟨m, List.mem_range.mpr hm, rfl⟩⟩)))
 have hmE : (rr, mS κs m rr, flS κs m rr) ∈ caseE := by
  refine List.mem_flatMap.mpr ⟨rr, hmem, List.mem_flatMap.mpr ⟨mS κs m rr, List.mem_range.mpr (Nat.lt_of_le_of_lt (mS_le rr) hm), ?_⟩⟩
  cases flS κs m rr
  ·exact .head _
  ·exact .tail _ (.head _)
 refine xvvpppp (fun σE σF h5 h6 h7 h8 => ?_) (keEnd_ok (evKeE_at hmE))
 rw [keB_eq]
 refine body_loop (f := keF) (f' := keF) (c := 19) (c' := 19) (G := keG0 m σ₃) (R := rr) (τs := fun i => keτ P w κs (nvS κs m nv i) cu) (σs := fun i => oS (keSt rr i (mS κs m i) (flS κs m i))) rfl gq_re S e (σ₁ := keK0 rr m) rfl keSet h2 h3 h4 (hZ ?_) (fun X => ovMk_ok (τ := keτ P w κs nv cu) (τ' := keτ P w κs nv cu) (fun _ _ _ h => h)) rfl (keG0_fr m σ₃) rfl (by show 5 ≤ 20; decide) (ke_rounds hr hm hk) h5 h6 fun X' s' u J R' e' hv => q X' s' u σF J R' e' h7 h8 hv
 intro p hp ρ u hu
 refine orE (fun hp => ?_) (fun hp => ?_) (List.mem_append.mp hp)
 ·refine xvdp (fun j q1 => ?_) (List.mem_map.mp hp); subst q1
  exact hu
 ·simp only [List.mem_cons, List.not_mem_nil, or_false] at hp
  subst hp
  exact hu
noncomputable def anyM (m : List (Str × V)) : List (Str × V) := m.map fun p => (p.1, V.any)
noncomputable def keOut (κs : Nat → Str × Option Nat) (m rr : Nat) : List O := [.junk, .junk, .junk, .junk, .junk, .junk, .junk, .junk, .junk, .junk, .junk, .junk, .junk, .junk, .junk, .junk, .junk, .junk, .ns (anyM (keNs rr (flS κs m rr))), .list (pickL κs m rr)]
theorem anyM_ok {τ τ' : Tau} {ρ ρ' : List Addr} {m : List (Str × V)} {f : Str → Option Value} (h : @MapR τ ρ m f) : @MapR τ' ρ' (anyM m) f := by
 intro x
 have hl : look (anyM m) x = (look m x).map fun _ => V.any := by
  clear h
  unfold anyM
  induction m with
  | nil => rfl
  | cons p m ih =>
   obtain ⟨k, v⟩ := p
   rw [List.map_cons, look_cons, look_cons]
   refine cZ (eqS k x) (fun q => ?_) (fun q => ?_)
   ·rw [cond_true, cond_true]; rfl
   ·rw [cond_false, cond_false]; exact ih
 rw [hl]
 have := h x
 revert this
 cases look m x with
 | none => cases f x <;> exact id
 | some v => cases f x with
  | none => exact id
  | some u => exact fun hx => @VR.handed τ _ _ _ hx
theorem keK0_ns {rr m k : Nat} {z : List (Str × V)} (h : (keK0 rr m).get k = some (.ns z)) : k = 18 := by
 unfold keK0 at h
 rw [nQ (nL rfl)] at h
 match k with
 | 18 => rfl
 | 0 | 1 | 2 | 3 | 4 | 5 | 6 | 7 | 9 | 10 | 11 | 12 | 13 | 14 | 15 | 16 | 17 => injection h with q1; injection q1
 | 8 =>
  exfalso
  revert h
  show some (bif Nat.blt 1 rr then O.mk [28, 1] else .junk) = _ → False
  cases Nat.blt 1 rr <;> intro h <;> (injection h with q1; injection q1)
 | k + 19 => injection h
theorem ke_call {P : Program} {w : World} {K : Frag} {l : List Env} {A : Around} {X : Wl} {s : Shared} {κs : Nat → Str × Option Nat} {m rr : Nat} {nv : Nat → Int} {cu : Int} (h0 : 0 < rr) (hr : rr < 3) (hm : m < 7) (hk : ∀ i, i < rr → κs i ∈ lQ)
  (S : @Sit (keτ P w κs nv cu) P w gq K gT 42 l A X (oS (keIn rr m)) s) {us : List Value} (hv : @cQ (keτ P w κs nv cu) X.ρ [.new 5, .new 6, .new 9] us) {Q : Value → Shared → Prop} {E : Value → Shared → Prop}
  (q : ∀ Y s' u', X.Le Y → @Rel (keτ P w κs nv cu) P w Y (oS (keOut κs m rr)) s' → @VR (keτ P w κs nv cu) Y.ρ (.new 19) u' → Q u' s') : wpAny (model P w) A (PySem.call (.ref 652) us) Q E s := by
 refine @call_body P w gq K gT 41 keF keB (keK0 rr m) (keτ P w κs nv cu) l A X (oS (keIn rr m)) (oS (keOut κs m rr)) s (.old 652) (.new 19) [.new 5, .new 6, .new 9] (.ref 652) us Q E (ke_call1 rr m (by omega)) ?_ S rfl hv q
 intro X s A l env Q E S e H
 have hlen : X.ρ.length = 19 := (@Rel.len (keτ P w κs nv cu) _ _ _ _ _ (@Sit.rel (keτ P w κs nv cu) _ _ _ _ _ _ _ _ _ _ _ S)).trans (sQ (nL rfl))
 have hfr : ∀ k ∈ X.fr, k = 18 := fun k hk => by
  refine xvp (fun z hz => ?_) (@Rel.frs (keτ P w κs nv cu) _ _ _ _ _ (@Sit.rel (keτ P w κs nv cu) _ _ _ _ _ _ _ _ _ _ _ S) k hk)
  exact keK0_ns hz
 have hloc : X.ρ[18]? = some env.locals := e.loc
 refine ke_body h0 hr hm hk S e fun X' s' u σF J R' e' h5 h18 hu => ?_
 revert hu; refine aQ fun a ha q1 => ?_; subst q1
 have hloc' : X'.ρ[18]? = some env.locals := e'.loc
 have hget : ∀ i, (oS (keOut κs m rr)).get i = (keOut κs m rr)[i]? := fun i => nQ (nL rfl) i
 have live : ∀ {i : Nat} {o : O}, (keOut κs m rr)[i]? = some o → o ≠ .junk → (i = 18 ∧ o = .ns (anyM (keNs rr (flS κs m rr)))) ∨ (i = 19 ∧ o = .list (pickL κs m rr)) := fun {i o} h hj => by
  match i with
  | 18 => injection h with q1; subst q1; exact .inl ⟨rfl, rfl⟩
  | 19 => injection h with q1; subst q1; exact .inr ⟨rfl, rfl⟩
  | 0 | 1 | 2 | 3 | 4 | 5 | 6 | 7 | 8 | 9 | 10 | 11 | 12 | 13 | 14 | 15 | 16 | 17 => injection h with q1; subst q1; exact (hj rfl).elim
  | i + 20 => injection h
 have hρ18 : (X.ρ ++ [a])[18]? = some env.locals := by rw [List.getElem?_append_left (by omega)]; exact hloc
 have hρ19 : (X.ρ ++ [a])[19]? = some a := by rw [List.getElem?_append_right (by omega), hlen]; rfl
 refine aQ (fun obn n1 n2 => ?_) (@Rel.at (keτ P w κs (nvS κs m nv rr) cu) P w X' σF s' R' 18 _ h18 _ hloc' (fun h => by injection h))
 refine kQ (fun us' nn l1 l2 => ?_) (@Rel.at (keτ P w κs (nvS κs m nv rr) cu) P w X' σF s' R' 5 _ h5 _ ha (fun h => by injection h))
 have fl18 := @Rel.fresh (keτ P w κs (nvS κs m nv rr) cu) P w X' σF s' R' 18 _ _ h18 rfl hloc'
 have fl19 := @Rel.fresh (keτ P w κs (nvS κs m nv rr) cu) P w X' σF s' R' 5 _ _ h5 rfl ha
 have hne : a ≠ env.locals := fun z => by
  subst z
  have := @Rel.nodup (keτ P w κs (nvS κs m nv rr) cu) P w X' σF s' R' 18 5 _ _ _ h18 h5 rfl (fun h => by injection h) hloc' ha
  omega
 refine H ⟨X'.B, X.ρ ++ [a], X.fr, X.gens, X.os⟩ s' (.ret (.ref a)) ⟨J.b, List.prefix_append _ _, rfl, rfl, rfl⟩ ?_ ⟨.ref a, rfl, a, hρ19, rfl⟩
 refine @Rel.mk (keτ P w κs nv cu) P w _ _ s' (@Rel.keep (keτ P w κs (nvS κs m nv rr) cu) P w X' σF s' R') ?_ ?_ ?_ ?_ ?_ ?_ ?_ ((@Rel.gens (keτ P w κs (nvS κs m nv rr) cu) P w X' σF s' R').trans J.g) ((@Rel.os (keτ P w κs (nvS κs m nv rr) cu) P w X' σF s' R').trans J.o) ?_
 ·intro i o b ei hmut hb
  rw [hget] at ei
  rcases live ei (@O.mut_ne fQ _ hmut) with ⟨rfl, rfl⟩ | ⟨rfl, rfl⟩
  ·rw [show (X.ρ ++ [a])[18]? = some env.locals from hρ18] at hb; injection hb with q1; subst q1
   exact fl18
  ·rw [show (X.ρ ++ [a])[19]? = some a from hρ19] at hb; injection hb with q1; subst q1
   exact fl19
 ·intro i j o o' b ei ej hmut hj hbi hbj
  rw [hget] at ei ej
  rcases live ei (@O.mut_ne fQ _ hmut) with ⟨rfl, rfl⟩ | ⟨rfl, rfl⟩
  ·rcases live ej hj with ⟨rfl, rfl⟩ | ⟨rfl, rfl⟩
   ·rfl
   ·rw [show (X.ρ ++ [a])[18]? = some env.locals from hρ18] at hbi; injection hbi with q1; subst q1
    rw [show (X.ρ ++ [a])[19]? = some a from hρ19] at hbj; injection hbj with q1; subst q1
    exact (hne rfl).elim
  ·rcases live ej hj with ⟨rfl, rfl⟩ | ⟨rfl, rfl⟩
   ·rw [show (X.ρ ++ [a])[18]? = some env.locals from hρ18] at hbj; injection hbj with q1; subst q1
    rw [show (X.ρ ++ [a])[19]? = some a from hρ19] at hbi; injection hbi with q1; subst q1
    exact (hne rfl).elim
   ·rfl
 ·show (X.ρ ++ [a]).length = _
  rw [List.length_append, hlen, sQ (nL rfl)]; rfl
 ·rw [sQ (nL rfl)]; show 20 ≤ 4096; decide
 ·intro i o ei hj
  rw [hget] at ei
  rcases live ei hj with ⟨rfl, rfl⟩ | ⟨rfl, rfl⟩
  ·refine ⟨env.locals, obn, hρ18, n1, ?_⟩
   revert n2; refine oQ fun es ep d1 d2 d3 => ?_
   exact ⟨es, ep, d1, d2, anyM_ok d3⟩
  ·refine ⟨a, _, hρ19, l1, us', nn, rfl, ?_⟩
   refine picks_all (τ := keτ P w κs (nvS κs m nv rr) cu) (ρ := X'.ρ) (f := fun j => V.sym [0, j]) (h := fun j => V.sym [0, pickS κs m rr j]) (fun j u hu => ?_) (List.range (mS κs m rr)) l2
   have hu : ScR (V.int (nvS κs m nv rr j)) u := hu
   rw [nvS_pick] at hu
   exact hu
 ·intro i hi
  rw [hget]
  rw [sQ (nL rfl)] at hi
  rw [List.getElem?_eq_getElem hi]; rfl
 ·intro k hk
  rw [hfr k hk]
  exact ⟨_, hget 18⟩
 ·intro i z b ei hb
  rw [hget] at ei
  rcases live ei (fun h => by injection h) with ⟨rfl, h⟩ | ⟨rfl, h⟩
  ·injection h
  ·injection h
noncomputable def posB (p q : Pos) : Bool := Nat.beq p.line q.line && (Nat.beq p.col q.col && (Nat.beq p.endLine q.endLine && Nat.beq p.endCol q.endCol))
theorem posB_ok {p q : Pos} (h : posB p q = true) : p = q := by
 have h1 := nE (aL h)
 have h2 := nE (aL (aR h))
 have h3 := nE (aL (aR (aR h)))
 have h4 := nE (aR (aR (aR h)))
 cases p; cases q
 subst h1; subst h2; subst h3; subst h4
 rfl
noncomputable def nmB (a b : PySem.Expr) : Bool := sJ (nameI a) fun x => sJ (nameI b) fun y => eqS x.1 y.1 && posB x.2 y.2
theorem nmB_ok {a b : PySem.Expr} (h : nmB a b = true) : a = b := by
 refine iI (fun x h1 h2 => ?_) h
 refine iI (fun y h3 h4 => ?_) h2
 rw [nameI_ok h1, nameI_ok h3, eI.mp (aL h4), posB_ok (aR h4)]
noncomputable def allB {α : Type} (f : α → α → Bool) : List α → List α → Bool
 | [], [] => true
 | a :: l, b :: r => f a b && allB f l r
 | [], _ :: _ => false
 | _ :: _, [] => false
theorem allB_ok {α : Type} {f : α → α → Bool} (hf : ∀ {a b}, f a b = true → a = b) {a : List α} : ∀ {b : List α}, allB f a b = true → a = b := by
 induction a with
 | nil =>
  intro r h
  cases r with
  | nil => rfl
  | cons => exact Bool.noConfusion h
 | cons x l ih =>
  intro r h
  cases r with
  | nil => exact Bool.noConfusion h
  | cons y r => exact congr (congrArg List.cons (hf (aL h))) (ih (aR h))
noncomputable def stmtsI (b : FuncBody) : Option (List Stmt) := match b with
 | .stmts l => some l
 | .expr _ => none
theorem stmtsI_ok {b : FuncBody} {l : List Stmt} (h : stmtsI b = some l) : b = .stmts l := by cases b <;> first | exact nos h | ((injection h with q1; subst q1); rfl)
noncomputable def retI (s : Stmt) : Option (PySem.Expr × Pos) := match s with
 | .Return e p => e.bind fun e => some (e, p)
 | _ => none
theorem retI_ok {s : Stmt} {q : PySem.Expr × Pos} (h : retI s = some q) : s = .Return (some q.1) q.2 := by
 cases s with
 | Return e p =>
  refine oB (fun x q1 h2 => ?_) h; subst q1
  injection h2 with q1; subst q1
  rfl
 | _ => exact nos h
structure Dec where
 r : PySem.Expr × Pos
 c : PySem.Expr × List PySem.Expr × Pos
 a : PySem.Expr × PySem.Expr
 k : PySem.Expr × List PySem.Expr × Pos
 t : PySem.Expr × Str × Pos
noncomputable def decI (b : FuncBody) : Option Dec := (stmtsI b).bind fun l => (oneI l).bind fun s => (retI s).bind fun r => (callI r.1).bind fun c => (twoI c.2.1).bind fun a => (callI a.2).bind fun k => (attrI k.1).bind fun t => some ⟨r, c, a, k, t⟩
noncomputable def decB (d : Dec) : FuncBody := .stmts [.Return (some (.Call d.c.1 [d.a.1, .Call (.Attribute d.t.1 d.t.2.1 d.t.2.2) d.k.2.1 [] d.k.2.2] [] d.c.2.2)) d.r.2]
theorem decI_ok {b : FuncBody} {d : Dec} (h : decI b = some d) : b = decB d := by
 revert h; refine oB fun l h1 h => ?_
 revert h; refine oB fun s h2 h => ?_
 revert h; refine oB fun r h3 h => ?_
 revert h; refine oB fun c h4 h => ?_
 revert h; refine oB fun a h5 h => ?_
 revert h; refine oB fun k h6 h => ?_
 revert h; refine oB fun t h7 h => ?_
 injection h with q1; subst q1
 unfold decB
 rw [stmtsI_ok h1, vJ h2, retI_ok h3, callI_ok h4, twoI_ok h5, callI_ok h6, attrI_ok h7]
noncomputable def decE (d e : Dec) : Bool := nmB d.c.1 e.c.1 && (nmB d.a.1 e.a.1 && (nmB d.t.1 e.t.1 && (eqS d.t.2.1 e.t.2.1 && (posB d.t.2.2 e.t.2.2 && (allB nmB d.k.2.1 e.k.2.1 && (posB d.k.2.2 e.k.2.2 && (posB d.c.2.2 e.c.2.2 && posB d.r.2 e.r.2)))))))
theorem decE_ok {d e : Dec} (h : decE d e = true) : decB d = decB e := by
 unfold decE at h
 simp only [Bool.and_eq_true] at h
 obtain ⟨h1, h2, h3, h4, h5, h6, h7, h8, h9⟩ := h
 unfold decB
 rw [nmB_ok h1, nmB_ok h2, nmB_ok h3, eI.mp h4, posB_ok h5, allB_ok nmB_ok h6, posB_ok h7, posB_ok h8, posB_ok h9]
noncomputable def bodyB (a b : FuncBody) : Bool := sJ (decI a) fun d => sJ (decI b) fun e => decE d e
theorem bodyB_ok {a b : FuncBody} (h : bodyB a b = true) : a = b := by
 refine iI (fun d h1 h2 => ?_) h
 refine iI (fun e h3 h4 => ?_) h2
 rw [decI_ok h1, decI_ok h3, decE_ok h4]
noncomputable def arg1 (a b : Arg) : Bool := match a with
 | ⟨x, t, p⟩ => (match b with
  | ⟨y, u, q⟩ => noB t && (noB u && (eqS x y && posB p q)))
theorem arg1_ok {a b : Arg} (h : arg1 a b = true) : a = b := by
 obtain ⟨x, t, p⟩ := a
 obtain ⟨y, u, q⟩ := b
 rw [noB_ok (aL h), noB_ok (aL (aR h)), eI.mp (aL (aR (aR h))), posB_ok (aR (aR (aR h)))]
noncomputable def argsI (a : Arguments) : Option (List Arg) := match a with
 | ⟨po, as, va, ko, kd, kw, df⟩ => bif nilB po && (noB va && (nilB ko && (nilB kd && (noB kw && nilB df)))) then some as else none
theorem argsI_ok {a : Arguments} {as : List Arg} (h : argsI a = some as) : a = ⟨[], as, none, [], [], none, []⟩ := by
 obtain ⟨po, as', va, ko, kd, kw, df⟩ := a
 refine iF (fun h1 q1 => ?_) h; clear h; subst q1
 rw [yQ (aL h1), noB_ok (aL (aR h1)), yQ (aL (aR (aR h1))), yQ (aL (aR (aR (aR h1)))), noB_ok (aL (aR (aR (aR (aR h1))))), yQ (aR (aR (aR (aR (aR h1)))))]
noncomputable def argsB (a b : Arguments) : Bool := sJ (argsI a) fun x => sJ (argsI b) fun y => allB arg1 x y
theorem argsB_ok {a b : Arguments} (h : argsB a b = true) : a = b := by
 refine iI (fun x h1 h2 => ?_) h
 refine iI (fun y h3 h4 => ?_) h2
 rw [argsI_ok h1, argsI_ok h3, allB_ok arg1_ok h4]
noncomputable def kd1 (a b : Str × NameKind) : Bool := eqS a.1 b.1 && decide (a.2 = b.2)
theorem kd1_ok {a b : Str × NameKind} (h : kd1 a b = true) : a = b := by
 obtain ⟨x, k⟩ := a
 obtain ⟨y, j⟩ := b
 exact congr (congrArg Prod.mk (eI.mp (aL h))) (of_decide_eq_true (aR h))
noncomputable def scB (a b : Scope) : Bool := decide (a.kind = b.kind) && (allB kd1 a.names b.names && (a.isGenerator == b.isGenerator && (a.isCoroutine == b.isCoroutine && (nilB a.more && nilB b.more))))
theorem scB_ok {a b : Scope} (h : scB a b = true) : a = b := by
 have h1 := of_decide_eq_true (aL h)
 have h2 := allB_ok kd1_ok (aL (aR h))
 have h3 := eq_of_beq (aL (aR (aR h)))
 have h4 := eq_of_beq (aL (aR (aR (aR h))))
 have h5 := yQ (aL (aR (aR (aR (aR h)))))
 have h6 := yQ (aR (aR (aR (aR (aR h)))))
 cases a; cases b
 subst h1; subst h2; subst h3; subst h4; subst h5; subst h6
 rfl
noncomputable def valB (F : Fn) : Option Nat := (oneI F.cl).bind fun p => bif eqS p.1 (sOf "context") && (argsB F.params (valF 0).params && (bodyB F.body (valF 0).body && (scB F.scope (valF 0).scope && (eqS F.qual (sOf "asker.<locals>.value_of") && noB F.tab)))) then some p.2 else none
theorem valF_eq (c : Nat) : valF c = ⟨(valF 0).params, (valF 0).body, (valF 0).scope, [(sOf "context", c)], none, sOf "asker.<locals>.value_of"⟩ := by kernel_rfl
theorem valB_ok {F : Fn} {c : Nat} (h : valB F = some c) : F = valF c := by
 revert h; refine oB fun p h0 h => ?_
 refine iF (fun h1 q1 => ?_) h; clear h; subst q1
 simp only [Bool.and_eq_true] at h1
 revert h1; refine xpppppp fun h1 h2 h3 h4 h5 h6 => ?_
 have e0 := vJ h0
 have e2 := argsB_ok h2
 have e3 := bodyB_ok h3
 have e4 := scB_ok h4
 have e5 := eI.mp h5
 have e6 := noB_ok h6
 rw [valF_eq, ← e2, ← e3, ← e4, ← eI.mp h1]
 obtain ⟨a, b, sc, cl, tb, q⟩ := F
 subst e0; subst e5; subst e6
 rfl
theorem valB_is : valB (valF 7) = some 7 := by kernel_rfl
noncomputable def ctxC (v1 p z : V) (v a b : Nat) (cu : V) (e : Nat) : List (Str × V) := [(sOf "tree", .any), (sOf "node", v1), (sOf "position", p), (sOf "size", z), (sOf "variables", .new v), (sOf "names", .new a), (sOf "calls", .new b), (sOf "current", cu), (sOf "ids", .new e)]
noncomputable def varC (k t : Nat) : List (Str × V) := [(sOf "s", .new k), (sOf "v", .new t), (sOf "w", .str (sOf "t"))]
noncomputable def curB (v : V) : Bool := match v with
 | .int _ => true
 | v => sJ (symI 25 v) fun _ => true
noncomputable def ctxV (σ : St) (c : Nat) : Option V := (cellI (σ.get c)).bind fun cx => (instI 1006 (σ.get cx)).bind fun d => (atI (σ.get d)).bind fun m => (valAt m 1).bind fun v1 => (valAt m 2).bind fun p => (valAt m 3).bind fun z => (newAt m 4).bind fun v => (newAt m 5).bind fun a => (newAt m 6).bind fun b => (valAt m 7).bind fun cu => (newAt m 8).bind fun e =>
 bif mEq m (ctxC v1 p z v a b cu e) && curB cu then (dictI (σ.get v)).bind fun mv => (newAt mv 0).bind fun k => (newAt mv 1).bind fun t => bif mEq mv (varC k t) && isTup [.int 2, .int 1] (σ.get t) then some cu else none else none
structure CtxV (σ : St) (c : Nat) (cu : V) (cx d : Nat) (v1 p z : V) (v a b e k t : Nat) : Prop where
 c : σ.get c = some (.cell (some (.new cx)))
 cx : σ.get cx = some (.inst 1006 d)
 d : σ.get d = some (.at (ctxC v1 p z v a b cu e))
 cu : curB cu = true
 v : σ.get v = some (.dict (varC k t))
 t : σ.get t = some (.tup [.int 2, .int 1])
theorem ctxV_ok {σ : St} {c : Nat} {cu : V} (h : ctxV σ c = some cu) {G : Prop} (q : ∀ cx d v1 p z v a b e k t, CtxV σ c cu cx d v1 p z v a b e k t → G) : G := by
 revert h; refine oB fun cx g1 h => ?_
 revert h; refine oB fun d g2 h => ?_
 revert h; refine oB fun m g3 h => ?_
 revert h; refine oB fun v1 _ h => ?_
 revert h; refine oB fun p _ h => ?_
 revert h; refine oB fun z _ h => ?_
 revert h; refine oB fun v _ h => ?_
 revert h; refine oB fun a _ h => ?_
 revert h; refine oB fun b _ h => ?_
 revert h; refine oB fun cu' _ h => ?_
 revert h; refine oB fun e _ h => ?_
 revert h; refine iQ fun g4 h => ?_
 revert h; refine oB fun mv g5 h => ?_
 revert h; refine oB fun k _ h => ?_
 revert h; refine oB fun t _ h => ?_
 refine iF (fun g6 hc => ?_) h
 clear h; subst hc
 exact q cx d v1 p z v a b e k t ⟨cellI_ok g1, instI_ok g2, mEq_ok (aL g4) ▸ atI_ok g3, aR g4, mEq_ok (aL g6) ▸ dictI_ok g5, isTup_ok (aR g6)⟩
noncomputable def mksB (σ : St) : Nat → Nat → List V → Bool
 | _, 0, [] => true
 | i, rr + 1, v :: l => sJ (newI v) (fun p => sJ (mkK 28 (σ.get p)) fun j => Nat.beq j i) && mksB σ (i + 1) rr l
 | _, 0, _ :: _ => false
 | _, _ + 1, [] => false
noncomputable def keptP (L : List Nat) (m rr : Nat) : Hook := fun n fv vs σ => bif isOld 652 fv && (Nat.ble 45 n && Nat.blt 0 rr) then (threeN vs).bind fun p => (listI (σ.get p.1)).bind fun xs => (tupI (σ.get p.2.1)).bind fun ps => (fnI (σ.get p.2.2)).bind fun F => bif Nat.beq xs.length m && (symsB xs && mksB σ 0 rr ps) then (valB F).bind fun c => (ctxV σ c).bind fun _ => pushH σ (.ro (.list (L.map fun j => xs.getD j .any))) else none else none
structure KeptOk (P : Program) (w : World) (τ : Tau) (κs : Nat → Str × Option Nat) (rr : Nat) : Prop where
 v : ∀ p, ∃ i, τ.tau [25, p] = .int i
 k : ∀ i, i < rr → κs i ∈ lQ
 p : ∀ i, i < rr → τ.mkD [28, i] = packD P w ((zJ (κs i)).map wrapO)
theorem cur_conv {τ τ' : Tau} (hv : ∀ p, ∃ i, τ.tau [25, p] = .int i) {cu : V} (hc : curB cu = true) (h9 : τ'.tau [9] = .int (dQ (@dn τ cu))) {ρ ρ' : List Addr} {u : Value} (h : @VR τ ρ cu u) : @VR τ' ρ' (.sym [9]) u := by
 cases cu with
 | int i => exact (cJ h9).mpr h
 | sym t =>
  refine iI (fun p h1 _ => ?_) hc
  have e0 : t = [25, p] := symT_ok h1
  subst e0
  refine xvp (fun i hi => ?_) (hv p)
  have e : @dn τ (.sym [25, p]) = .int i := hi
  rw [e] at h9
  exact (cJ h9).mpr ((cJ hi).mp h)
 | _ => exact Bool.noConfusion hc
theorem mksB_ok {σ : St} {rr : Nat} : ∀ {i : Nat} {ps : List V}, mksB σ i rr ps = true → ps.length = rr ∧ ∀ j, j < rr → ∃ p, ps[j]? = some (.new p) ∧ σ.get p = some (.mk [28, i + j]) := by
 induction rr with
 | zero =>
  intro i ps h
  cases ps with
  | nil => exact ⟨rfl, fun j hj => (Nat.not_lt_zero j hj).elim⟩
  | cons => exact Bool.noConfusion h
 | succ rr ih =>
  intro i ps h
  cases ps with
  | nil => exact Bool.noConfusion h
  | cons v l =>
   refine iI (fun p h1 h2 => ?_) (aL h)
   refine iI (fun j0 h3 h4 => ?_) h2
   refine xpp (fun e1 e2 => ?_) (ih (aR h))
   refine ⟨congrArg (· + 1) e1, fun j hj => ?_⟩
   cases j with
   | zero => exact ⟨p, congrArg some (iZ h1), by rw [mkK_ok h3, nE h4]; rfl⟩
   | succ j =>
    refine aQ (fun p' h5 h6 => ?_) (e2 j (Nat.lt_of_succ_lt_succ hj))
    exact ⟨p', h5, by rw [h6, show i + 1 + j = i + (j + 1) by omega]⟩
theorem news_all {τ τ' : Tau} {ρ ρ' : List Addr} {ps qs : List V} {us : List Value} (hl : ps.length = qs.length) (h : ∀ (j p : Nat) (a : Addr), ps[j]? = some (V.new p) → ρ[p]? = some a → ∃ q, qs[j]? = some (V.new q) ∧ ρ'[q]? = some a) (hp : ∀ j : Nat, j < ps.length → ∃ p, ps[j]? = some (V.new p)) (a : @cQ τ ρ ps us) : @cQ τ' ρ' qs us := by
 refine @cQ.ind τ ρ (fun ps us => ∀ qs : List V, ps.length = qs.length → (∀ (j p : Nat) (a : Addr), ps[j]? = some (V.new p) → ρ[p]? = some a → ∃ q, qs[j]? = some (V.new q) ∧ ρ'[q]? = some a) → (∀ j : Nat, j < ps.length → ∃ p, ps[j]? = some (V.new p)) → @cQ τ' ρ' qs us) ?_ ?_ ps us a qs hl h hp
 ·intro qs hl _ _
  rw [List.eq_nil_of_length_eq_zero hl.symm]
  trivial
 ·intro v ps u us e _ ih qs hl h hp
  refine xvp (fun p hp0 => ?_) (hp 0 (Nat.succ_pos _))
  injection hp0 with q1; subst q1
  revert e; refine aQ fun a ha q1 => ?_; subst q1
  refine aQ (fun q hq hqa => ?_) (h 0 p a rfl ha)
  cases qs with
  | nil => injection hq
  | cons x qs =>
   injection hq with q1; subst q1
   exact ⟨⟨a, hqa, rfl⟩, ih qs (Nat.succ.inj hl) (fun j => h (j + 1)) fun j hj => hp (j + 1) (Nat.succ_lt_succ hj)⟩
theorem fn_conv {P : Program} {w : World} {τ τ' : Tau} {X X' : Wl} {ob : Obj} {c c' : Nat} {a : Addr} (hB : X.B.StaysIn X'.B) (ha : X.ρ[c]? = some a) (ha' : X'.ρ[c']? = some a) (h : @pQ τ P w X ob (.fn (valF c))) : @pQ τ' P w X' ob (.fn (valF c')) := by
 rw [valF_eq] at h ⊢
 revert h; refine xppvpp fun h1 h2 fd h3 h4 => ?_
 refine ⟨h1, h2, fd, h3, h4.params, h4.body, h4.scope, h4.qual, h4.globals, h4.builtins, h4.dflt, h4.kwd, ?_, jJ hB h4.code, by intro t ht; injection ht⟩
 have hc := h4.cells
 revert hc
 show fJ X.ρ [(sOf "context", c)] fd.closure → fJ X'.ρ [(sOf "context", c')] fd.closure
 cases fd.closure with
 | nil => exact id
 | cons p l =>
  obtain ⟨y, b⟩ := p
  rintro ⟨e1, e2, e3⟩
  rw [ha] at e2; injection e2 with q1; subst q1
  exact ⟨e1, ha', by cases l with
   | nil => trivial
   | cons => exact e3.elim⟩
section
variable {P : Program} {w : World} {K : Frag} {q : Bool} {ne : List Nat → Str → Bool} {orc : Qn → Option V}
theorem newAtK {τ : Tau} {ρ : List Addr} {m : List (Str × V)} {f : Str → Option Value} (h : @MapR τ ρ m f) {x : Str} {a : Nat} (e : look m x = some (.new a)) : ∃ aa, ρ[a]? = some aa := by
 have := h x
 rw [e] at this
 exact this.some'.elim fun _ h => h.2.imp fun _ h => h.1
theorem kept_small {τ : Tau} {κs : Nat → Str × Option Nat} {m rr : Nat} {n : Nat} {l : List Env} {A : Around} {X : Wl} {σ : St} {s : Shared} {k t v c : Nat} {xs ps : List V} {cu : V} {ak at' av : Addr} (W : KeptOk P w τ κs rr) (h0 : 0 < rr) (hr : rr < 3) (hm : m < 7) (S : @Sit τ P w (gy q ne orc) K gT (n + 1) l A X σ s) (hn : 45 ≤ n)
  (hk : σ.get k = some (.list xs)) (ht : σ.get t = some (.tup ps)) (hv : σ.get v = some (.fn (valF c))) (hak : X.ρ[k]? = some ak) (hat : X.ρ[t]? = some at') (hav : X.ρ[v]? = some av) (hl : xs.length = m) (hs : symsB xs = true) (hps : mksB σ 0 rr ps = true) (hcx : ctxV σ c = some cu) :
  ∃ ρ, @Sit (keτ P w κs (fun j => dQ (@dn τ (xs.getD j .any))) (dQ (@dn τ cu))) P w gq K gT 42 l A (mQ s [] (gT ++ ρ)) (oS (keIn rr m)) s ∧ (gT ++ ρ)[5]? = some ak ∧ (gT ++ ρ)[6]? = some at' ∧ (gT ++ ρ)[9]? = some av := by
 have R := S.rel
 refine ctxV_ok hcx fun cx d v1 p z vv a b e kk tt ⟨g1, g2, g3, g4, g5, g6⟩ => ?_
 refine kQ (fun usk nk ok huk => ?_) (R.at hk hak)
 refine kQ (fun ust nt ot hut => ?_) (R.at ht hat)
 refine aQ (fun obv ov hfv => ?_) (R.at hv hav)
 refine xvp (fun ac hac => ?_) (R.isin g1)
 refine xvp (fun acx hacx => ?_) (R.isin g2)
 refine xvp (fun ad had => ?_) (R.isin g3)
 refine xvp (fun avv havv => ?_) (R.isin g5)
 refine xvp (fun att hatt => ?_) (R.isin g6)
 refine xvpvpp (fun obc oc uc hc1 hc2 => ?_) (R.at g1 hac)
 refine xvpvpr0 (fun dx ocx hdx => ?_) (R.at g2 hacx)
 rw [had] at hdx; injection hdx with q1; subst q1
 refine xvpvvpppp (fun obd od es ep hd1 hd2 hd3 hd4 => ?_) (R.at g3 had)
 refine xvpvpp (fun obvv ovv kvs hvv1 hvv2 => ?_) (R.at g5 havv)
 refine kQ (fun ustt ntt ott htt2 => ?_) (R.at g6 hatt)
 refine xvp (fun osys hsys => ?_) (S.cx.sysm)
 have nsy : ∀ {i : Nat} {o : O} {x : Addr}, σ.get i = some o → o.mut = true → X.ρ[i]? = some x → x ≠ sysModules := fun {i o x} h1 h2 h3 => by rintro rfl; rw [R.fresh _ _ _ h1 h2 h3] at hsys; injection hsys
 refine aQ (fun uc' q1 hucx => ?_) (hc2.some'); subst q1
 revert hucx; refine aQ fun acx' hacx' q1 => ?_; subst q1
 rw [hacx] at hacx'; injection hacx' with q1; subst q1
 have hX : X.B.StaysIn s.heap := R.keep
 have hna := newAtK hd4 (show look (ctxC v1 p z vv a b cu e) (sOf "names") = some (.new a) from by kernel_rfl)
 have hnb := newAtK hd4 (show look (ctxC v1 p z vv a b cu e) (sOf "calls") = some (.new b) from by kernel_rfl)
 have hne' := newAtK hd4 (show look (ctxC v1 p z vv a b cu e) (sOf "ids") = some (.new e) from by kernel_rfl)
 revert hna; refine xvp fun aa haa => ?_
 revert hnb; refine xvp fun ab hab => ?_
 revert hne'; refine xvp fun ae hae => ?_
 refine xpp (fun hpl hpp => ?_) (mksB_ok hps)
 refine aQ (fun p0 hp0 hq0 => ?_) (hpp 0 h0)
 refine xvp (fun a0 ha0 => ?_) (R.isin hq0)
 obtain ⟨a1, ha1⟩ : ∃ a1, ∀ p1, ps[1]? = some (.new p1) → X.ρ[p1]? = some a1 := by
  by_cases h1 : 1 < rr
  ·refine aQ (fun p1 hp1 hq1 => ?_) (hpp 1 h1)
   refine xvp (fun a1 ha1 => ?_) (R.isin hq1)
   exact ⟨a1, fun p1' h => by rw [hp1] at h; injection h with q1; injection q1 with q2; subst q2; exact ha1⟩
  ·exact ⟨ak, fun p1 h => by have := (List.getElem?_eq_some_iff.mp h).1; omega⟩
 have mkat : ∀ i, i < rr → ∀ (x : Addr), (∀ p, ps[i]? = some (.new p) → X.ρ[p]? = some x) → ∀ ρ' : List Addr, ∃ ob, s.heap.get? x = some ob ∧ @pQ (keτ P w κs (fun j => dQ (@dn τ (xs.getD j .any))) (dQ (@dn τ cu))) P w (mQ s [] ρ') ob (.mk [28, i]) := fun i hi x hx ρ' => by
  refine aQ (fun p hp hq => ?_) (hpp i hi)
  rw [Nat.zero_add] at hq
  refine aQ (fun ob h1 h2 => ?_) (R.at hq (hx p hp))
  have h2 : τ.mkD [28, i] X.B ob := h2
  rw [W.p i hi] at h2
  exact ⟨ob, h1, packD.mono (fun b o e => hideAll_get _ (hX b o e) (by nofun)) h2⟩
 let ρt : List Addr := [ak, at', a0, a1, av, ac, acx, ad, avv, att, aa, ab, ae]
 refine ⟨ρt, ?_, rfl, rfl, rfl⟩
 refine small5 (S.down (n := 42) (by omega)) (by show 13 ≤ 3000; decide) ⟨fun _ => ⟨_, ok, usk, nk, rfl, ?_⟩, (by intros; contradiction), fun _ _ => nsy hk rfl hak, fun _ => ⟨_, ot, ust, nt, rfl, ?_⟩, (by intros; contradiction), (by intros; contradiction), fun _ => mkat 0 h0 a0 (fun p h => by rw [hp0] at h; injection h with q1; injection q1 with q2; subst q2; exact ha0) _, (by intros; contradiction), (by intros; contradiction), ?_, ?_, ?_, fun _ => ⟨obv, ov, ?_⟩, (by intros; contradiction), (by intros; contradiction),
  fun _ => ⟨obc, oc, _, hc1, ⟨acx, rfl, rfl⟩⟩, (by intros; contradiction), fun _ _ => nsy g1 rfl hac, fun _ => ⟨_, ocx, ad, rfl, rfl⟩, (by intros; contradiction), (by intros; contradiction), fun _ => ⟨obd, od, es, ep, hd1, hd2, hd3, ?_⟩, (by intros; contradiction), fun _ _ => nsy g3 rfl had, fun _ => ⟨obvv, ovv, kvs, hvv1, ?_⟩, (by intros; contradiction), fun _ _ => nsy g5 rfl havv, fun _ => ⟨_, ott, ustt, ntt, rfl, ?_⟩, (by intros; contradiction), (by intros; contradiction), fun h => (h rfl).elim, (by intros; contradiction), (by intros; contradiction), fun h => (h rfl).elim, (by intros; contradiction), (by intros; contradiction), fun h => (h rfl).elim, (by intros; contradiction), (by intros; contradiction), trivial⟩ rfl (aJ.yy S.cx (by intro t x h; injection h) (by intro z v h; injection h)) (by intros; contradiction) ?_
 ·unfold toks0
  rw [List.range_eq_range', ← hl]
  exact nodes_all' (fun j => rfl) xs 0 (fun j hj => by rw [Nat.zero_add]; exact syms_int W.v hs hj) huk
 ·refine news_all (by unfold mksL; rw [List.length_map, List.length_range, hpl]) (fun j p a h1 h2 => ?_) (fun j hj => ?_) hut
  ·have hj : j < rr := by have := (List.getElem?_eq_some_iff.mp h1).1; omega
   refine ⟨7 + j, by unfold mksL; rw [List.getElem?_map, List.getElem?_range hj]; rfl, ?_⟩
   have hj2 : j = 0 ∨ j = 1 := by omega
   rcases hj2 with rfl | rfl
   ·rw [hp0] at h1; injection h1 with q1; injection q1 with q2; subst q2
    rw [ha0] at h2; injection h2 with q1; subst q1
    rfl
   ·rw [ha1 p h1] at h2; injection h2 with q1; subst q1
    rfl
  ·refine xvpd (fun p hp => ?_) (hpp j (by omega))
   exact ⟨p, hp⟩
 ·intro hj
  by_cases h1 : 1 < rr
  ·have := mkat 1 h1 a1 ha1 (gT ++ ρt)
   rw [show (bif Nat.blt 1 rr then O.mk [28, 1] else .junk) = .mk [28, 1] from by rw [bI.mpr h1]; rfl]
   exact this
  ·exact (hj (by rw [blt_false h1]; rfl)).elim
 ·intro hmut
  cases hb : Nat.blt 1 rr <;> (rw [hb] at hmut; injection hmut)
 ·intro z hz
  cases hb : Nat.blt 1 rr <;> (rw [hb] at hz; injection hz)
 ·exact fn_conv (fun b o e => hideAll_get _ (hX b o e) (by nofun)) (by (revert hfv; refine xppvpp fun h1 h2 fd h3 h4 => ?_); exact hac) rfl hfv
 ·refine ConvM.map hd4 ⟨rfl, fun u h => h, rfl, fun u h => @VR.handed τ _ _ _ h, rfl, fun u h => @VR.handed τ _ _ _ h, rfl, fun u h => @VR.handed τ _ _ _ h, rfl, fun u h => ?_, rfl, fun u h => ?_, rfl, fun u h => ?_, rfl, fun u h => cur_conv W.v g4 rfl h, rfl, fun u h => ?_, trivial⟩
  ·revert h; refine aQ fun y hy q1 => ?_; subst q1
   rw [havv] at hy; injection hy with q1; subst q1
   exact ⟨avv, rfl, rfl⟩
  ·revert h; refine aQ fun y hy q1 => ?_; subst q1
   rw [haa] at hy; injection hy with q1; subst q1
   exact ⟨aa, rfl, rfl⟩
  ·revert h; refine aQ fun y hy q1 => ?_; subst q1
   rw [hab] at hy; injection hy with q1; subst q1
   exact ⟨ab, rfl, rfl⟩
  ·revert h; refine aQ fun y hy q1 => ?_; subst q1
   rw [hae] at hy; injection hy with q1; subst q1
   exact ⟨ae, rfl, rfl⟩
 ·refine ConvM.dr hvv2 ⟨rfl, fun u h => @VR.handed τ _ _ _ h, rfl, fun u h => ?_, rfl, fun u h => h, trivial⟩
  revert h; refine aQ fun y hy q1 => ?_; subst q1
  rw [hatt] at hy; injection hy with q1; subst q1
  exact ⟨att, rfl, rfl⟩
 ·exact two_list htt2 (fun u h => h) fun u h => h
 ·intro i i' o o' x e _ hmut
  exfalso
  match i with
  | 0 | 1 | 2 | 4 | 5 | 6 | 7 | 8 | 9 | 10 | 11 | 12 => injection e with q1; subst q1; injection hmut
  | 3 =>
   injection e with q1; subst q1
   revert hmut
   show (bif Nat.blt 1 rr then O.mk [28, 1] else .junk).mut = true → False
   cases Nat.blt 1 rr <;> intro h <;> injection h
  | i + 13 => injection e
end
theorem three_of {τ : Tau} {ρ : List Addr} {a b c : V} {us : List Value} (h : @cQ τ ρ [a, b, c] us) : ∃ u0 u1 u2, us = [u0, u1, u2] ∧ @VR τ ρ a u0 ∧ @VR τ ρ b u1 ∧ @VR τ ρ c u2 :=
 h.un fun u0 _ e0 h0 t => t.un fun u1 _ e1 h1 t => t.un fun u2 _ e2 h2 t => ⟨u0, u1, u2, by rw [e0, e1, e2, t.nl], h0, h1, h2⟩
section
variable {P : Program} {w : World} {K : Frag} {q : Bool} {ne : List Nat → Str → Bool} {orc : Qn → Option V}
theorem kept_hook {τ : Tau} {κs : Nat → Str × Option Nat} {m rr : Nat} (W : KeptOk P w τ κs rr) (hr : rr < 3) (hm : m < 7) : @wJ τ P w (gy q ne orc) K gT (keptP (picks κs m rr) m rr) := by
 intro n fv vs u us σ X s A l Q E res h S hf hv H
 revert h; refine iQ fun h1 h => ?_
 revert h; refine oB fun p h2 h => ?_
 revert h; refine oB fun xs h3 h => ?_
 revert h; refine oB fun ps h4 h => ?_
 revert h; refine oB fun F h5 h => ?_
 revert h; refine iQ fun h6 h => ?_
 revert h; refine oB fun c h7 h => ?_
 refine oB (fun cu h8 h9 => ?_) h
 refine xpp (fun hz hres => ?_) (pushH_ok h9)
 subst hres
 clear h h9
 rw [threeN_ok h2] at hv
 have hfv := isOld_ok (aL h1)
 subst hfv
 have d3 := aL (aR h6)
 have h0 := bI.mp (aR (aR h1))
 have hval := valB_ok h7
 subst hval
 obtain ⟨u0, u1, u2, rfl, ⟨ak, hak, rfl⟩, ⟨at', hat, rfl⟩, ⟨av, hav, rfl⟩⟩ := three_of hv
 cases hf
 refine xvpppp (fun ρ S' g5 g6 g9 => ?_) (kept_small W h0 hr hm S (nL (aL (aR h1))) (listI_ok h3) (tupI_ok h4) (fnI_ok h5) hak hat hav (nE (aL h6)) d3 (aR (aR h6)) h8)
 refine ke_call (us := [.ref ak, .ref at', .ref av]) (nv := fun j => dQ (@dn τ (xs.getD j .any))) (cu := dQ (@dn τ cu)) (κs := κs) h0 hr hm W.k S' ⟨⟨ak, g5, rfl⟩, ⟨at', g6, rfl⟩, ⟨av, g9, rfl⟩, trivial⟩ fun Y s' u' hY R' hu' => ?_
 exact picks_up (τ' := fun _ => keτ P w κs (fun j => dQ (@dn τ (xs.getD j .any))) (dQ (@dn τ cu))) (i := 19) W.v d3 (fun j => rfl) S hz hY R' ((nQ (os := keOut κs m rr) (nL rfl) 19).trans rfl) hu' H
end
noncomputable def lastH (L : List Nat) (m r d : Nat) : Hook := orH (takeH (knA 2 d)) (orH madeH2 (orH (lkeptP L m r) (keptP L m r)))
noncomputable def cutL : Cut := ⟨[sOf "word", sOf "some", sOf "rows", sOf "place", sOf "node", sOf "words", sOf "name", sOf "held"], [], fun _ => [6, 7, 8, 9, 10], tmOf [], fun _ => []⟩
noncomputable def endR (r : Rc) (σ : St) : Option St := match r.exs f0 (part 21 22) σ with
 | .ok (.ret (.bool true)) σ => (cutL.gc σ).st σ
 | _ => none
noncomputable def outs (m r : Nat) : List (List Nat) := bif Nat.beq r 0 then [List.range m] else bif Nat.beq m 0 then [[]] else bif Nat.beq m 1 then [[], [0]] else List.range m :: [] :: (List.range m).map fun j => [j]
noncomputable def casesL : List (Nat × Nat × Nat × List Nat) := (List.range 7).flatMap fun m => (List.range 3).flatMap fun r => [0, 1].flatMap fun d => (outs m r).map fun L => (m, r, d, L)
noncomputable def evLl (c : Nat × Nat × Nat × List Nat) : Option St := endR (rcsH (gL noP) (lastH c.2.2.2 c.1 c.2.1 c.2.2.1) 70) (oS (osI c.1 c.2.1))
noncomputable def evLr (c : Nat × Nat × Nat × List Nat) : Option St := some (oS osE)
theorem evL1 : (casesL.take 100).map (evLl) = (casesL.take 100).map evLr := by kernel_rfl
theorem evL2 : (casesL.drop 100).map (evLl) = (casesL.drop 100).map evLr := by kernel_rfl
theorem evL : casesL.map (evLl) = casesL.map evLr := mapHalf 100 evL1 evL2
noncomputable def Form (m : Nat) (l : List Nat) : Prop := l = List.range m ∨ l = [] ∨ ∃ j, j < m ∧ l = [j]
noncomputable def formB (m : Nat) (l : List Nat) : Bool := eqL0 l (List.range m) || (match l with
 | [] => true
 | [j] => Nat.blt j m
 | _ => false)
theorem formB_ok {m : Nat} {l : List Nat} (h : formB m l = true) : Form m l := by
 unfold formB at h
 refine orE (fun h => ?_) (fun h => ?_) (Bool.or_eq_true_iff.mp h)
 ·exact .inl (rJ.mp h)
 ·split at h
  ·exact .inr (.inl rfl)
  ·exact .inr (.inr ⟨_, bI.mp h, rfl⟩)
  ·injection h
theorem sel_forms : (lQ.all fun κ => (List.range 7).all fun m => formB m (selL κ m)) = true := by kernel_rfl
theorem sel_form {κ : Str × Option Nat} (hk : κ ∈ lQ) {m : Nat} (hm : m < 7) : Form m (selL κ m) := formB_ok (List.all_eq_true.mp (List.all_eq_true.mp sel_forms κ hk) m (List.mem_range.mpr hm))
theorem map_getD (l : List Nat) : (List.range l.length).map (fun j => l.getD j 0) = l := by
 refine List.ext_getElem? fun i => ?_
 rw [List.getElem?_map]
 by_cases hi : i < l.length
 ·rw [List.getElem?_range hi, List.getElem?_eq_getElem hi, Option.map_some, List.getD_eq_getElem?_getD, List.getElem?_eq_getElem hi]; rfl
 ·rw [List.getElem?_eq_none_iff.mpr (by rw [List.length_range]; omega), List.getElem?_eq_none_iff.mpr (by omega)]; rfl
theorem Form.comp {m : Nat} {l l' : List Nat} (h : Form m l) (h' : Form l.length l') : Form m (l'.map fun j => l.getD j 0) := by
 rcases h' with rfl | rfl | ⟨j, hj, rfl⟩
 ·rw [map_getD]; exact h
 ·exact .inr (.inl rfl)
 ·rcases h with rfl | rfl | ⟨i, hi, rfl⟩
  ·rw [List.length_range] at hj
   refine .inr (.inr ⟨j, hj, ?_⟩)
   rw [List.map_singleton, List.getD_eq_getElem?_getD, List.getElem?_range hj]; rfl
  ·cases hj
  ·have : j = 0 := by simpa using hj
   subst this
   exact .inr (.inr ⟨i, hi, rfl⟩)
theorem picks_len (κs : Nat → Str × Option Nat) (m i : Nat) : (picks κs m i).length = mS κs m i := by unfold picks; rw [List.length_map, List.length_range]
theorem picks_zero (κs : Nat → Str × Option Nat) (m : Nat) : picks κs m 0 = List.range m := by
 unfold picks
 show (List.range m).map (fun j => j) = _
 exact List.map_id' _
theorem picks_succ {κs : Nat → Str × Option Nat} {m i : Nat} (hlt : ∀ p ∈ selL (κs i) (mS κs m i), p < mS κs m i) : picks κs m (i + 1) = (selL (κs i) (mS κs m i)).map fun p => (picks κs m i).getD p 0 := by
 show (List.range (selL (κs i) (mS κs m i)).length).map (fun j => pickS κs m i ((selL (κs i) (mS κs m i)).getD j 0)) = _
 have e : (List.range (selL (κs i) (mS κs m i)).length).map (fun j => pickS κs m i ((selL (κs i) (mS κs m i)).getD j 0)) = ((List.range (selL (κs i) (mS κs m i)).length).map fun j => (selL (κs i) (mS κs m i)).getD j 0).map (pickS κs m i) := by rw [List.map_map]; rfl
 rw [e, map_getD]
 refine List.map_congr_left fun p hp => ?_
 have := hlt p hp
 unfold picks
 rw [List.getD_eq_getElem?_getD, List.getElem?_map, List.getElem?_range this]; rfl
theorem sel_lt {κ : Str × Option Nat} {m p : Nat} (h : p ∈ selL κ m) : p < m := List.mem_range.mp (List.mem_filter.mp h).1
theorem picks_form {κs : Nat → Str × Option Nat} {m : Nat} (hm : m < 7) : ∀ {rr : Nat}, (∀ i, i < rr → κs i ∈ lQ) → Form m (picks κs m rr)
 | 0, _ => .inl (picks_zero κs m)
 | rr + 1, hk => by
  rw [picks_succ fun p hp => sel_lt hp]
  refine (picks_form hm fun i hi => hk i (by omega)).comp ?_
  rw [picks_len]
  exact sel_form (hk rr (by omega)) (Nat.lt_of_le_of_lt (mS_le rr) hm)
theorem form_outs {m r : Nat} {l : List Nat} (hr : 0 < r) (h : Form m l) : l ∈ outs m r := by
 have hr0 : Nat.beq r 0 = false := by
  refine qJ (Nat.beq r 0) (fun q => ?_) (fun q => ?_)
  ·rfl
  ·have := nE q; omega
 unfold outs
 rw [hr0, cond_false]
 by_cases h0 : m = 0
 ·subst h0
  rcases h with rfl | rfl | ⟨j, hj, rfl⟩
  ·exact .head _
  ·exact .head _
  ·omega
 ·by_cases h1 : m = 1
  ·subst h1
   rcases h with rfl | rfl | ⟨j, hj, rfl⟩
   ·exact .tail _ (.head _)
   ·exact .head _
   ·have : j = 0 := by omega
    subst this
    exact .tail _ (.head _)
  ·have e0 : Nat.beq m 0 = false := by
    refine qJ (Nat.beq m 0) (fun q => ?_) (fun q => ?_)
    ·rfl
    ·exact (h0 (nE q)).elim
   have e1 : Nat.beq m 1 = false := by
    refine qJ (Nat.beq m 1) (fun q => ?_) (fun q => ?_)
    ·rfl
    ·exact (h1 (nE q)).elim
   rw [e0, e1, cond_false, cond_false]
   rcases h with rfl | rfl | ⟨j, hj, rfl⟩
   ·exact .head _
   ·exact .tail _ (.head _)
   ·exact .tail _ (.tail _ (List.mem_map.mpr ⟨j, List.mem_range.mpr hj, rfl⟩))
theorem mem_casesL {κs : Nat → Str × Option Nat} {m r d : Nat} (hm : m < 7) (hr : r < 3) (hd : d < 2) (hk : ∀ i, i < r → κs i ∈ lQ) : (m, r, d, picks κs m r) ∈ casesL := by
 refine List.mem_flatMap.mpr ⟨m, List.mem_range.mpr hm, List.mem_flatMap.mpr ⟨r, List.mem_range.mpr hr, List.mem_flatMap.mpr ⟨d, ?_, List.mem_map.mpr ⟨_, ?_, rfl⟩⟩⟩⟩
 ·have : d = 0 ∨ d = 1 := by omega
  simpa using this
 ·by_cases h0 : r = 0
  ·subst h0
   rw [picks_zero]
   exact .head _
  ·exact form_outs (by omega) (picks_form hm hk)
noncomputable def rowκ (x : Str) (n : Nat) : Str × Option Nat := (x, bif eqS x (sOf "number") then some n else none)
noncomputable def kapB (κ κ' : Str × Option Nat) : Bool := eqS κ.1 κ'.1 && (match κ.2, κ'.2 with
 | some a, some b => Nat.beq a b
 | none, none => true
 | _, _ => false)
theorem kapB_ok {κ κ' : Str × Option Nat} (h : kapB κ κ' = true) : κ = κ' := by
 refine aN (fun h1 h2 => ?_) h
 obtain ⟨x, a⟩ := κ
 obtain ⟨y, b⟩ := κ'
 dsimp only at h1 h2
 rw [eI.mp h1]
 congr 1
 split at h2
 ·rw [nE h2]
 ·rfl
 ·injection h2
theorem rows_kinds : (tQ.all fun x => (List.range 4).all fun j => lQ.any fun κ => kapB κ (rowκ x (j + 1))) = true := by kernel_rfl
theorem row_kind {x : Str} (hx : x ∈ tQ) {j : Nat} (hj : j < 4) : rowκ x (j + 1) ∈ lQ := by
 refine aQ (fun κ h1 h2 => ?_) (List.any_eq_true.mp (List.all_eq_true.mp (List.all_eq_true.mp rows_kinds x hx) j (List.mem_range.mpr hj)))
 rw [← kapB_ok h2]
 exact h1
noncomputable def κI (ex : List Nat → V) (r i : Nat) : Str × Option Nat := bif Nat.blt i r then rowκ (strOf (ex [26, i])) (dQ (ex [27, i])).toNat else (sOf "x", none)
theorem x_kind : (sOf "x", none) ∈ lQ := by unfold lQ; simp
noncomputable def exL (m r : Nat) (ex : List Nat → V) : List Nat → V
 | [25, p] => .int (bif Nat.blt p m then dQ (ex [25, p]) else 0)
 | [26, i] => .str (κI ex r i).1
 | [27, i] => .int (bif Nat.blt i r then dQ (ex [27, i]) else 0)
 | _ => .int 0
noncomputable def pkL (r : Nat) (ex : List Nat → V) : List Nat → List O
 | [28, i] => (zJ (κI ex r i)).map wrapO
 | _ => []
theorem κI_mem {m r : Nat} {ex : List Nat → V} (hX : ExI m r ex) (i : Nat) : κI ex r i ∈ lQ := by
 unfold κI
 by_cases hi : i < r
 ·rw [bI.mpr hi, cond_true]
  refine aQ (fun x hx hxe => ?_) (hX.w i hi)
  refine aQ (fun j hj hje => ?_) (hX.n i hi)
  rw [hxe, hje]
  have : (dQ (V.int ((j + 1 : Nat) : Int))).toNat = j + 1 := by
   show (((j + 1 : Nat) : Int)).toNat = j + 1
   omega
  rw [this]
  exact row_kind hx hj
 ·rw [blt_false hi, cond_false]
  exact x_kind
theorem κI_num {m r : Nat} {ex : List Nat → V} (hX : ExI m r ex) {i d : Nat} (hd : (κI ex r i).2 = some d) : (bif Nat.blt i r then dQ (ex [27, i]) else 0) = (d : Int) := by
 unfold κI at hd
 by_cases hi : i < r
 ·rw [bI.mpr hi, cond_true] at hd ⊢
  refine aQ (fun j hj hje => ?_) (hX.n i hi)
  unfold rowκ at hd
  dsimp only at hd
  revert hd; refine iF fun _ hd => ?_
  rw [hje] at hd ⊢
  rw [← hd]
  show (((j + 1 : Nat) : Int)) = ((((j + 1 : Nat) : Int)).toNat : Int)
  omega
 ·rw [blt_false hi, cond_false] at hd
  injection hd
noncomputable def tblI (m r : Nat) : List (List Nat × V) := [([2], .sym [2]), ([3], .sym [3])] ++ (List.range m).map (fun p => ([25, p], V.sym [25, p])) ++ (List.range r).map (fun i => ([26, i], V.sym [26, i])) ++ (List.range r).map (fun i => ([27, i], V.sym [27, i]))
noncomputable def cutI (m r : Nat) : Cut := ⟨[], [], fun _ => [], tmOf (tblI m r), fun _ => []⟩
noncomputable def casesV : List (Nat × Nat) := (List.range 7).flatMap fun m => (List.range 3).map fun r => (m, r)
theorem evI : (casesV.map fun c => ((cutI c.1 c.2).gc (oS (osI c.1 c.2))).st (oS (osI c.1 c.2))) = casesV.map fun c => some (oS (osI c.1 c.2)) := by kernel_rfl
theorem evI_at {m r : Nat} (hm : m < 7) (hr : r < 3) : ((cutI m r).gc (oS (osI m r))).st (oS (osI m r)) = some (oS (osI m r)) := by
 have h := eJ evI (x := (m, r)) (List.mem_flatMap.mpr ⟨m, List.mem_range.mpr hm, List.mem_map.mpr ⟨r, List.mem_range.mpr hr, rfl⟩⟩)
 dsimp only at h
 exact h
theorem evL_at {m r d : Nat} {L : List Nat} (h : (m, r, d, L) ∈ casesL) : endR (rcsH (gL noP) (lastH L m r d) 70) (oS (osI m r)) = some (oS osE) := by
 have h := eJ evL h
 unfold evLl evLr at h
 dsimp only at h
 exact h
set_option tactic.hygienic true in
theorem endR_ok {r : Rc} {σ σ' : St} (h : endR r σ = some σ') : ∃ σ'', r.exs f0 (part 21 22) σ = .ok (.ret (.bool true)) σ'' ∧ (cutL.gc σ'').st σ'' = some σ' := by
 unfold endR at h
 split at h
 ·rename_i σ'' e
  exact ⟨σ'', e, h⟩
 ·injection h
section
variable {P : Program} {w : World} {a b : Int} {ex : List Nat → V} {nn m r : Nat}
theorem rowsI (hX : ExI m r ex) : RowsOk (jQ P w a b (exL m r ex) nn (pkL r ex)) (κI ex r) r where
 v := fun p => ⟨_, rfl⟩
 w := fun i _ => rfl
 n := fun i _ => ⟨_, rfl, fun d hd => κI_num hX hd⟩
 k := fun i _ => κI_mem hX i
theorem rowsM (hX : ExI m r ex) : RowsMk P w (jQ P w a b (exL m r ex) nn (pkL r ex)) (κI ex r) where
 k := fun i _ => κI_mem hX i
 wd := fun i _ => rfl
 n := fun i _ => ⟨_, rfl, fun d hd => κI_num hX hd⟩
 p := fun i _ => rfl
theorem keptI (hX : ExI m r ex) : KeptOk P w (jQ P w a b (exL m r ex) nn (pkL r ex)) (κI ex r) r where
 v := fun p => ⟨_, rfl⟩
 k := fun i _ => κI_mem hX i
 p := fun i _ => rfl
end
theorem last_ok : LastOk := by
 intro Z a b ex nn pk m r s Q E hm hr hX L q
 have L' : LawS Z a b (exL m r ex) nn (pkL r ex) (osI m r) s := by
  refine L.view (C := cutI m r) (evI_at hm hr) (osI_ns _ _ hr) ⟨aZ.h21, aZ.h22⟩ (hZ ?_) fun X => ov_nil
  intro p hp ρ u hu
  refine orE (fun hp => ?_) (fun hp => ?_) (List.mem_append.mp hp)
  ·refine orE (fun hp => ?_) (fun hp => ?_) (List.mem_append.mp hp)
   ·refine orE (fun hp => ?_) (fun hp => ?_) (List.mem_append.mp hp)
    ·simp only [List.mem_cons, List.not_mem_nil, or_false] at hp
     rcases hp with rfl | rfl <;> exact hu
    ·refine aQ (fun i hi q1 => ?_) (List.mem_map.mp hp); subst q1
     have hi := List.mem_range.mp hi
     refine xvp (fun j hj => ?_) (hX.h i hi)
     have e : (jQ Z.P Z.w a b ex nn pk).tau [25, i] = .int j := by
      show (bif isSc (ex [25, i]) then ex [25, i] else V.bool true) = _
      rw [hj]; rfl
     rw [e] at hu
     show ScR (V.int (bif Nat.blt i m then dQ (ex [25, i]) else 0)) u
     rw [bI.mpr hi, cond_true, hj]
     exact hu
   ·refine aQ (fun i hi q1 => ?_) (List.mem_map.mp hp); subst q1
    have hi := List.mem_range.mp hi
    refine xvdp (fun x hx => ?_) (hX.w i hi)
    have e : (jQ Z.P Z.w a b ex nn pk).tau [26, i] = .str x := by
     show (bif isSc (ex [26, i]) then ex [26, i] else V.bool true) = _
     rw [hx]; rfl
    rw [e] at hu
    show ScR (V.str (κI ex r i).1) u
    unfold κI
    rw [bI.mpr hi, cond_true, hx]
    exact hu
  ·refine aQ (fun i hi q1 => ?_) (List.mem_map.mp hp); subst q1
   have hi := List.mem_range.mp hi
   refine xvdp (fun j hj => ?_) (hX.n i hi)
   have e : (jQ Z.P Z.w a b ex nn pk).tau [27, i] = .int ((j + 1 : Nat) : Int) := by
    show (bif isSc (ex [27, i]) then ex [27, i] else V.bool true) = _
    rw [hj]; rfl
   rw [e] at hu
   show ScR (V.int (bif Nat.blt i r then dQ (ex [27, i]) else 0)) u
   rw [bI.mpr hi, cond_true, hj]
   exact hu
 refine aQ (fun d hd ed => ?_) (dig_nat a b (t := 2) (by decide) [])
 obtain ⟨_, X, I, S, e⟩ := L'
 refine aQ (fun σ'' h1 h2 => ?_) (endR_ok (evL_at (mem_casesL (κs := κI ex r) hm hr hd fun i _ => κI_mem hX i)))
 have hH : @wJ (jQ Z.P Z.w a b (exL m r ex) nn (pkL r ex)) Z.P Z.w (gL noP) Z.K gT (lastH (picks (κI ex r) m r) m r d) :=
  or_hook (take_hook (τ := jQ Z.P Z.w a b (exL m r ex) nn (pkL r ex)) lawτ_draw (knA_ok ed)) (or_hook (made_hook2 (rowsM hX)) (or_hook (lkept_hook (rowsI hX) hr hm) (kept_hook (keptI hX) hr hm)))
 have cx := @Sit.cx (jQ Z.P Z.w a b (exL m r ex) nn (pkL r ex)) _ _ _ _ _ _ _ _ _ _ _ S
 refine @Snd.exs (jQ Z.P Z.w a b (exL m r ex) nn (pkL r ex)) Z.P Z.w (gL noP) Z.K gT 70 _ (@sndH (jQ Z.P Z.w a b (exL m r ex) nn (pkL r ex)) Z.P Z.w (gL noP) Z.K gT _ hH 70) f0 (part 21 22) (oS (osI m r)) X s Z.A Z.l Z.env Q E S e ?_
 rw [h1]
 intro Y s' u hy R hu
 revert hu; refine aQ fun v q1 hv => ?_; subst q1
 have hv : v = Value.bool true := hv
 subst hv
 refine q s' fun τ' => ?_
 have I' : LawI Z.X₀ Y := ⟨fun b o z => hy.b b o (I.b b o z), hy.g.trans I.g, hy.o.trans I.o, hy.f.trans I.f, fun i hi => by
  rw [← I.r i hi]
  refine xvp (fun z hz => ?_) (hy.r)
  rw [← hz, List.getElem?_append_left (by have := I.n; omega)], by
  refine xvp (fun z hz => ?_) (hy.r)
  rw [← hz, List.length_append]
  have := I.n
  omega⟩
 have hl : Y.ρ.length = σ''.size := @Rel.len (jQ Z.P Z.w a b (exL m r ex) nn (pkL r ex)) _ _ _ _ _ R
 refine xvp (fun osys hsys => ?_) (@aJ.sysm (jQ Z.P Z.w a b (exL m r ex) nn (pkL r ex)) _ _ _ _ cx)
 refine ⟨Y.gc (cutL.gc σ'') [5], I'.gc h2 hl, ?_, Rel.gc R h2 none_tm ov_nil ⟨osys, hy.b _ _ hsys⟩ fun k hk => ?_⟩
 ·show ((cutL.gc σ'').e.map _).length = 11
  rw [List.length_map, ← (Gc.st_some h2).2.2.1]
  exact sQ (os := osE) (nL rfl)
 ·rw [List.mem_singleton.mp hk]
  exact osE_ns
end Mine
end
section
open PySem PySem.W PySem.W.X PySem.Calls PyProof.Rows PySem.SeqAt
set_option maxHeartbeats 0
namespace Mine
theorem S0_abs (P : Params) (os : OsState) : (S0 P os).abs = ⟨boot_heap P, #[], boot_drawn, boot_toks, os⟩ := by kernel_rfl
theorem look_out {α β : Type} {x : Option SharedT} {a : SharedT → Bool} {b : SharedT → β} {c : SharedT → α} {g : β} {y : α} (h : x.map (fun sT => (a sT, b sT, c sT)) = some (true, g, y)) :
  ∃ sT, x = some sT ∧ a sT = true ∧ b sT = g ∧ c sT = y := by
 cases x with
 | none => cases h
 | some sT => injection h with h; injection h with h1 h; injection h with h2 h3; exact ⟨sT, rfl, h1, h2, h3⟩
theorem left_gen {p q : Program} {loose : List Str} {α : Type} {Yf : Shared → α} {Ya : World → α} {N : Nat} {H₀ : Params → Heap} {d₀ : Drawn} {k₀ m₀ : Nat} {ann : Option Value}
  (open_ : ∀ w : World, (fencedOpening treeTable p w N).map (fun s => (s.heap, s.gens, s.drawn, s.toks)) = some (H₀ w.params, #[], d₀, k₀))
  (size : ∀ w : World, ((H₀ w.params).isNs mainGlobals && (#[] : Array GenState).size == 0) = true ∧ (H₀ w.params).objs.size = m₀ ∧ (H₀ w.params).nsMap mainGlobals "__annotations__" = ann)
  (run : ∀ (w : World) (os : OsState), ∃ s₁ : Shared, topRun treeTable p w m₀ ann N ⟨H₀ w.params, #[], d₀, k₀, os⟩ (topStub p) = some s₁ ∧ topOk p (H₀ w.params) s₁ = true ∧
   openSeen q loose (importedModules p.main.body) (fun _ => true) true s₁ = openGood q loose ∧ Yf s₁ = Ya w) : LeftO p q loose (fun _ => true) Yf Ya N := fun w => by
 obtain ⟨⟨hh, gs, d, k, os⟩, e, e'⟩ := Option.map_eq_some_iff.mp (open_ w)
 obtain ⟨rfl, rfl, rfl, rfl⟩ : hh = H₀ w.params ∧ gs = #[] ∧ d = d₀ ∧ k = k₀ := by simpa using e'
 obtain ⟨z1, z2, z3⟩ := size w
 obtain ⟨s₁, r, l1, l2, l3⟩ := run w os
 have t : topFrom treeTable p w N ⟨H₀ w.params, #[], d, k, os⟩ = some s₁ := by
  unfold topFrom
  dsimp only
  rw [z1, z2, z3, r]
  show (match topOk p (H₀ w.params) s₁ with | true => _ | false => _) = _
  rw [l1]
 unfold openEnds
 rw [e]
 show (topFrom treeTable p w N _).map _ = _
 rw [t]
 exact congrArg some (Prod.ext l2 l3)
noncomputable def lookT {α : Type} (Yf : Shared → α) (w : World) (s : Shared) :=
 (topOk pw (boot_heap w.params) s, openSeen qv looseV (importedModules pw.main.body) (fun _ => true) true s, Yf s)
theorem boot_size : ∀ w : World, ((boot_heap w.params).isNs mainGlobals && (#[] : Array GenState).size == 0) = true ∧ (boot_heap w.params).objs.size = 11 ∧ (boot_heap w.params).nsMap mainGlobals "__annotations__" = some (.ref 6) := by
 intro w; exact ⟨by kernel_rfl, by kernel_rfl, by kernel_rfl⟩
theorem opens_body : pw.main.body.takeWhile opensTheText = [] := by kernel_rfl
theorem opens : opening pw = plainProg pw.main.scope.names := by
 unfold opening
 rw [opens_body]
 kernel_rfl
theorem fences : ∀ s, fenceModules? pw s = some s := by intro s; kernel_rfl
theorem runs {α : Type} {p : Program} {w : World} {os : OsState} {n : Nat} {t : Thread} {β : Type} {a : SharedT → Bool} {b : SharedT → β} {c : SharedT → α} {g : β} {y : α}
  (h : (runT p w n (S0 w.params os) t).map (fun sT => (a sT, b sT, c sT)) = some (true, g, y)) :
  ∃ sT : SharedT, topRun treeTable p w 11 (some (.ref 6)) n ⟨boot_heap w.params, #[], boot_drawn, boot_toks, os⟩ t = some sT.abs ∧ a sT = true ∧ b sT = g ∧ c sT = y := by
 obtain ⟨sT, r, l⟩ := look_out h
 have r := runT_spec r
 rw [S0_abs] at r
 exact ⟨sT, r, l⟩
theorem left_of {α : Type} {Yf : Shared → α} {Ya : World → α} (h : ∀ (w : World) (os : OsState), (runT pw w 9000 (S0 w.params os) (topStub pw)).map (fun sT => lookT Yf w sT.abs) = some (true, openGood qv looseV, Ya w)) :
  LeftO pw qv looseV (fun _ => true) Yf Ya 9000 :=
 left_gen (boot_open (N := 9000) opens (by decide) fences) boot_size fun w os => by
  obtain ⟨sT, r, l⟩ := runs (a := fun sT => topOk pw (boot_heap w.params) sT.abs) (b := fun sT => openSeen qv looseV (importedModules pw.main.body) (fun _ => true) true sT.abs) (c := fun sT => Yf sT.abs) (h w os)
  exact ⟨sT.abs, r, l⟩
theorem hdef : defOf qv rw0.row.name = some (dLaw, []) := by kernel_rfl
theorem hp : rw0.row.prog.theDef rw0.row.name = some (dLaw.params, dLaw.body, dLaw.scope) := by kernel_rfl
theorem hkw : kwWritten? dLaw.params.kwonlyargs dLaw.params.kw_defaults = some [] := by kernel_rfl
theorem hok : (chainsOk qv && opensWell rw0.row.prog && (frees rw0.row.toRowW && rw0.row.within.isEmpty)) = true := by kernel_rfl
theorem hbare : rw0.row.prog.bare := ⟨rfl, rfl, rfl, rfl, rfl, by decide +kernel⟩
theorem hprom : rw0.row.toRowW.promised := ⟨[.list [.int 1]], by decide +kernel, by decide +kernel⟩
theorem head {α : Type} {Yf : Shared → α} {Ya : World → α} (h : ∀ (w : World) (os : OsState), (runT pw w 9000 (S0 w.params os) (topStub pw)).map (fun sT => lookT Yf w sT.abs) = some (true, openGood qv looseV, Ya w))
  (walk : WalkL Yf Ya) : rw0.Holds :=
 holds_law ws fun said => holds_openX (q := qv) (loose := looseV) (Xt := fun _ => true) (XP := fun _ _ => True) (left_of h) (fun _ _ => trivial) (fun _ _ _ _ _ => trivial) hdef hp hkw (fun _ _ => recFacts_nil rfl) rfl said hok hbare hprom walk
theorem seenAll (w : World) (os : OsState) : (runT pw w 9000 (S0 w.params os) (topStub pw)).map (fun sT => lookT ctxObs w sT.abs) = some (true, openGood qv looseV, ctxVal w) := by
 have h1 := seen1 w os
 have h2 := seen2 w os
 refine oE (runT pw w 9000 (S0 w.params os) (topStub pw)) (fun e => ?_) fun sT e => ?_
 ·rw [e] at h1; injection h1
 ·rw [e] at h1
  rw [runN_of e] at h2
  rw [e]
  simp only [Option.map_some, Option.some.injEq, Prod.mk.injEq] at h1 h2
  obtain ⟨a1, a2⟩ := h1
  obtain ⟨b1, b2, b3, b4⟩ := h2
  simp only [Option.map_some, Option.some.injEq]
  have c1 : ctxB sT.abs = true := by rw [ctxG_eq, get_tree]; exact b1
  have c2 : fnObs sT.abs = fnVal := by unfold fnObs; rw [get_tree]; exact b2
  have c3 : sT.abs.heap.objs.size = 1305 := (absHeap_size _ _ _).trans b3
  have c4 : sT.abs.toks = 2031 := b4
  unfold lookT ctxObs ctxVal
  rw [a1, a2, c1, c2, c3, c4]
theorem whole (hI : LastOk) : rw0.Holds := head seenAll (walk hI)
end Mine
end
end
theorem PySem.Challenge.cw_xw0220_01_holds : PySem.Challenge.rw_xw0220_01.Holds :=
  Mine.whole Mine.last_ok
